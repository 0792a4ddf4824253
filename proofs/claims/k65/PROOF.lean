import PyProof.Rows.All
import Wide.All
import OpenK.AllK
import Wide.FinOn
import HandS.ForMost
import HandS.ForExc
import HandS.Flow
import HandS.Wide
import HandS.Exc
import HandS.ExcOwn
import HandS.ExcCtx
import HandS.Star
import HandS.TupAny
import HandS.Deep
import HandS.Style
import HandS.IsInst
import KE.DataCmp
import HandS.Conv
import HandS.Ends
import HandS.TryOnly
import HandS.TryMany
import KE.KExcInit
import PyProof.ExcBaseAll.ValueError
import PyProof.ExcBaseAll.LookupError
import PyProof.ExcBaseAll.OverflowError
import PyProof.ExcBaseAll.RuntimeError
import HandS.More
import HandS.Zip
import KE.KExcIs
import HandS.ExcIs
import HandS.Property
import HandS.MakeKwOnly
import HandS.SlotsOwn
import PyProof.InstEq
import HandS.RaiseMore
import HandS.FStr
import HandS.Codes
import HandS.ClsMeth
import HandS.Replace
import PyProof.AssignAttr
import PyProof.ReprLen
import HandS.Text
import HandS.ReplaceLit
import HandS.ReplaceDef
import HandS.ReplaceList
import HandS.Nested
import KE.KSuper
import KE.KDictZip
import KE.KDictItemsList
import HandS.Zip0
import HandS.ListItems
import HandS.StrMore
import KE.GoesEnum
import HandS.Iter
import HandS.TupMul
import PyProof.EqAt
import PyProof.NeKinds
import HandS.HeadEnd
import HandS.HeadHook1
import HandS.HeadHook2
import HandS.Head0
import HandS.Head1
import HandS.Head2
import PyProof.ListStr
import KE.SortKeyHeap
import KE.SortData
import HandS.SortKw
import HandS.DictComp
import HandS.RaiseFrom
import HandS.SuiteRaise
import PyProof.RulesAs
import KE.KStar
import HandS.IterVal
import HandS.OwnIter
import HandS.Hot
import HandS.HotCalls
import PySem.Challenge.RW_offeredentry_k65_tables_refused
set_option Elab.async false
set_option linter.all false
set_option maxRecDepth 100000
set_option maxHeartbeats 4000000
namespace DL
open PySem L2
/-! ### data -/
inductive D where
  | non
  | bl (b : Bool)
  | int (i : Int)
  | str (s : List Nat)
  | tup (ds : List D)
  | lst (ds : List D)
  | dic (ks vs : List D)
  | ins (c : Str) (ns : List Str) (ds : List D)
  | scr (is : List Int)
  /-- a caught error: its object, its dict, its field -/
  | xc (a dd : Addr) (f : Str) (d : D)
instance : Inhabited D := ⟨.non⟩
structure Exn where
  c : Str
  f : Str
  d : D
/-! ### two monads -/
inductive R (α : Type) where
  | ok (a : α)
  | ex (e : Exn)
  | stuck
@[simp] def R.bd {α β : Type} : R α → (α → R β) → R β
  | .ok a, f => f a
  | .ex e, _ => .ex e
  | .stuck, _ => .stuck
instance : Monad R where
  pure := .ok
  bind := R.bd
@[simp] theorem R.pure_eq {α : Type} (a : α) : (pure a : R α) = .ok a := rfl
@[simp] theorem R.bind_eq {α β : Type} (x : R α) (f : α → R β) : (x >>= f) = x.bd f := rfl
/-- the bag's content -/
structure S where
  x : Int
  y : Int
  z : Int
  l : List Int
  w : Bool
inductive MO (α : Type) where
  | ok (a : α) (s : S)
  | ex (e : Exn) (s : S)
  | stuck
def M (α : Type) : Type := S → MO α
@[simp] def MO.bd {α β : Type} : MO α → (α → M β) → MO β
  | .ok a s, f => f a s
  | .ex e s, _ => .ex e s
  | .stuck, _ => .stuck
instance : Monad M where
  pure := fun a s => .ok a s
  bind := fun x f s => (x s).bd f
theorem M.bind_ap {α β : Type} (x : M α) (f : α → M β) (s : S) : (x >>= f) s = (x s).bd f := rfl
class Mo (m : Type → Type) extends Monad m where
  lift : {α : Type} → R α → m α
  wp : {α : Type} → m α → S → (α → S → Prop) → (Exn → S → Prop) → Prop
  wp_mono : ∀ {α : Type} {x : m α} {s : S} {Q Q' : α → S → Prop} {E E' : Exn → S → Prop}, wp x s Q E → (∀ a s, Q a s → Q' a s) → (∀ e s, E e s → E' e s) → wp x s Q' E'
  wp_pure : ∀ {α : Type} {a : α} {s : S} {Q : α → S → Prop} {E : Exn → S → Prop}, wp (pure a) s Q E → Q a s
  wp_bind : ∀ {α β : Type} {x : m α} {f : α → m β} {s : S} {Q : β → S → Prop} {E : Exn → S → Prop}, wp (x >>= f) s Q E → wp x s (fun a s' => wp (f a) s' Q E) E
  tryC : {α : Type} → m α → (Exn → m α) → m α
  wp_try : ∀ {α : Type} {x : m α} {h : Exn → m α} {s : S} {Q : α → S → Prop} {E : Exn → S → Prop}, wp (tryC x h) s Q E → wp x s Q (fun e s' => wp (h e) s' Q E)
  noex : {α : Type} → m α → m α
  wp_noex : ∀ {α : Type} {x : m α} {s : S} {Q : α → S → Prop} {E : Exn → S → Prop}, wp (noex x) s Q E → wp x s Q (fun _ _ => False)
  wp_lift : ∀ {α : Type} {r : R α} {s : S} {Q : α → S → Prop} {E : Exn → S → Prop}, wp (lift r) s Q E → (match r with | .ok a => Q a s | .ex e => E e s | .stuck => False)
def R.wp {α : Type} (x : R α) (s : S) (Q : α → S → Prop) (E : Exn → S → Prop) : Prop := match x with
  | .ok a => Q a s
  | .ex e => E e s
  | .stuck => False
def MO.wp {α : Type} (x : MO α) (Q : α → S → Prop) (E : Exn → S → Prop) : Prop := match x with
  | .ok a s => Q a s
  | .ex e s => E e s
  | .stuck => False
/-- an exception is none here -/
@[simp] def R.nx {α : Type} : R α → R α
  | .ok a => .ok a
  | .ex _ => .stuck
  | .stuck => .stuck
@[simp] def MO.nx {α : Type} : MO α → MO α
  | .ok a s => .ok a s
  | .ex _ _ => .stuck
  | .stuck => .stuck
def M.nx {α : Type} (x : M α) : M α := fun s => (x s).nx
@[simp] def R.tr {α : Type} : R α → (Exn → R α) → R α
  | .ok a, _ => .ok a
  | .ex e, h => h e
  | .stuck, _ => .stuck
@[simp] def MO.tr {α : Type} : MO α → (Exn → M α) → MO α
  | .ok a s, _ => .ok a s
  | .ex e s, h => h e s
  | .stuck, _ => .stuck
def M.tr {α : Type} (x : M α) (h : Exn → M α) : M α := fun s => (x s).tr h
instance : Mo R where
  tryC := R.tr
  wp_try := fun {α x h s Q E} w => by
    cases x with
    | ok a => exact w
    | ex e => exact w
    | stuck => exact w
  noex := R.nx
  wp_noex := fun {α x s Q E} h => by
    cases x with
    | ok a => exact h
    | ex e => exact h
    | stuck => exact h
  lift := fun x => x
  wp := R.wp
  wp_mono := fun {α x s Q Q' E E'} h hq he => by
    cases x with
    | ok a => exact hq _ _ h
    | ex e => exact he _ _ h
    | stuck => exact h
  wp_pure := fun h => h
  wp_bind := fun {α β x f s Q E} h => by
    cases x with
    | ok a => exact h
    | ex e => exact h
    | stuck => exact h
  wp_lift := fun {α r s Q E} h => by cases r <;> exact h
def liftM' {α : Type} (r : R α) : M α := fun s => match r with
  | .ok a => .ok a s
  | .ex e => .ex e s
  | .stuck => .stuck
instance : Mo M where
  tryC := M.tr
  wp_try := fun {α x h s Q E} w => by
    have w' : ((x s).tr h).wp Q E := w
    show (x s).wp _ _
    cases e : x s with
    | ok a s' => rw [e] at w'; exact w'
    | ex ee s' => rw [e] at w'; exact w'
    | stuck => rw [e] at w'; exact w'
  noex := M.nx
  wp_noex := fun {α x s Q E} h => by
    have h' : ((x s).nx).wp Q E := h
    show (x s).wp _ _
    cases e : x s with
    | ok a s' => rw [e] at h'; exact h'
    | ex ee s' => rw [e] at h'; exact h'
    | stuck => rw [e] at h'; exact h'
  lift := liftM'
  wp := fun x s Q E => (x s).wp Q E
  wp_mono := fun {α x s Q Q' E E'} h hq he => by
    show (x s).wp Q' E'
    have h' : (x s).wp Q E := h
    cases e : x s with
    | ok a s' => rw [e] at h'; exact hq _ _ h'
    | ex ee s' => rw [e] at h'; exact he _ _ h'
    | stuck => rw [e] at h'; exact h'
  wp_pure := fun h => h
  wp_bind := fun {α β x f s Q E} h => by
    have h' : ((x s).bd f).wp Q E := h
    show (x s).wp _ _
    cases e : x s with
    | ok a s' => rw [e] at h'; exact h'
    | ex ee s' => rw [e] at h'; exact h'
    | stuck => rw [e] at h'; exact h'
  wp_lift := fun {α r s Q E} h => by cases r <;> exact h
end DL
namespace DL
open PySem L2
/-! ### a datum stands at a value -/
def Sub (H H' : Hp) : Prop := ∀ a o, H a = some o → H' a = some o
theorem Sub.refl (H : Hp) : Sub H H := fun _ _ h => h
theorem Sub.trans {H H1 H2 : Hp} (a : Sub H H1) (b : Sub H1 H2) : Sub H H2 := fun x o h => b x o (a x o h)
theorem Sub.rd {H H' : Hp} {a : Addr} {u : HO} (e : Sub H H') (h : Rd H a u) : Rd H' a u := by
  rcases h with h | ⟨o, h⟩
  · exact .inl (e a _ h)
  · exact .inr ⟨o, e a _ h⟩
theorem Sub.sql {K : PySem.W.Frag} {H H' : Hp} {a : Addr} {xs : List V} (e : Sub H H') (h : SqL K H a xs) : SqL K H' a xs := by
  rcases h with h | h
  · exact .inl (e.rd h)
  · exact .inr h
theorem Sub.sqt {K : PySem.W.Frag} {H H' : Hp} {a : Addr} {xs : List V} (e : Sub H H') (h : SqT K H a xs) : SqT K H' a xs := by
  rcases h with h | h
  · exact .inl (e.rd h)
  · exact .inr h
/-- the script's list: frozen, or of the module (no list that a def has made) -/
def ScL (K : PySem.W.Frag) (H : Hp) (a : Addr) (xs : List V) : Prop := (∃ o, H a = some (.frz o (.lst xs))) ∨ ∃ (o : Obj) (its : Array Value) (n : Nat), K.lookup a = some o ∧ o.cls = .type "list" ∧ o.dict = none ∧ o.data = .seq its n ∧ its.size ≤ sizeLine ∧ Vals xs its.toList
theorem ScL.sq {K : PySem.W.Frag} {H : Hp} {a : Addr} {xs : List V} : ScL K H a xs → SqL K H a xs
  | .inl h => .inl (.inr h)
  | .inr h => .inr h
theorem Sub.scl {K : PySem.W.Frag} {H H' : Hp} {a : Addr} {xs : List V} (e : Sub H H') : ScL K H a xs → ScL K H' a xs
  | .inl ⟨o, h⟩ => .inl ⟨o, e _ _ h⟩
  | .inr h => .inr h
section
variable (K : PySem.W.Frag) (mg : Str → Option Value)
mutual
def Is (H : Hp) : D → V → Prop
  | .non, v => v = .non
  | .bl b, v => v = .bl b
  | .int i, v => v = .int i
  | .str s, v => v = .str ⟨s.toArray⟩ ∧ s.length ≤ sizeLine
  | .tup ds, v => ds.length ≤ sizeLine ∧ ∃ a vs, v = .ref a ∧ SqT K H a vs ∧ IsL H ds vs
  | .lst ds, v => ds.length ≤ sizeLine ∧ ∃ a vs, v = .ref a ∧ H a = some (.lst vs) ∧ IsL H ds vs
  | .dic ks ds, v => ∃ a kvs, v = .ref a ∧ Rd H a (.dK kvs) ∧ IsL H ks (kvs.map fun p => kV p.1) ∧ IsL H ds (kvs.map fun p => p.2)
  | .ins c ns ds, v => ∃ a C dx vs, v = .ref a ∧ mg c = some (.ref C) ∧ H a = some (.ins C dx (ns.zip vs)) ∧ ns.length = vs.length ∧ IsL H ds vs
  | .scr is, v => is.length ≤ sizeLine ∧ ∃ a, v = .ref a ∧ ScL K H a (is.map V.int)
  | .xc a dd f d, v => v = .ref a ∧ ∃ u, H dd = some (.xd [(f, u)]) ∧ Is H d u
def IsL (H : Hp) : List D → List V → Prop
  | [], vs => vs = []
  | d :: ds, vs => ∃ v r, vs = v :: r ∧ Is H d v ∧ IsL H ds r
end
end
section
variable {K : PySem.W.Frag} {mg : Str → Option Value}
mutual
theorem Is.mono {H H' : Hp} (s : Sub H H') : ∀ {d : D} {v : V}, Is K mg H d v → Is K mg H' d v
  | .non, _, h => h
  | .bl _, _, h => h
  | .int _, _, h => h
  | .str _, _, h => h
  | .tup ds, _, h => by
    obtain ⟨z, a, vs, e, t, l⟩ := h
    exact ⟨z, a, vs, e, s.sqt t, IsL.mono s l⟩
  | .lst ds, _, h => by
    obtain ⟨z, a, vs, e, t, l⟩ := h
    exact ⟨z, a, vs, e, s _ _ t, IsL.mono s l⟩
  | .dic ks ds, _, h => by
    obtain ⟨a, kvs, e, t, l, l'⟩ := h
    exact ⟨a, kvs, e, s.rd t, IsL.mono s l, IsL.mono s l'⟩
  | .ins c ns ds, _, h => by
    obtain ⟨a, C, dx, vs, e, m, t, n, l⟩ := h
    exact ⟨a, C, dx, vs, e, m, s _ _ t, n, IsL.mono s l⟩
  | .scr is, _, h => by
    obtain ⟨z, a, e, t⟩ := h
    exact ⟨z, a, e, s.scl t⟩
  | .xc a dd f d, _, h => by
    obtain ⟨e, u, q, i⟩ := h
    exact ⟨e, u, s _ _ q, Is.mono s i⟩
theorem IsL.mono {H H' : Hp} (s : Sub H H') : ∀ {ds : List D} {vs : List V}, IsL K mg H ds vs → IsL K mg H' ds vs
  | [], _, h => h
  | d :: ds, _, h => by
    obtain ⟨v, r, e, i, l⟩ := h
    exact ⟨v, r, e, Is.mono s i, IsL.mono s l⟩
end
theorem IsL.nil {H : Hp} : IsL K mg H [] [] := rfl
theorem IsL.cons {H : Hp} {d : D} {ds : List D} {v : V} {vs : List V} (h : Is K mg H d v) (l : IsL K mg H ds vs) : IsL K mg H (d :: ds) (v :: vs) := ⟨v, vs, rfl, h, l⟩
theorem IsL.len {H : Hp} : ∀ {ds : List D} {vs : List V}, IsL K mg H ds vs → ds.length = vs.length
  | [], _, h => by cases h; rfl
  | d :: ds, _, h => by
    obtain ⟨v, r, rfl, _, l⟩ := h
    simp [IsL.len l]
theorem IsL.app {H : Hp} : ∀ {ds es : List D} {vs ws : List V}, IsL K mg H ds vs → IsL K mg H es ws → IsL K mg H (ds ++ es) (vs ++ ws)
  | [], _, _, _, h, l => by cases h; exact l
  | d :: ds, _, _, _, h, l => by
    obtain ⟨v, r, rfl, i, t⟩ := h
    exact ⟨v, r ++ _, rfl, i, IsL.app t l⟩
theorem IsL.get {H : Hp} : ∀ {ds : List D} {vs : List V} {i : Nat} {d : D}, IsL K mg H ds vs → ds[i]? = some d → ∃ v, vs[i]? = some v ∧ Is K mg H d v
  | [], _, _, _, h, e => by simp at e
  | d :: ds, _, 0, _, h, e => by
    obtain ⟨v, r, rfl, i, t⟩ := h
    simp at e; subst e
    exact ⟨v, rfl, i⟩
  | d :: ds, _, i + 1, _, h, e => by
    obtain ⟨v, r, rfl, _, t⟩ := h
    simpa using IsL.get (i := i) t (by simpa using e)
theorem IsL.drop {H : Hp} : ∀ {ds : List D} {vs : List V} (n : Nat), IsL K mg H ds vs → IsL K mg H (ds.drop n) (vs.drop n)
  | _, _, 0, h => h
  | [], _, n + 1, h => by cases h; exact rfl
  | d :: ds, _, n + 1, h => by
    obtain ⟨v, r, rfl, _, t⟩ := h
    exact IsL.drop n t
theorem IsL.take {H : Hp} : ∀ {ds : List D} {vs : List V} (n : Nat), IsL K mg H ds vs → IsL K mg H (ds.take n) (vs.take n)
  | _, _, 0, h => rfl
  | [], _, n + 1, h => by cases h; exact rfl
  | d :: ds, _, n + 1, h => by
    obtain ⟨v, r, rfl, i, t⟩ := h
    exact ⟨v, _, rfl, i, IsL.take n t⟩
theorem IsL.set {H : Hp} {d' : D} {v' : V} (h' : Is K mg H d' v') : ∀ {ds : List D} {vs : List V} (n : Nat), IsL K mg H ds vs → IsL K mg H (ds.set n d') (vs.set n v')
  | [], _, _, h => by cases h; exact rfl
  | d :: ds, _, 0, h => by
    obtain ⟨v, r, rfl, _, t⟩ := h
    exact ⟨v', r, rfl, h', t⟩
  | d :: ds, _, n + 1, h => by
    obtain ⟨v, r, rfl, i, t⟩ := h
    exact ⟨v, _, rfl, i, IsL.set h' n t⟩
theorem IsL.reverse {H : Hp} : ∀ {ds : List D} {vs : List V}, IsL K mg H ds vs → IsL K mg H ds.reverse vs.reverse
  | [], _, h => by cases h; exact rfl
  | d :: ds, _, h => by
    obtain ⟨v, r, rfl, i, t⟩ := h
    rw [List.reverse_cons, List.reverse_cons]
    exact (IsL.reverse t).app (.cons i .nil)
end
/-! ### the state -/
/-- the bag's content stands -/
def BagAt (bag : List Addr) (H : Hp) (s : S) : Prop := match bag with
  | [] => True
  | [b] => s.w = false ∧ H b = some (.lst [.int s.x, .int s.y])
  | b :: c :: _ => s.w = true ∧ b ≠ c ∧ H b = some (.lst [.ref c, .int s.y, .int s.z]) ∧ H c = some (.lst (s.l.map V.int))
structure Ste (bag : List Addr) (Hf H Hf' H' : Hp) : Prop where
  sub : Sub Hf Hf'
  top : Sub Hf' H'
  keep : ∀ a o, H a = some o → a ∉ bag → H' a = some o
  dom : ∀ a, H a ≠ none → H' a ≠ none
  fresh : ∀ a o, Hf' a = some o → Hf a = some o ∨ H a = none
theorem Ste.refl {bag : List Addr} {Hf H : Hp} (h : Sub Hf H) : Ste bag Hf H Hf H := ⟨.refl _, h, fun _ _ e _ => e, fun _ e => e, fun _ _ e => .inl e⟩
theorem Ste.trans {bag : List Addr} {Hf H Hf1 H1 Hf2 H2 : Hp} (a : Ste bag Hf H Hf1 H1) (b : Ste bag Hf1 H1 Hf2 H2) : Ste bag Hf H Hf2 H2 :=
  ⟨a.sub.trans b.sub, b.top, fun x o e n => b.keep x o (a.keep x o e n) n, fun x e => b.dom x (a.dom x e), fun x o e => by
    rcases b.fresh x o e with h | h
    · exact a.fresh x o h
    · refine .inr ?_
      cases q : H x with
      | none => rfl
      | some u => exact absurd h (a.dom x (by rw [q]; simp))⟩
theorem Ste.wide {bag : List Addr} {Hf H Hf' H' : Hp} (a : Ste [] Hf H Hf' H') : Ste bag Hf H Hf' H' :=
  ⟨a.sub, a.top, fun x o e _ => a.keep x o e (by simp), a.dom, a.fresh⟩
theorem Ste.bag {bag : List Addr} {Hf H Hf' H' : Hp} {s : S} (a : Ste [] Hf H Hf' H') (h : BagAt bag H s) : BagAt bag H' s := by
  match bag, h with
  | [], _ => trivial
  | [b], ⟨hw, h⟩ => exact ⟨hw, a.keep _ _ h (by simp)⟩
  | b :: c :: _, ⟨hw, h0, h1, h2⟩ => exact ⟨hw, h0, a.keep _ _ h1 (by simp), a.keep _ _ h2 (by simp)⟩
/-- a new object, frozen at once -/
theorem Ste.new {bag : List Addr} {Hf H : Hp} {p : Addr} {o : HO} (h : Sub Hf H) (hp : H p = none) : Ste bag Hf H (upd Hf p o) (upd H p o) := by
  have hf : Hf p = none := by
    cases q : Hf p with
    | none => rfl
    | some u => rw [h _ _ q] at hp; cases hp
  refine ⟨fun a u e => ?_, fun a u e => ?_, fun a u e _ => ?_, fun a e => ?_, fun a u e => ?_⟩
  · rw [upd_ne (ne_of_none e hf)]; exact e
  · by_cases q : a = p
    · subst q; rw [upd_same] at e ⊢; exact e
    · rw [upd_ne q] at e ⊢; exact h _ _ e
  · rw [upd_ne (ne_of_none e hp)]; exact e
  · by_cases q : a = p
    · subst q; exact absurd hp e
    · rw [upd_ne q]; exact e
  · by_cases q : a = p
    · subst q; exact .inr hp
    · rw [upd_ne q] at e; exact .inl e
/-- a new object, not frozen -/
theorem Ste.new' {bag : List Addr} {Hf H : Hp} {p : Addr} {o : HO} (h : Sub Hf H) (hp : H p = none) : Ste bag Hf H Hf (upd H p o) := by
  refine ⟨.refl _, fun a u e => ?_, fun a u e _ => ?_, fun a e => ?_, fun a u e => .inl e⟩
  · have : H a = some u := h _ _ e
    rw [upd_ne (ne_of_none this hp)]; exact this
  · rw [upd_ne (ne_of_none e hp)]; exact e
  · by_cases q : a = p
    · subst q; exact absurd hp e
    · rw [upd_ne q]; exact e
theorem Sub.none {Hf H : Hp} (h : Sub Hf H) {p : Addr} (hp : H p = none) : Hf p = none := by
  cases q : Hf p with
  | none => rfl
  | some u => rw [h _ _ q] at hp; cases hp
/-- a slot: forgotten, a datum, a list of the frame's own, the bag -/
inductive Sl where
  | un
  | im (d : D)
  | ow (ds : List D)
  | bg
  /-- a dict of the frame's own -/
  | od (ks ds : List D)
  /-- the object that is being made -/
  | ob (ns : List Str) (ds : List D)
structure Fx where
  bag : List Addr
  H0 : Hp
  Hf0 : Hp
  W : WX
  /-- what stands of the slots where an exception leaves -/
  gx : Option (List Sl)
  /-- the def's answers are new lists -/
  nr : Bool
  /-- the object that is being made -/
  me : List Addr
  /-- its attributes' names -/
  nas : List Str
section
variable (K : PySem.W.Frag) (mg : Str → Option Value)
def SlOk (fx : Fx) (Hf H : Hp) (o : Option (Option V)) : Sl → Prop
  | .un => True
  | .im d => ∃ v, o = some (some v) ∧ Is K mg Hf d v
  | .ow ds => ∃ p vs, o = some (some (.ref p)) ∧ H p = some (.lst vs) ∧ Hf p = none ∧ fx.H0 p = none ∧ p ∉ fx.bag ∧ IsL K mg Hf ds vs ∧ ds.length ≤ sizeLine
  | .bg => ∃ b r, fx.bag = b :: r ∧ o = some (some (.ref b))
  | .od ks ds => ∃ p kvs, o = some (some (.ref p)) ∧ H p = some (.dK kvs) ∧ Hf p = none ∧ fx.H0 p = none ∧ p ∉ fx.bag ∧ IsL K mg Hf ks (kvs.map fun p => kV p.1) ∧ IsL K mg Hf ds (kvs.map fun p => p.2) ∧ ks.length ≤ sizeLine
  | .ob ns ds => ∃ p C dx vs, o = some (some (.ref p)) ∧ H p = some (.ins C dx (ns.zip vs)) ∧ Hf p = none ∧ (p ∈ fx.me ∧ ∃ f0, fx.H0 p = some (.ins C dx f0)) ∧ p ∉ fx.bag ∧ (Cls K C ∧ ∀ f ∈ fx.nas, NoAttr K C f) ∧ ns.length = vs.length ∧ IsL K mg Hf ds vs
/-- how a def's answer stands: a datum, or a new list of its own -/
def RtOk : Bool → Hp → Hp → Hp → D → V → Prop
  | false, _, Hf', _, d, v => Is K mg Hf' d v
  | true, H0, Hf', H', d, v => ∃ p vs ds, d = .lst ds ∧ v = .ref p ∧ H' p = some (.lst vs) ∧ Hf' p = none ∧ H0 p = none ∧ IsL K mg Hf' ds vs ∧ ds.length ≤ sizeLine
def isOw : Sl → Bool
  | .ow _ => true
  | .od _ _ => true
  | .ob _ _ => true
  | _ => false
structure StS (fx : Fx) (Hf H : Hp) (σ : L2.St) (G : List Sl) (s : S) : Prop where
  ste : Ste (fx.me ++ fx.bag) fx.Hf0 fx.H0 Hf H
  bag : BagAt fx.bag H s
  bagg : ∀ b ∈ fx.me ++ fx.bag, Hf b = none ∧ H b ≠ none ∧ (b ∈ fx.me → fx.H0 b ≠ none)
  len : σ.length = G.length
  sl : ∀ (i : Nat) (x : Sl), G[i]? = some x → SlOk K mg fx Hf H σ[i]? x
  dis : ∀ (i j : Nat) (x y : Sl) (p : Addr), i ≠ j → G[i]? = some x → G[j]? = some y → isOw x = true → isOw y = true → σ[i]? = some (some (.ref p)) → σ[j]? = some (some (.ref p)) → False
end
section
variable {K : PySem.W.Frag} {mg : Str → Option Value} {fx : Fx} {Hf H Hf' H' : Hp} {σ : L2.St} {G G' : List Sl} {s s' : S}
theorem StS.bagf (st : StS K mg fx Hf H σ G s) : ∀ b ∈ fx.bag, Hf b = none ∧ H b ≠ none := fun b m => ⟨(st.bagg b (List.mem_append_right _ m)).1, (st.bagg b (List.mem_append_right _ m)).2.1⟩
/-- an own place is not of the bag, nor the object's that is made -/
theorem StS.owNb (st : StS K mg fx Hf H σ G s) {p : Addr} (h0 : fx.H0 p = none) (nb : p ∉ fx.bag) : p ∉ fx.me ++ fx.bag := fun m => by
  rcases List.mem_append.mp m with q | q
  · exact (st.bagg p m).2.2 q h0
  · exact nb q
theorem Ste.wider {bag bag' : List Addr} {Hf H Hf' H' : Hp} (a : Ste bag Hf H Hf' H') : Ste (bag' ++ bag) Hf H Hf' H' :=
  ⟨a.sub, a.top, fun x o e n => a.keep x o e fun z => n (List.mem_append_right _ z), a.dom, a.fresh⟩
theorem StS.top (st : StS K mg fx Hf H σ G s) : Sub Hf H := st.ste.top
theorem Ste.stayNone {bag : List Addr} {Hf H Hf' H' : Hp} (a : Ste bag Hf H Hf' H') {p : Addr} (hf : Hf p = none) (h : H p ≠ none) : Hf' p = none := by
  cases q : Hf' p with
  | none => rfl
  | some u =>
    rcases a.fresh _ _ q with z | z
    · rw [hf] at z; cases z
    · exact absurd z h
theorem SlOk.step {o : Option (Option V)} (a : Ste fx.bag Hf H Hf' H') : ∀ {x : Sl}, SlOk K mg fx Hf H o x → SlOk K mg fx Hf' H' o x
  | .un, _ => trivial
  | .im d, ⟨v, e, i⟩ => ⟨v, e, i.mono a.sub⟩
  | .ow ds, ⟨p, vs, e, h, hf, h0, nb, l, z⟩ => ⟨p, vs, e, a.keep _ _ h nb, a.stayNone hf (by rw [h]; simp), h0, nb, l.mono a.sub, z⟩
  | .bg, h => h
  | .od ks ds, ⟨p, vs, e, h, hf, h0, nb, l, l', z⟩ => ⟨p, vs, e, a.keep _ _ h nb, a.stayNone hf (by rw [h]; simp), h0, nb, l.mono a.sub, l'.mono a.sub, z⟩
  | .ob ns ds, ⟨p, C, dx, vs, e, h, hf, h0, nb, c, hn, l⟩ => ⟨p, C, dx, vs, e, a.keep _ _ h nb, a.stayNone hf (by rw [h]; simp), h0, nb, c, hn, l.mono a.sub⟩
theorem StS.step (st : StS K mg fx Hf H σ G s) (a : Ste fx.bag Hf H Hf' H') (hb : BagAt fx.bag H' s') : StS K mg fx Hf' H' σ G s' :=
  ⟨st.ste.trans a.wider, hb, fun b m => ⟨a.stayNone (st.bagg b m).1 (st.bagg b m).2.1, a.dom _ (st.bagg b m).2.1, (st.bagg b m).2.2⟩, st.len, fun i x e => (st.sl i x e).step a, st.dis⟩
/-- weaker slots -/
def Wk : List Sl → List Sl → Prop
  | [], [] => True
  | x :: xs, y :: ys => (x = y ∨ y = .un) ∧ Wk xs ys
  | _, _ => False
theorem Wk.len : ∀ {G G' : List Sl}, Wk G G' → G.length = G'.length
  | [], [], _ => rfl
  | _ :: _, _ :: _, h => by simp [Wk.len h.2]
  | [], _ :: _, h => h.elim
  | _ :: _, [], h => h.elim
theorem Wk.get : ∀ {G G' : List Sl} {i : Nat} {y : Sl}, Wk G G' → G'[i]? = some y → ∃ x, G[i]? = some x ∧ (x = y ∨ y = .un)
  | [], [], _, _, _, e => by simp at e
  | x :: _, y :: _, 0, _, h, e => by simp at e; subst e; exact ⟨x, rfl, h.1⟩
  | _ :: _, _ :: _, i + 1, _, h, e => by simpa using Wk.get (i := i) h.2 (by simpa using e)
  | [], _ :: _, _, _, h, _ => h.elim
  | _ :: _, [], _, _, h, _ => h.elim
theorem Wk.refl : ∀ (G : List Sl), Wk G G
  | [] => trivial
  | x :: xs => ⟨.inl rfl, Wk.refl xs⟩
theorem StS.weak (st : StS K mg fx Hf H σ G s) (w : Wk G G') : StS K mg fx Hf H σ G' s :=
  ⟨st.ste, st.bag, st.bagg, st.len.trans w.len, fun i y e => by
    obtain ⟨x, ex, h⟩ := w.get e
    rcases h with rfl | rfl
    · exact st.sl i x ex
    · trivial, fun i j x y p hij ex ey ox oy => by
    obtain ⟨x', ex', hx⟩ := w.get ex
    obtain ⟨y', ey', hy⟩ := w.get ey
    rcases hx with rfl | rfl
    · rcases hy with rfl | rfl
      · exact st.dis i j _ _ p hij ex' ey' ox oy
      · cases oy
    · cases ox⟩
/-- a datum is stored -/
theorem StS.set {i : Nat} {d : D} {v : V} (st : StS K mg fx Hf H σ G s) (h : Is K mg Hf d v) : StS K mg fx Hf H (σ.set i (some v)) (G.set i (.im d)) s := by
  refine ⟨st.ste, st.bag, st.bagg, by simpa using st.len, fun j x e => ?_, fun j k x y p hjk ex ey ox oy e1 e2 => ?_⟩
  · by_cases q : i = j
    · subst q
      have hi : i < G.length := by
        have := (List.getElem?_eq_some_iff.mp e).1
        simpa using this
      rw [List.getElem?_set_self hi] at e
      cases e
      exact ⟨v, List.getElem?_set_self (by rw [st.len]; exact hi), h⟩
    · rw [List.getElem?_set_ne q] at e
      rw [List.getElem?_set_ne q]
      exact st.sl j x e
  · have nj : i ≠ j := by
      rintro rfl
      have hi : i < G.length := by
        have := (List.getElem?_eq_some_iff.mp ex).1
        simpa using this
      rw [List.getElem?_set_self hi] at ex
      cases ex; cases ox
    have nk : i ≠ k := by
      rintro rfl
      have hi : i < G.length := by
        have := (List.getElem?_eq_some_iff.mp ey).1
        simpa using this
      rw [List.getElem?_set_self hi] at ey
      cases ey; cases oy
    rw [List.getElem?_set_ne nj] at ex e1
    rw [List.getElem?_set_ne nk] at ey e2
    exact st.dis j k x y p hjk ex ey ox oy e1 e2
/-- a new list of one's own is stored -/
theorem StS.setOw {i : Nat} {ds : List D} {p : Addr} {vs : List V} (st : StS K mg fx Hf H σ G s) (hn : ∀ (j : Nat) (q : Addr), σ[j]? = some (some (.ref q)) → (∀ x, G[j]? = some x → isOw x = true → q ≠ p)) (h : H p = some (.lst vs)) (hf : Hf p = none) (h0 : fx.H0 p = none) (nb : p ∉ fx.bag) (l : IsL K mg Hf ds vs) (hz : ds.length ≤ sizeLine) :
    StS K mg fx Hf H (σ.set i (some (.ref p))) (G.set i (.ow ds)) s := by
  refine ⟨st.ste, st.bag, st.bagg, by simpa using st.len, fun j x e => ?_, fun j k x y q hjk ex ey ox oy e1 e2 => ?_⟩
  · by_cases q : i = j
    · subst q
      have hi : i < G.length := by
        have := (List.getElem?_eq_some_iff.mp e).1
        simpa using this
      rw [List.getElem?_set_self hi] at e
      cases e
      exact ⟨p, vs, List.getElem?_set_self (by rw [st.len]; exact hi), h, hf, h0, nb, l, hz⟩
    · rw [List.getElem?_set_ne q] at e
      rw [List.getElem?_set_ne q]
      exact st.sl j x e
  · have hi : ∀ {z : Sl}, (G.set i (.ow ds))[i]? = some z → i < σ.length := fun e => by
      have := (List.getElem?_eq_some_iff.mp e).1
      rw [st.len]
      simpa using this
    by_cases a : i = j
    · subst a
      rw [List.getElem?_set_self (hi ex)] at e1
      have hk : i ≠ k := hjk
      rw [List.getElem?_set_ne hk] at ey e2
      cases e1
      exact hn k p e2 y ey oy rfl
    · rw [List.getElem?_set_ne a] at ex e1
      by_cases b : i = k
      · subst b
        rw [List.getElem?_set_self (hi ey)] at e2
        cases e2
        exact hn j p e1 x ex ox rfl
      · rw [List.getElem?_set_ne b] at ey e2
        exact st.dis j k x y q hjk ex ey ox oy e1 e2
end
theorem BagAt.upd {bag : List Addr} {H : Hp} {s : S} {p : Addr} {o : HO} (h : BagAt bag H s) (nb : p ∉ bag) : BagAt bag (L2.upd H p o) s := by
  match bag, h, nb with
  | [], _, _ => trivial
  | [b], h, nb =>
    have e : H b = some (.lst [.int s.x, .int s.y]) := h.2
    refine ⟨h.1, ?_⟩
    rw [upd_ne (fun z => nb (by simp [z]))]
    exact e
  | b :: c :: r, ⟨hw, h0, h1, h2⟩, nb =>
    refine ⟨hw, h0, ?_, ?_⟩
    · rw [upd_ne (fun z => nb (by simp [z]))]; exact h1
    · rw [upd_ne (fun z => nb (by simp [z]))]; exact h2
section
variable {K : PySem.W.Frag} {mg : Str → Option Value} {fx : Fx} {Hf H : Hp} {σ : L2.St} {G : List Sl} {s : S}
theorem SlOk.ref {o : Option (Option V)} : ∀ {x : Sl}, isOw x = true → SlOk K mg fx Hf H o x → ∃ p, o = some (some (.ref p)) ∧ H p ≠ none ∧ Hf p = none ∧ p ∉ fx.bag ∧ (fx.H0 p = none ∨ p ∈ fx.me)
  | .un, h, _ => by cases h
  | .im d, h, _ => by cases h
  | .bg, h, _ => by cases h
  | .ow ds, _, ⟨p, vs, e, h, hf, h0, nb, l, z⟩ => ⟨p, e, by rw [h]; simp, hf, nb, .inl h0⟩
  | .od ks ds, _, ⟨p, vs, e, h, hf, h0, nb, l, l', z⟩ => ⟨p, e, by rw [h]; simp, hf, nb, .inl h0⟩
  | .ob ns ds, _, ⟨p, C, dx, vs, e, h, hf, h0, nb, c, hn, l⟩ => ⟨p, e, by rw [h]; simp, hf, nb, .inr h0.1⟩
theorem SlOk.upd {o : Option (Option V)} {p : Addr} {u : HO} : ∀ {x : Sl}, (∀ q, isOw x = true → o = some (some (.ref q)) → q ≠ p) → SlOk K mg fx Hf H o x → SlOk K mg fx Hf (L2.upd H p u) o x
  | .un, _, _ => trivial
  | .im d, _, h => h
  | .bg, _, h => h
  | .ow ds, w, ⟨q, vs, e, h, hf, h0, nb, l, z⟩ => ⟨q, vs, e, by rw [upd_ne (w q rfl e)]; exact h, hf, h0, nb, l, z⟩
  | .od ks ds, w, ⟨q, vs, e, h, hf, h0, nb, l, l', z⟩ => ⟨q, vs, e, by rw [upd_ne (w q rfl e)]; exact h, hf, h0, nb, l, l', z⟩
  | .ob ns ds, w, ⟨q, C, dx, vs, e, h, hf, h0, nb, c, hn, l⟩ => ⟨q, C, dx, vs, e, by rw [upd_ne (w q rfl e)]; exact h, hf, h0, nb, c, hn, l⟩
theorem SlOk.frz {o : Option (Option V)} {p : Addr} {u : HO} (sb : Sub Hf (L2.upd Hf p u)) : ∀ {x : Sl}, (∀ q, isOw x = true → o = some (some (.ref q)) → q ≠ p) → SlOk K mg fx Hf H o x → SlOk K mg fx (L2.upd Hf p u) H o x
  | .un, _, _ => trivial
  | .im d, _, ⟨v, a, b⟩ => ⟨v, a, b.mono sb⟩
  | .bg, _, h => h
  | .ow ds, w, ⟨q, vs, e, h, hf, h0, nb, l, z⟩ => ⟨q, vs, e, h, by rw [upd_ne (w q rfl e)]; exact hf, h0, nb, l.mono sb, z⟩
  | .od ks ds, w, ⟨q, vs, e, h, hf, h0, nb, l, l', z⟩ => ⟨q, vs, e, h, by rw [upd_ne (w q rfl e)]; exact hf, h0, nb, l.mono sb, l'.mono sb, z⟩
  | .ob ns ds, w, ⟨q, C, dx, vs, e, h, hf, h0, nb, c, hn, l⟩ => ⟨q, C, dx, vs, e, h, by rw [upd_ne (w q rfl e)]; exact hf, h0, nb, c, hn, l.mono sb⟩
/-- the own thing of slot i is changed -/
theorem StS.updAt {i : Nat} {x x' : Sl} {p : Addr} {u : HO} (st : StS K mg fx Hf H σ G s) (hG : G[i]? = some x) (ox : isOw x = true) (hp : σ[i]? = some (some (.ref p))) (ox' : isOw x' = true) (new : SlOk K mg fx Hf (upd H p u) (some (some (.ref p))) x') :
    StS K mg fx Hf (upd H p u) σ (G.set i x') s := by
  obtain ⟨q, e, h, hf, nb, h0⟩ := (st.sl i _ hG).ref ox
  have eq : q = p := by rw [hp] at e; cases e; rfl
  subst eq
  have hi : i < G.length := (List.getElem?_eq_some_iff.mp hG).1
  clear e
  refine ⟨⟨st.ste.sub, fun a o e => ?_, fun a o e n => ?_, fun a n => ?_, st.ste.fresh⟩, st.bag.upd nb, fun b m => ⟨(st.bagg b m).1, ?_, (st.bagg b m).2.2⟩, by simpa using st.len, fun j x ex => ?_, fun j k x y r hjk ex ey ox oy e1 e2 => ?_⟩
  · have ne : a ≠ q := fun z => by rw [z, hf] at e; cases e
    rw [upd_ne ne]
    exact st.top a o e
  · have ne : a ≠ q := fun z => by
      rcases h0 with y | y
      · rw [z, y] at e; cases e
      · exact n (List.mem_append_left _ (z ▸ y))
    rw [upd_ne ne]
    exact st.ste.keep a o e n
  · by_cases ne : a = q
    · rw [ne, upd_same]; simp
    · rw [upd_ne ne]; exact st.ste.dom a n
  · by_cases ne : b = q
    · rw [ne, upd_same]; simp
    · rw [upd_ne ne]
      exact (st.bagg b m).2.1
  · by_cases c : i = j
    · subst c
      rw [List.getElem?_set_self hi] at ex
      cases ex
      rw [hp]
      exact new
    · rw [List.getElem?_set_ne c] at ex
      exact (st.sl j x ex).upd fun q2 o2 e2 z => st.dis i j _ _ q c hG ex ox o2 hp (by rw [e2, z])
  · have get : ∀ {n : Nat} {z : Sl}, (G.set i x')[n]? = some z → isOw z = true → ∃ z', G[n]? = some z' ∧ isOw z' = true := fun {n z} e o => by
      by_cases c : i = n
      · subst c; exact ⟨_, hG, by assumption⟩
      · rw [List.getElem?_set_ne c] at e; exact ⟨z, e, o⟩
    obtain ⟨x1, ex', ox1⟩ := get ex ox
    obtain ⟨y1, ey', oy1⟩ := get ey oy
    exact st.dis j k x1 y1 r hjk ex' ey' ox1 oy1 e1 e2
/-- the own list of slot i is changed -/
theorem StS.updOw {i : Nat} {ds ds' : List D} {p : Addr} {vs' : List V} (st : StS K mg fx Hf H σ G s) (hG : G[i]? = some (.ow ds)) (hp : σ[i]? = some (some (.ref p))) (l : IsL K mg Hf ds' vs') (hz : ds'.length ≤ sizeLine) :
    StS K mg fx Hf (upd H p (.lst vs')) σ (G.set i (.ow ds')) s := by
  obtain ⟨q, vs, e, h, hf, h0, nb, l0, z0⟩ := st.sl i _ hG
  have eq : q = p := by rw [hp] at e; cases e; rfl
  subst eq
  exact st.updAt hG rfl hp rfl ⟨q, vs', rfl, upd_same, hf, h0, nb, l, hz⟩
/-- a slot's own thing becomes a datum -/
theorem StS.freezeAt {i : Nat} {x : Sl} {d : D} {p : Addr} {u : HO} (st : StS K mg fx Hf H σ G s) (hG : G[i]? = some x) (ox : isOw x = true) (hp : σ[i]? = some (some (.ref p))) (hu : H p = some u) (h0 : fx.H0 p = none) (is : ∀ Hf', Sub Hf Hf' → Hf' p = some u → Is K mg Hf' d (.ref p)) :
    ∃ Hf', (Sub Hf Hf' ∧ ∀ a o, Hf' a = some o → Hf a = some o ∨ o = u) ∧ StS K mg fx Hf' H σ (G.set i (.im d)) s := by
  obtain ⟨q, e, h, hf, nb, _⟩ := (st.sl i _ hG).ref ox
  have eq : q = p := by rw [hp] at e; cases e; rfl
  subst eq
  have hi : i < G.length := (List.getElem?_eq_some_iff.mp hG).1
  have sb : Sub Hf (upd Hf q u) := fun a o z => by
    have ne : a ≠ q := fun y => by rw [y, hf] at z; cases z
    rw [upd_ne ne]; exact z
  refine ⟨upd Hf q u, ⟨sb, fun a o z => by
    by_cases c : a = q
    · subst c; rw [upd_same] at z; cases z; exact .inr rfl
    · rw [upd_ne c] at z; exact .inl z⟩, ⟨st.ste.sub.trans sb, fun a o z => ?_, st.ste.keep, st.ste.dom, fun a o z => ?_⟩, st.bag, fun b m => ⟨?_, (st.bagg b m).2⟩, by simpa using st.len, fun j x ex => ?_, fun j k x y r hjk ex ey ox oy e1 e2 => ?_⟩
  · by_cases c : a = q
    · subst c; rw [upd_same] at z; cases z; exact hu
    · rw [upd_ne c] at z; exact st.top a o z
  · by_cases c : a = q
    · subst c; exact .inr h0
    · rw [upd_ne c] at z; exact st.ste.fresh a o z
  · have ne : b ≠ q := fun z => st.owNb h0 nb (z ▸ m)
    rw [upd_ne ne]; exact (st.bagg b m).1
  · by_cases c : i = j
    · subst c
      rw [List.getElem?_set_self hi] at ex
      cases ex
      exact ⟨_, e, is _ sb upd_same⟩
    · rw [List.getElem?_set_ne c] at ex
      exact (st.sl j x ex).frz sb fun q2 o2 e2 z => st.dis i j _ _ q c hG ex ox o2 hp (by rw [e2, z])
  · have nx : i ≠ j := fun z => by subst z; rw [List.getElem?_set_self hi] at ex; cases ex; cases ox
    have ny : i ≠ k := fun z => by subst z; rw [List.getElem?_set_self hi] at ey; cases ey; cases oy
    rw [List.getElem?_set_ne nx] at ex
    rw [List.getElem?_set_ne ny] at ey
    exact st.dis j k x y r hjk ex ey ox oy e1 e2
/-- a slot's own list becomes a datum -/
theorem StS.freeze {i : Nat} {ds : List D} (st : StS K mg fx Hf H σ G s) (hG : G[i]? = some (.ow ds)) : ∃ Hf', Sub Hf Hf' ∧ StS K mg fx Hf' H σ (G.set i (.im (.lst ds))) s := by
  obtain ⟨p, vs, e, h, hf, h0, nb, l0, z0⟩ := st.sl i _ hG
  obtain ⟨Hf', ⟨sb, _⟩, st'⟩ := st.freezeAt (d := .lst ds) hG rfl e h h0 fun Hf' sb z => ⟨z0, p, vs, rfl, z, l0.mono sb⟩
  exact ⟨Hf', sb, st'⟩
/-- the same, and what is new is a list -/
theorem StS.freeze2 {i : Nat} {ds : List D} (st : StS K mg fx Hf H σ G s) (hG : G[i]? = some (.ow ds)) : ∃ Hf', Sub Hf Hf' ∧ (∀ a o, Hf' a = some o → Hf a = some o ∨ ∃ vs, o = .lst vs) ∧ StS K mg fx Hf' H σ (G.set i (.im (.lst ds))) s := by
  obtain ⟨p, vs, e, h, hf, h0, nb, l0, z0⟩ := st.sl i _ hG
  obtain ⟨Hf', ⟨sb, nw⟩, st'⟩ := st.freezeAt (d := .lst ds) hG rfl e h h0 fun Hf' sb z => ⟨z0, p, vs, rfl, z, l0.mono sb⟩
  exact ⟨Hf', sb, fun a o z => (nw a o z).imp id fun e => ⟨_, e⟩, st'⟩
/-- an address that the heap does not know is not of the entry, nor the bag's -/
theorem StS.new0 (st : StS K mg fx Hf H σ G s) {p : Addr} (h : H p = none) : fx.H0 p = none ∧ p ∉ fx.bag ∧ Hf p = none := by
  refine ⟨?_, fun m => (st.bagf p m).2 h, st.top.none h⟩
  cases q : fx.H0 p with
  | none => rfl
  | some o => exact absurd h (st.ste.dom p (by rw [q]; simp))
theorem StS.owNe (st : StS K mg fx Hf H σ G s) {p : Addr} (h : H p = none) : ∀ (j : Nat) (q : Addr), σ[j]? = some (some (.ref q)) → (∀ x, G[j]? = some x → isOw x = true → q ≠ p) := fun j q e x ex ox z => by
  obtain ⟨q2, e2, h2, _⟩ := (st.sl j _ ex).ref ox
  rw [e] at e2
  cases e2
  rw [z] at h2
  exact h2 h
end
end DL
namespace DL
open PySem L2
/-! ### judgements -/
section
variable (K : PySem.W.Frag) (mg : Str → Option Value) (fx : Fx)
def ExIs (Hf H : Hp) (e : Exn) (cls : Value) (dd : Option Addr) : Prop :=
  ∃ C a v, mg e.c = some (.ref C) ∧ cls = .ref C ∧ dd = some a ∧ Hf a = some (.xd [(e.f, v)]) ∧ Is K mg Hf e.d v
/-- what is wanted of an exception -/
def EX (G : List Sl) (σ : L2.St) : Exn → S → Prop := fun e s' => ∀ cls dd Hf' H', StS K mg fx Hf' H' σ G s' → ExIs K mg Hf' H' e cls dd → fx.W cls dd σ H'
variable {m : Type → Type} [Mo m] {α β : Type}
def tX (G : List Sl) (rl : Hp → α → β → Prop) (x : m α) (Hf : Hp) (s : S) (σ : L2.St) (H : Hp) (Q : β → Hp → Prop) : Prop :=
  StS K mg fx Hf H σ G s ∧ Mo.wp x s (fun a s' => ∀ b Hf' H', Ste fx.bag Hf H Hf' H' → BagAt fx.bag H' s' → rl Hf' a b → Q b H') (EX K mg fx G σ)
def tG (G : List Sl) (rl : Hp → α → β → Prop) (x : m α) : L2.St → Hp → (β → Hp → Prop) → Prop := fun σ H Q => ∃ Hf s, tX K mg fx G rl x Hf s σ H Q
abbrev tE (G : List Sl) (x : m D) : TE := tG K mg fx G (fun H d v => Is K mg H d v) x
abbrev tT (G : List Sl) (x : m Bool) : TT := tG K mg fx G (fun _ a b => b = a) x
abbrev tA (G : List Sl) (x : m (List D)) : TA := tG K mg fx G (fun H d v => IsL K mg H d v) x
end
section
variable {K : PySem.W.Frag} {mg : Str → Option Value} {fx : Fx} {m : Type → Type} [Mo m] {α β γ δ : Type} {G : List Sl} {rl : Hp → α → β → Prop} {rm : Hp → γ → δ → Prop}
theorem tX.mono {x : m α} {Hf : Hp} {s : S} {σ : L2.St} {H : Hp} {Q Q' : β → Hp → Prop} (h : tX K mg fx G rl x Hf s σ H Q) (q : ∀ b H', Q b H' → Q' b H') : tX K mg fx G rl x Hf s σ H Q' :=
  ⟨h.1, Mo.wp_mono h.2 (fun a s' k b Hf' H' e bg r => q b H' (k b Hf' H' e bg r)) fun e s' k => k⟩
theorem tX.bind {x : m α} {k : α → m γ} {Hf : Hp} {s : S} {σ : L2.St} {H : Hp} {Q : δ → Hp → Prop} (h : tX K mg fx G rm (x >>= k) Hf s σ H Q) :
    tX K mg fx G rl x Hf s σ H (fun b H1 => ∃ a Hf1 s1, Sub Hf Hf1 ∧ rl Hf1 a b ∧ tX K mg fx G rm (k a) Hf1 s1 σ H1 Q) :=
  ⟨h.1, Mo.wp_mono (Mo.wp_bind h.2) (fun a s1 h1 b Hf1 H1 ste bag r => ⟨a, Hf1, s1, ste.sub, r, h.1.step ste bag,
      Mo.wp_mono h1 (fun c s2 h2 d Hf2 H2 ste2 bag2 r2 => h2 d Hf2 H2 (ste.trans ste2) bag2 r2) fun e s2 h2 => h2⟩)
    fun e s' k => k⟩
theorem tX.pure {a : α} {Hf : Hp} {s : S} {σ : L2.St} {H : Hp} {Q : β → Hp → Prop} (h : tX K mg fx G rl (Pure.pure a : m α) Hf s σ H Q) {b : β} (r : rl Hf a b) : Q b H :=
  (Mo.wp_pure h.2) b Hf H (.refl h.1.top) h.1.bag r
theorem tX.to {x : m α} {Hf : Hp} {s : S} {σ : L2.St} {H : Hp} {Q : β → Hp → Prop} (h : tX K mg fx G rl x Hf s σ H Q) : tG K mg fx G rl x σ H Q := ⟨Hf, s, h⟩
end
/-- a question with an answer or none -/
def ask {m : Type → Type} [Mo m] {α : Type} (o : Option α) : m α := Mo.lift (match o with | some a => .ok a | none => .stuck)
@[simp] theorem ask_some {α : Type} (a : α) : (ask (some a) : R α) = .ok a := rfl
@[simp] theorem ask_none {α : Type} : (ask (none : Option α) : R α) = .stuck := rfl
@[simp] theorem askM_some {α : Type} (a : α) (s : S) : (ask (some a) : M α) s = .ok a s := rfl
@[simp] theorem askM_none {α : Type} (s : S) : (ask (none : Option α) : M α) s = .stuck := rfl
section
variable {K : PySem.W.Frag} {mg : Str → Option Value} {fx : Fx} {m : Type → Type} [Mo m] {α β : Type} {G : List Sl} {rl : Hp → α → β → Prop}
/-- what follows from an answer -/
theorem tX.ask {o : Option α} {Hf : Hp} {s : S} {σ : L2.St} {H : Hp} {Q : β → Hp → Prop} (h : tX K mg fx G rl (DL.ask o : m α) Hf s σ H Q) :
    ∃ a, o = some a ∧ ∀ b Hf' H', Ste [] Hf H Hf' H' → rl Hf' a b → Q b H' := by
  have h2 := Mo.wp_lift h.2
  cases o with
  | none => exact h2.elim
  | some a => exact ⟨a, rfl, fun b Hf' H' e r => h2 b Hf' H' e.wide (e.bag h.1.bag) r⟩
end
section
variable {X : Cx}
theorem peI {e : Expr} {t t' : TE} (h : PE X e t) (w : ∀ σ H Q, t' σ H Q → t σ H Q) : PE X e t' := ⟨fun pins s σ H Q I q => h.run pins s σ H Q I (w _ _ _ q)⟩
theorem ptI {e : Expr} {t t' : TT} (h : PT X e t) (w : ∀ σ H Q, t' σ H Q → t σ H Q) : PT X e t' := ⟨fun pins s σ H Q I q => h.run pins s σ H Q I (w _ _ _ q)⟩
theorem pwI {e : Expr} {t t' : TT} (h : PW X e t) (w : ∀ σ H Q, t' σ H Q → t σ H Q) : PW X e t' := ⟨fun wh pins s σ H Q I q => h.run wh pins s σ H Q I (w _ _ _ q)⟩
theorem paI {e : List Expr} {t t' : TA} (h : PA X e t) (w : ∀ σ H Q, t' σ H Q → t σ H Q) : PA X e t' := ⟨fun pos pins s σ H Q I q => h.run pos pins s σ H Q I (w _ _ _ q)⟩
theorem pssI {e : List Stmt} {t t' : TS} (h : PSs X e t) (w : ∀ D σ H, t' D σ H → t D σ H) : PSs X e t' := ⟨fun pins s σ H D I q => h.run pins s σ H D I (w _ _ _ q)⟩
end
/-! ### operators by data -/
section
variable (K : PySem.W.Frag) (mg : Str → Option Value)
/-- a function of data, of two values -/
def rD2 (f : D → D → Option D) : R2 := fun x y H Q => ∃ Hf dx dy d, Sub Hf H ∧ Is K mg Hf dx x ∧ Is K mg Hf dy y ∧ f dx dy = some d ∧ ∀ u Hf' H', Ste [] Hf H Hf' H' → Is K mg Hf' d u → Q u H'
def rDs (f : List D → Option D) : List V → Hp → VK → Prop := fun xs H Q => ∃ Hf ds d, Sub Hf H ∧ IsL K mg Hf ds xs ∧ f ds = some d ∧ ∀ u Hf' H', Ste [] Hf H Hf' H' → Is K mg Hf' d u → Q u H'
end
section
variable {X : Cx} {fx : Fx} {m : Type → Type} [Mo m] {G : List Sl} {a b c : Expr} {es : List Expr} {pos : Pos} {x y z : m D} {ys : m (List D)} {f : D → D → Option D}
theorem de_op {op : Operator} (ho : OpR X (binaryOp op) (rD2 X.K X.mg f)) (ha : PE X a (tE X.K X.mg fx G x)) (hb : PE X b (tE X.K X.mg fx G y)) :
    PE X (.BinOp a op b pos) (tE X.K X.mg fx G (do let u ← x; let v ← y; ask (f u v))) := peI (pe_op ho ha hb) fun σ H Q ⟨Hf, s, h⟩ =>
  (h.bind.mono fun v1 H1 ⟨d1, Hf1, s1, sb1, r1, h1⟩ => (h1.bind.mono fun v2 H2 ⟨d2, Hf2, s2, sb2, r2, h2⟩ => by
    obtain ⟨d, e, q⟩ := h2.ask
    exact ⟨Hf2, d1, d2, d, h2.1.top, r1.mono sb2, r2, e, q⟩).to).to
theorem de_cmp {op : CmpOp} (ho : OpR X (compareOp op) (rD2 X.K X.mg f)) (ha : PE X a (tE X.K X.mg fx G x)) (hb : PE X b (tE X.K X.mg fx G y)) (hm : behindInMarks op b = false) :
    PE X (.Compare a [op] [b] pos) (tE X.K X.mg fx G (do let u ← x; let v ← y; ask (f u v))) := peI (pe_cmpR ho ha hb hm) fun σ H Q ⟨Hf, s, h⟩ =>
  (h.bind.mono fun v1 H1 ⟨d1, Hf1, s1, sb1, r1, h1⟩ => (h1.bind.mono fun v2 H2 ⟨d2, Hf2, s2, sb2, r2, h2⟩ => by
    obtain ⟨d, e, q⟩ := h2.ask
    exact ⟨Hf2, d1, d2, d, h2.1.top, r1.mono sb2, r2, e, q⟩).to).to
/-- a truth value as a test -/
def bOf : D → Option Bool
  | .bl b => some b
  | _ => none
theorem dt_cmp {op : CmpOp} (ho : OpR X (compareOp op) (rD2 X.K X.mg f)) (ha : PE X a (tE X.K X.mg fx G x)) (hb : PE X b (tE X.K X.mg fx G y)) (hm : behindInMarks op b = false) :
    PT X (.Compare a [op] [b] pos) (tT X.K X.mg fx G (do let u ← x; let v ← y; ask ((f u v).bind bOf))) := ptI (pt_cmpR ho ha hb hm) fun σ H Q ⟨Hf, s, h⟩ =>
  (h.bind.mono fun v1 H1 ⟨d1, Hf1, s1, sb1, r1, h1⟩ => (h1.bind.mono fun v2 H2 ⟨d2, Hf2, s2, sb2, r2, h2⟩ => by
    obtain ⟨k, e, q⟩ := h2.ask
    cases e' : f d1 d2 with
    | none => rw [e'] at e; cases e
    | some d =>
      rw [e'] at e
      cases d with
      | bl b' =>
        have : b' = k := Option.some.inj e
        subst this
        exact ⟨Hf2, d1, d2, _, h2.1.top, r1.mono sb2, r2, e', fun u Hf' H' st i => ⟨b', i, q b' Hf' H' st rfl⟩⟩
      | _ => cases e).to).to
theorem da_nil : PA X [] (tA X.K X.mg fx G (pure [] : m (List D))) := paI pa_nil fun σ H Q ⟨Hf, s, h⟩ => h.pure rfl
theorem da_cons (ha : PE X a (tE X.K X.mg fx G x)) (hr : PA X es (tA X.K X.mg fx G ys)) (hs : starEach (a :: es) X.env = (false, eval a X.env) :: starEach es X.env := by rfl) :
    PA X (a :: es) (tA X.K X.mg fx G (do let d ← x; let ds ← ys; pure (d :: ds))) := paI (pa_cons ha hr hs) fun σ H Q ⟨Hf, s, h⟩ =>
  (h.bind.mono fun v1 H1 ⟨d1, Hf1, s1, sb1, r1, h1⟩ => (h1.bind.mono fun v2 H2 ⟨d2, Hf2, s2, sb2, r2, h2⟩ => h2.pure (IsL.cons (r1.mono sb2) r2)).to).to
theorem de_callB {g : List D → Option D} {id : String} {n : Str} {p : Pos} {e : Expr} (hc : CallR X (.builtin id) (rDs X.K X.mg g)) (hg : Gl X n) (hm : X.mg n = none) (hv : bootBuiltins n = some (.builtin id)) (ha : PA X (e :: es) (tA X.K X.mg fx G ys))
    (hn : n ≠ "__name__" := by decide) (hdb : (n == ("__debug__" : Str)) = false := by decide) (he : starEach (e :: es) X.env = (false, eval e X.env) :: starEach es X.env := by rfl) (hpl : (backTo pos (starEach es X.env)).any (·.1) = false := by rfl) :
    PE X (.Call (.Name n p) (e :: es) [] pos) (tE X.K X.mg fx G (do let ds ← ys; ask (g ds))) := peI (pe_callB hc hg hm hv ha hn hdb he hpl) fun σ H Q ⟨Hf, s, h⟩ =>
  (h.bind.mono fun v1 H1 ⟨d1, Hf1, s1, sb1, r1, h1⟩ => by
    obtain ⟨d, e, q⟩ := h1.ask
    exact ⟨Hf1, d1, d, h1.1.top, r1, e, q⟩).to
theorem de_callTy {g : List D → Option D} {T : String} {n : Str} {p : Pos} {e : Expr} (hc : CallR X (.type T) (rDs X.K X.mg g)) (hg : Gl X n) (hm : X.mg n = none) (hv : bootBuiltins n = some (.type T)) (ha : PA X (e :: es) (tA X.K X.mg fx G ys))
    (hn : n ≠ "__name__" := by decide) (hdb : (n == ("__debug__" : Str)) = false := by decide) (he : starEach (e :: es) X.env = (false, eval e X.env) :: starEach es X.env := by rfl) (hpl : (backTo pos (starEach es X.env)).any (·.1) = false := by rfl) :
    PE X (.Call (.Name n p) (e :: es) [] pos) (tE X.K X.mg fx G (do let ds ← ys; ask (g ds))) := peI (pe_callTy hc hg hm hv ha hn hdb he hpl) fun σ H Q ⟨Hf, s, h⟩ =>
  (h.bind.mono fun v1 H1 ⟨d1, Hf1, s1, sb1, r1, h1⟩ => by
    obtain ⟨d, e, q⟩ := h1.ask
    exact ⟨Hf1, d1, d, h1.1.top, r1, e, q⟩).to
theorem de_var (i : Nat) {d : D} {n : Str} (hG : G[i]? = some (.im d) := by rfl) (hN : X.N[i]? = some n := by rfl) (hv : Vis X.env.scope n := by first | exact Or.inl rfl | exact Or.inr (Or.inl rfl) | exact Or.inr (Or.inr rfl))
    (hd : (n == ("__debug__" : Str)) = false := by decide) (hcd : (n == ("__classdict__" : Str)) = false := by decide) : PE X (.Name n pos) (tE X.K X.mg fx G (pure d : m D)) :=
  peI (pe_var hN hv hd hcd) fun σ H Q ⟨Hf, s, h⟩ => by
    obtain ⟨v, e, i⟩ := h.1.sl i _ hG
    exact ⟨v, e, h.pure i⟩
theorem de_int {j : Nat} {i : Int} : PE X (.Constant (.int i) j pos) (tE X.K X.mg fx G (pure (.int i) : m D)) := peI pe_int fun σ H Q ⟨Hf, s, h⟩ => h.pure (by rw [Is])
theorem de_bl {j : Nat} {i : Bool} : PE X (.Constant (.bool i) j pos) (tE X.K X.mg fx G (pure (.bl i) : m D)) := peI pe_bl fun σ H Q ⟨Hf, s, h⟩ => h.pure (by rw [Is])
theorem de_non {j : Nat} : PE X (.Constant .none j pos) (tE X.K X.mg fx G (pure .non : m D)) := peI pe_non fun σ H Q ⟨Hf, s, h⟩ => h.pure (by rw [Is])
theorem de_str {j : Nat} {t : Str} (l : List Nat) (ht : t = ⟨l.toArray⟩ := by first | rfl | decide +kernel) (hl : l.length ≤ 1000 := by decide) : PE X (.Constant (.str t) j pos) (tE X.K X.mg fx G (pure (.str l) : m D)) :=
  peI pe_str fun σ H Q ⟨Hf, s, h⟩ => h.pure (by rw [Is, ht]; exact ⟨rfl, Nat.le_of_lt (small1000 hl)⟩)
/-- a global constant -/
theorem de_glob {n : Str} {u : Value} {v : V} {d : D} (hg : Gl X n) (hm : X.mg n = some u) (r : RelV v u) (hi : Is X.K X.mg (fun _ => none) d v) (hd : (n == ("__debug__" : Str)) = false := by decide) : PE X (.Name n pos) (tE X.K X.mg fx G (pure d : m D)) :=
  peI (pe_glob hg hm r hd) fun σ H Q ⟨Hf, s, h⟩ => h.pure (hi.mono fun a o e => by cases e)
end
end DL
/-! ### exceptions: those of the class that a suite may turn into others bear no context -/
namespace DL
open PySem PySem.Spec PyProof.Rows L2
/-- every class but the one whose errors are raised in a suite: they are made where nothing is handled -/
def Cool (mg : Str → Option Value) (cls : Value) : Prop := mg "BadRule" ≠ some cls
def CXm (P : Program) (w : World) (mg : Str → Option Value) : CXT := fun outer H s E u s' =>
  L2.CX P w outer H s (fun cls d H' => E cls d H' ∧ ¬ Cool mg cls) u s' ∨ L2N.CX P w outer H s E u s'
structure Takes (X : Cx) (W : WX) : Prop where
  hot : L2.Takes X fun cls d σ H => W cls d σ H ∧ ¬ Cool X.mg cls
  new : L2N.Takes X W
section
variable {X : Cx} {W : WX} {E : XK}
theorem takes_of (hs : X.stack = X.env :: X.outer) (hf : X.env.frame = some X.env.locals) (hex : X.ex = []) {E₁ : Value → Shared → Prop}
    (hx : X.xe = fun e s' => wpAny (model X.prog X.w) X.A (leaving X.env e) (fun _ s'' => CXm X.prog X.w X.mg X.outer X.H_0 X.s_0 E e s'') E₁ s') : Takes X (fun cls d _ H => E cls d H) := by
  refine ⟨fun u s' x => ?_, fun u s' x => ?_⟩
  · rw [hx]
    exact wpAny_mono (L2.XE.leave (W := fun cls d _ H => E cls d H ∧ ¬ Cool X.mg cls) (E := fun cls d H => E cls d H ∧ ¬ Cool X.mg cls) hs hf hex (fun _ _ _ _ h => h) x) (fun _ _ h => .inl h) fun _ _ h => h
  · rw [hx]
    exact wpAny_mono (L2N.XE.leave (W := fun cls d _ H => E cls d H) (E := E) hs hf hex (fun _ _ _ _ h => h) x) (fun _ _ h => .inr h) fun _ _ h => h
theorem passAt (tk : Takes X W) (σ : L2.St) : PassesAt (CXm X.prog X.w X.mg) X σ (WE W σ) := fun pins H s e s' I c => by
  rcases c with c | c
  · exact tk.hot e s' (L2.XE.of_call (E := fun cls d H' => WE W σ cls d H' ∧ ¬ Cool X.mg cls) I (fun _ _ _ h => h) c)
  · exact tk.new e s' (L2N.XE.of_call I (fun _ _ _ h => h) c)
theorem cxm_false {P : Program} {w : World} {mg : Str → Option Value} {outer : List Env} {H : Hp} {s s' : Shared} {e : Value} (h : CXm P w mg outer H s (fun _ _ _ => False) e s') : False := by
  rcases h with h | h
  · obtain ⟨_, _, _, _, _, _, _, _, _, _, _, _, z⟩ := h
    exact z.1
  · obtain ⟨_, _, _, _, _, _, _, _, _, _, _, _, z⟩ := h
    exact z
/-- an exception in the air, what is kept of it: Z -/
def XEZ (Z : Value → Option Addr → Obj → Prop) (X : Cx) (W : WX) (u : Value) (s' : Shared) : Prop :=
  ∃ (a : Addr) (B : Heap) (sI : Shared) (pins : List (Addr × Obj)) (σ : L2.St) (H : Hp) (cls : Value) (d : Option Addr),
    u = .ref a ∧ L2.Inv X pins σ H sI ∧ (∀ b o, sI.heap.get? b = some o → b ∉ frs X.stack → B.get? b = some o) ∧ sI.heap.UpToSlots s'.heap ∧
      L2.Sky B X.stack a (Z cls d) X.env.locals s'.heap ∧ H a = none ∧ s'.os = sI.os ∧ AllBare s'.gens ∧ W cls d σ H
theorem zc_steady1 {cls : Value} {d : Option Addr} : PXN.Steady1 (Zc cls d) := fun o v h => ⟨PXN.steady_cls o v h.1, PXN.steady_dict o v h.2⟩
section
variable {X : Cx} {W : WX} {E : XK}
theorem ub_after {fs : List Addr} {H H2 H' : Hp} {h h2 B h' : Heap} (un : Un fs [] H H2 h h2) (kp : ∀ b o, h.get? b = some o → h2.get? b = some o) (ub : UB fs H2 H' h2 B h') : UB fs H H' h B h' where
  keep b o at_ no out := ub.keep b o (kp b o at_) (un.free b o at_ no List.not_mem_nil) out
  slot b o at_ out := ub.slot b o (kp b o at_) out
  free b o at_ no := ub.free b o (kp b o at_) (un.free b o at_ no List.not_mem_nil)
  there b o at_ out := ub.there b o (kp b o at_) out
  tups b xs t := ub.tups b xs (un.tups b xs t)
  frzs b o xs t := ub.frzs b o xs (un.frzs b o xs t)
  tbls b ps t :=
    let ⟨m1, t1⟩ := un.tbls b ps t
    let ⟨m2, t2⟩ := ub.tbls b (ps ++ m1) t1
    ⟨m1 ++ m2, t2.trans (by rw [Array.append_assoc])⟩
theorem cxUpN {P : Program} {w : World} : StX.CXUp (L2N.CX P w) := fun _ _ _ _ _ _ _ _ un kp same ⟨a, B, H', cls, d, e, fl, ok, ub, no, os, bare, want⟩ => ⟨a, B, H', cls, d, e, fl, ok, ub_after un kp ub, no, os.trans same, bare, want⟩
end
theorem cxUp {P : Program} {w : World} {mg : Str → Option Value} : StX.CXUp (CXm P w mg) := fun outer s H s2 H2 E e s' un kp ho h => by
  rcases h with h | h
  · exact .inl (StX.cxUp outer s H s2 H2 _ e s' un kp ho h)
  · exact .inr (cxUpN outer s H s2 H2 _ e s' un kp ho h)
end
end DL
namespace DL
open PySem L2
/-! ### statements -/
inductive Fl (α β : Type) where
  | nx (a : α)
  | rt (d : D)
  | bk (b : β)
  | ct (b : β)
section
variable {m : Type → Type} [Mo m] {α β γ : Type}
def seqF (x : m (Fl α β)) (k : α → m (Fl γ β)) : m (Fl γ β) := do
  match ← x with
  | .nx a => k a
  | .rt d => pure (.rt d)
  | .bk b => pure (.bk b)
  | .ct b => pure (.ct b)
def forF (u : D → Option γ) (xb : α → γ → m (Fl α α)) : List D → α → m (Fl α β)
  | [], a => pure (.nx a)
  | d :: ds, a => do
    let c ← ask (u d)
    match ← xb a c with
    | .nx a' => forF u xb ds a'
    | .ct a' => forF u xb ds a'
    | .bk a' => pure (.nx a')
    | .rt d => pure (.rt d)
end
section
variable (K : PySem.W.Frag) (mg : Str → Option Value) (fx : Fx)
def GxOk (G : List Sl) : Prop := match fx.gx with
  | none => True
  | some g => Wk G g
/-- where an exception leaves a statement -/
def XSt (Hf H : Hp) (σ : L2.St) (s : S) : Prop := match fx.gx with
  | none => Ste (fx.me ++ fx.bag) fx.Hf0 fx.H0 Hf H ∧ BagAt fx.bag H s
  | some g => StS K mg fx Hf H σ g s
def EXS : Exn → S → Prop := fun e s' => ∀ cls dd σ' Hf' H', XSt K mg fx Hf' H' σ' s' → ExIs K mg Hf' H' e cls dd → fx.W cls dd σ' H'
variable {α β : Type}
def FP (Hf : Hp) (ex : α → List Sl) (exb : β → List Sl) (De : Ends) : Fl α β → S → Prop := fun f s' => match f with
  | .nx a => ∀ Hf' H' σ', Sub Hf Hf' → StS K mg fx Hf' H' σ' (ex a) s' → De.nx σ' H'
  | .rt d => ∀ v Hf' H', Ste (fx.me ++ fx.bag) fx.Hf0 fx.H0 Hf' H' → BagAt fx.bag H' s' → RtOk K mg fx.nr fx.H0 Hf' H' d v → De.rt v H'
  | .bk b => ∀ Hf' H' σ', Sub Hf Hf' → StS K mg fx Hf' H' σ' (exb b) s' → De.bk σ' H'
  | .ct b => ∀ Hf' H' σ', Sub Hf Hf' → StS K mg fx Hf' H' σ' (exb b) s' → De.ct σ' H'
variable {m : Type → Type} [Mo m]
def tSX (G : List Sl) (ex : α → List Sl) (exb : β → List Sl) (x : m (Fl α β)) (Hf : Hp) (s : S) (De : Ends) (σ : L2.St) (H : Hp) : Prop :=
  StS K mg fx Hf H σ G s ∧ Mo.wp x s (FP K mg fx Hf ex exb De) (EXS K mg fx)
def tS (G : List Sl) (ex : α → List Sl) (exb : β → List Sl) (x : m (Fl α β)) : TS := fun De σ H => ∃ Hf s, tSX K mg fx G ex exb x Hf s De σ H
end
section
variable {K : PySem.W.Frag} {mg : Str → Option Value} {fx : Fx} {m : Type → Type} [Mo m] {α β γ δ ε : Type} {G G' : List Sl} {ex : α → List Sl} {exb : β → List Sl} {rm : Hp → γ → δ → Prop}
theorem exs_ex {σ : L2.St} {e : Exn} {s : S} (hx : GxOk fx G) (h : EXS K mg fx e s) : EX K mg fx G σ e s := fun cls dd Hf' H' st xi => by
  refine h cls dd σ Hf' H' ?_ xi
  unfold XSt
  unfold GxOk at hx
  cases q : fx.gx with
  | none => exact ⟨st.ste, st.bag⟩
  | some g =>
    rw [q] at hx
    exact st.weak hx
theorem FP.up {Hf Hf1 : Hp} {De : Ends} {f : Fl α β} {s : S} (sb : Sub Hf Hf1) (h : FP K mg fx Hf ex exb De f s) : FP K mg fx Hf1 ex exb De f s := by
  cases f with
  | nx a => exact fun Hf' H' σ' sb' => h Hf' H' σ' (sb.trans sb')
  | rt d => exact h
  | bk b => exact fun Hf' H' σ' sb' => h Hf' H' σ' (sb.trans sb')
  | ct b => exact fun Hf' H' σ' sb' => h Hf' H' σ' (sb.trans sb')
theorem tSX.to {x : m (Fl α β)} {Hf : Hp} {s : S} {σ : L2.St} {H : Hp} {De : Ends} (h : tSX K mg fx G ex exb x Hf s De σ H) : tS K mg fx G ex exb x De σ H := ⟨Hf, s, h⟩
theorem tSX.bind {x : m γ} {k : γ → m (Fl α β)} {Hf : Hp} {s : S} {σ : L2.St} {H : Hp} {De : Ends} (h : tSX K mg fx G ex exb (x >>= k) Hf s De σ H) (hx : GxOk fx G) :
    tX K mg fx G rm x Hf s σ H (fun b H1 => ∃ a Hf1 s1, Sub Hf Hf1 ∧ rm Hf1 a b ∧ tSX K mg fx G ex exb (k a) Hf1 s1 De σ H1) :=
  ⟨h.1, Mo.wp_mono (Mo.wp_bind h.2) (fun a s1 h1 b Hf1 H1 ste bag r => ⟨a, Hf1, s1, ste.sub, r, h.1.step ste bag, Mo.wp_mono h1 (fun f s2 h2 => h2.up ste.sub) fun e s' k => k⟩) fun e s' k => exs_ex hx k⟩
theorem tSX.weak {x : m (Fl α β)} {Hf : Hp} {s : S} {σ : L2.St} {H : Hp} {De : Ends} (h : tSX K mg fx G ex exb x Hf s De σ H) (w : Wk G G') : tSX K mg fx G' ex exb x Hf s De σ H := ⟨h.1.weak w, h.2⟩
theorem tSX.seq {exA : ε → List Sl} {x : m (Fl ε β)} {k : ε → m (Fl α β)} {Hf : Hp} {s : S} {σ : L2.St} {H : Hp} {De : Ends} (h : tSX K mg fx G ex exb (seqF x k) Hf s De σ H) :
    tSX K mg fx G exA exb x Hf s { De with nx := fun σ' H' => ∃ a, tS K mg fx (exA a) ex exb (k a) De σ' H' } σ H :=
  ⟨h.1, Mo.wp_mono (Mo.wp_bind h.2) (fun f s1 h1 => by
    cases f with
    | nx a => exact fun Hf' H' σ' sb st => ⟨a, Hf', s1, st, Mo.wp_mono h1 (fun f s2 h2 => h2.up sb) fun e s' k => k⟩
    | rt d => have z := Mo.wp_pure h1; exact z
    | bk b => have z := Mo.wp_pure h1; exact z
    | ct b => have z := Mo.wp_pure h1; exact z) fun e s' k => k⟩
end
section
variable {X : Cx}
theorem pss_ex {ι : Type} {sts : List Stmt} {t : ι → TS} (h : ∀ i, PSs X sts (t i)) : PSs X sts (fun D σ H => ∃ i, t i D σ H) := ⟨fun pins s σ H D I ⟨i, q⟩ => (h i).run pins s σ H D I q⟩
/-- what a context bears -/
structure Cok (X : Cx) (fx : Fx) (k : Nat) : Prop where
  calm : X.calm = true
  hp : X.stack = X.env :: X.outer → PassesOwn (model X.prog X.w) X.A X.env X.xe
  tk : Takes X fx.W
  rm : Room k X.A
  nd : X.N.Nodup
  gd : X.A.guards = some []
end
section
variable {X : Cx} {fx : Fx} {m : Type → Type} [Mo m] {α β γ δ ε : Type} {G G' : List Sl} {ex : α → List Sl} {exb : β → List Sl} {exA : ε → List Sl} {rest A B : List Stmt} {pos : Pos} {kk : Nat} {x : m D} {k : D → m (Fl α β)} {e : Expr} {i : Nat}
theorem dss_nil {a : α} (w : Wk G (ex a)) : PSs X [] (tS X.K X.mg fx G ex exb (pure (.nx a) : m (Fl α β))) := pssI pss_nil fun D σ H ⟨Hf, s, h⟩ =>
  (Mo.wp_pure h.2) Hf H σ (.refl _) (h.1.weak w)
/-- x = e -/
theorem dss_asg (C : Cok X fx kk) {n : Str} {pos' : Pos} (i : Nat) (he : PE X e (tE X.K X.mg fx G x)) (hr : ∀ d, PSs X rest (tS X.K X.mg fx (G.set i (.im d)) ex exb (k d))) (hi : X.N[i]? = some n := by rfl) (hx : Loc X.env.scope n := by first | exact Or.inl rfl | exact Or.inr rfl)
    (hs : swapsWith e (some (.Name n pos')) pos.line X.env = pure false := by rfl) (hf : X.fn n = true ∨ X.env.scope.names.lookup n = some .local := by first | exact .inl rfl | exact .inr rfl) (hg : GxOk fx G := by first | exact True.intro | repeat' (first | exact True.intro | exact Or.inl rfl | exact Or.inr rfl | refine And.intro ?_ ?_)) :
    PSs X (.Assign [.Name n pos'] e pos :: rest) (tS X.K X.mg fx G ex exb (x >>= k)) := pssI (pss_cons (ps_set C.nd hi hx he hs hf) (pss_ex hr)) fun D σ H ⟨Hf, s, h⟩ =>
  ((h.bind hg).mono fun v H1 ⟨d, Hf1, s1, sb, r, h1⟩ => ⟨d, Hf1, s1, h1.1.set r, h1.2⟩).to
/-- return e -/
theorem dss_ret (he : PE X e (tE X.K X.mg fx G x)) (hnr : fx.nr = false := by rfl) (hg : GxOk fx G := by first | exact True.intro | repeat' (first | exact True.intro | exact Or.inl rfl | exact Or.inr rfl | refine And.intro ?_ ?_)) : PSs X (.Return (some e) pos :: rest) (tS X.K X.mg fx G ex exb (do let d ← x; pure (.rt d))) := pssI (pss_cons (ps_ret he) pss_never) fun D σ H ⟨Hf, s, h⟩ =>
  ((h.bind hg).mono fun v H1 ⟨d, Hf1, s1, sb, r, h1⟩ => (Mo.wp_pure h1.2) v Hf1 H1 h1.1.ste h1.1.bag (by rw [hnr]; exact r)).to
/-- if -/
theorem dss_if {c : Expr} {xc : m Bool} {xa xb : m (Fl ε β)} {k : ε → m (Fl α β)} (hc : PT X c (tT X.K X.mg fx G xc)) (ha : PSs X A (tS X.K X.mg fx G exA exb xa)) (hb : PSs X B (tS X.K X.mg fx G exA exb xb)) (hr : ∀ a, PSs X rest (tS X.K X.mg fx (exA a) ex exb (k a))) (hg : GxOk fx G := by first | exact True.intro | repeat' (first | exact True.intro | exact Or.inl rfl | exact Or.inr rfl | refine And.intro ?_ ?_)) :
    PSs X (.If c A B pos :: rest) (tS X.K X.mg fx G ex exb (do let t ← xc; seqF (if t = true then xa else xb) k)) := pssI (pss_cons (ps_if hc ha hb) (pss_ex hr)) fun D σ H ⟨Hf, s, h⟩ =>
  ((h.bind hg).mono fun v H1 ⟨d, Hf1, s1, sb, r, h1⟩ => by
    cases r
    cases v with
    | true => exact h1.seq.to
    | false => exact h1.seq.to).to
end
/-! ### what is walked -/
section
variable (K : PySem.W.Frag) (mg : Str → Option Value)
def Yl (J : It) (Hf0 : Hp) (ds : List D) : Prop := ds.length ≤ sizeLine ∧ ∀ Hf H, Sub Hf0 Hf → Sub Hf H → ∀ i : Nat,
  (∀ d, ds[i]? = some d → J.go i H ∧ ∀ x H', J.yld i H x H' → ∃ Hf', Ste [] Hf H Hf' H' ∧ Is K mg Hf' d x) ∧ (ds.length ≤ i → J.stop i H)
abbrev tI (fx : Fx) (G : List Sl) {m : Type → Type} [Mo m] (x : m (List D)) : TI := tG K mg fx G (fun Hf ds J => Yl K mg J Hf ds) x
end
section
variable {X : Cx} {fx : Fx} {m : Type → Type} [Mo m] {α β γ : Type} {G G' : List Sl} {ex : α → List Sl} {exb : β → List Sl} {rest body : List Stmt} {pos : Pos} {kk : Nat}
/-- a target: it takes c of the datum (u), and sets slots (st) -/
def PGd (X : Cx) (fx : Fx) (tg : Expr) (g : TG) (u : D → Option γ) (st : List Sl → γ → List Sl) (is : List Nat) : Prop :=
  PG X tg g ∧ ∀ {G : List Sl} {Hf : Hp} {d : D} {v : V} {σ : L2.St} {H : Hp} {s : S} {c : γ} {Q : L2.St → Hp → Prop}, StS X.K X.mg fx Hf H σ G s → Is X.K X.mg Hf d v → u d = some c → (∀ σ', (∀ j, j ∉ is → σ'[j]? = σ[j]?) → σ'.length = σ.length → StS X.K X.mg fx Hf H σ' (st G c) s → Q σ' H) → g v σ H Q
theorem pgd_name (C : Cok X fx kk) (i : Nat) {n : Str} (hi : X.N[i]? = some n := by rfl) (hx : Loc X.env.scope n := by first | exact Or.inl rfl | exact Or.inr rfl) (hf : X.fn n = true ∨ X.env.scope.names.lookup n = some .local := by first | exact .inl rfl | exact .inr rfl) :
    PGd X fx (.Name n pos) (gName i) (fun d => some d) (fun G d => G.set i (.im d)) [i] :=
  ⟨pg_name C.nd hi hx hf, fun {G Hf d v σ H s c Q} st r e q => by
    cases e
    exact q _ (fun j hj => List.getElem?_set_ne (fun z => hj (by simp [z]))) (by simp) (st.set r)⟩
theorem dss_for {ε : Type} {exl : ε → List Sl} {tg iter : Expr} {g : TG} {u : D → Option γ} {st : List Sl → γ → List Sl} {xi : m (List D)} {xb : ε → γ → m (Fl ε ε)} {k : ε → m (Fl α β)} {is : List Nat} (a0 : ε) (C : Cok X fx kk) (hi : PI X tg iter (tI X.K X.mg fx G xi)) (hg : PGd X fx tg g u st is)
    (w : Wk G (exl a0)) (hb : ∀ a c, PSs X body (tS X.K X.mg fx (st (exl a) c) exl exl (xb a c))) (hr : ∀ a, PSs X rest (tS X.K X.mg fx (exl a) ex exb (k a))) (hs : ∀ x, foldedSetIterable iter X.env x = pure x := by intro _; rfl) (hst : X.stack = X.env :: X.outer := by rfl) (hx : GxOk fx G := by first | exact True.intro | repeat' (first | exact True.intro | exact Or.inl rfl | exact Or.inr rfl | refine And.intro ?_ ?_)) :
    PSs X (.For tg iter body [] pos :: rest) (tS X.K X.mg fx G ex exb (do let ds ← xi; seqF (forF u xb ds a0) k)) := by
  refine pssI (pss_cons (ps_for (C.hp hst) C.calm hi hg.1 (pss_ex (ι := ε × γ) (t := fun p => tS X.K X.mg fx (st (exl p.1) p.2) exl exl (xb p.1 p.2)) fun p => hb p.1 p.2) hs) (pss_ex hr)) fun D σ H ⟨Hf, s, h⟩ => ?_
  refine ((h.bind hx).mono fun J H1 ⟨ds, Hf1, s1, sb, yl, h1⟩ => ?_).to
  have h2 := h1.seq (exA := exl)
  obtain ⟨st1, w1⟩ := h2
  refine ⟨fun i m σ H => m = ds.length - i ∧ i ≤ ds.length ∧ ∃ a Hf s, Sub Hf1 Hf ∧ StS X.K X.mg fx Hf H σ (exl a) s ∧
    Mo.wp (forF (β := β) u xb (ds.drop i) a) s (FP X.K X.mg fx Hf exl exb { D with nx := fun σ' H' => ∃ a, tS X.K X.mg fx (exl a) ex exb (k a) D σ' H' }) (EXS X.K X.mg fx), ⟨ds.length, by simp, Nat.zero_le _, a0, Hf1, s1, .refl _, st1.weak w, w1⟩, ?_⟩
  rintro i m σ H ⟨rfl, hi, a, Hf2, s2, sb2, st2, w2⟩
  obtain ⟨y1, y2⟩ := yl.2 Hf2 H sb2 st2.top i
  by_cases hlt : i < ds.length
  · obtain ⟨go, yd⟩ := y1 ds[i] (List.getElem?_eq_getElem hlt)
    rw [List.drop_eq_getElem_cons hlt] at w2
    have w3 := Mo.wp_bind w2
    have w4 := Mo.wp_lift w3
    refine .inr ⟨go, fun σ' H' => i + 1 ≤ ds.length ∧ ∃ a Hf s, Sub Hf1 Hf ∧ StS X.K X.mg fx Hf H' σ' (exl a) s ∧
      Mo.wp (forF (β := β) u xb (ds.drop (i + 1)) a) s (FP X.K X.mg fx Hf exl exb { D with nx := fun σ' H' => ∃ a, tS X.K X.mg fx (exl a) ex exb (k a) D σ' H' }) (EXS X.K X.mg fx), fun σ' H' q => ⟨ds.length - (i + 1), by omega, rfl, q⟩, fun x H' y => ?_⟩
    obtain ⟨Hf3, e3, is3⟩ := yd x H' y
    cases q : u ds[i] with
    | none => rw [q] at w4; exact w4.elim
    | some c =>
      rw [q] at w4
      have st3 := st2.step e3.wide (e3.bag st2.bag)
      refine hg.2 st3 is3 q fun σ' _ _ st4 => ?_
      refine ⟨(a, c), Hf3, s2, st4, ?_⟩
      refine Mo.wp_mono (Mo.wp_bind w4) (fun f s5 h5 => ?_) fun e s' k => k
      cases f with
      | nx a' => exact fun Hf' H' σ' sb' st' => ⟨hlt, a', Hf', s5, (sb2.trans e3.sub).trans sb', st', Mo.wp_mono h5 (fun f s2 h2 => h2.up (e3.sub.trans sb')) fun e s' k => k⟩
      | ct a' => exact fun Hf' H' σ' sb' st' => ⟨hlt, a', Hf', s5, (sb2.trans e3.sub).trans sb', st', Mo.wp_mono h5 (fun f s2 h2 => h2.up (e3.sub.trans sb')) fun e s' k => k⟩
      | bk a' => have z := Mo.wp_pure h5; exact fun Hf' H' σ' sb' => z Hf' H' σ' (e3.sub.trans sb')
      | rt d => have z := Mo.wp_pure h5; exact z
  · have e : i = ds.length := by omega
    subst e
    refine .inl ⟨y2 (Nat.le_refl _), ?_⟩
    rw [List.drop_length] at w2
    exact (Mo.wp_pure w2) Hf2 H σ (.refl _) st2
end
end DL
namespace DL
open PySem L2
/-! ### defs -/
def runR (nr : Bool) : R (Fl Unit Empty) → R D
  | .ok (.nx _) => if nr = true then .stuck else .ok .non
  | .ok (.rt d) => .ok d
  | .ok (.bk b) => b.elim
  | .ok (.ct b) => b.elim
  | .ex e => .ex e
  | .stuck => .stuck
def runM (nr : Bool) (x : M (Fl Unit Empty)) : M D := fun s => match x s with
  | .ok (.nx _) s => if nr = true then .stuck else .ok .non s
  | .ok (.rt d) s => .ok d s
  | .ok (.bk b) _ => b.elim
  | .ok (.ct b) _ => b.elim
  | .ex e s => .ex e s
  | .stuck => .stuck
def unG (N : List Str) : List Sl := N.map fun _ => .un
def G0 (N : List Str) (ds : List D) : List Sl := ds.map Sl.im ++ List.replicate (N.length - ds.length) .un
def G1 (N : List Str) (ds : List D) : List Sl := .bg :: (ds.map Sl.im ++ List.replicate (N.length - ds.length - 1) .un)
abbrev fxE (bag : List Addr) (nr : Bool) (H Hf : Hp) (E : XK) : Fx := ⟨bag, H, Hf, fun cls d _ H' => E cls d H', none, nr, [], []⟩
section
variable (K : PySem.W.Frag) (mg : Str → Option Value)
def spR (nr : Bool) (n : Nat) (g : List D → R D) : Sp := fun vs H Q E => vs.length = n ∧ ∃ Hf ds, Sub Hf H ∧ IsL K mg Hf ds vs ∧ (match g ds with
  | .ok d => ∀ v Hf' H', Ste [] Hf H Hf' H' → RtOk K mg nr H Hf' H' d v → Q v H'
  | .ex e => ∀ cls dd Hf' H', Ste [] Hf H Hf' H' → ExIs K mg Hf' H' e cls dd → E cls dd H'
  | .stuck => False)
def spM (nr : Bool) (n : Nat) (g : List D → M D) : Sp := fun vs H Q E => vs.length = n ∧ ∃ bag b r Hf ds vs' s, bag = b :: r ∧ vs = .ref b :: vs' ∧ Sub Hf H ∧ (∀ b ∈ bag, Hf b = none ∧ H b ≠ none) ∧ BagAt bag H s ∧ IsL K mg Hf ds vs' ∧ (match g ds s with
  | .ok d s' => ∀ v Hf' H', Ste bag Hf H Hf' H' → BagAt bag H' s' → RtOk K mg nr H Hf' H' d v → Q v H'
  | .ex e s' => ∀ cls dd Hf' H', Ste bag Hf H Hf' H' → BagAt bag H' s' → ExIs K mg Hf' H' e cls dd → E cls dd H'
  | .stuck => False)
end
theorem start_at {N : List Str} {vs : List V} {i : Nat} {v : V} (h : vs[i]? = some v) : (start N vs)[i]? = some (some v) := by
  unfold L2.start
  have hl : i < vs.length := (List.getElem?_eq_some_iff.mp h).1
  rw [List.getElem?_append_left (by simpa using hl), List.getElem?_map, h]
  rfl
theorem start_len {N : List Str} {vs : List V} (h : vs.length ≤ N.length) : (start N vs).length = N.length := by
  unfold L2.start
  simp
  omega
theorem isOw_im {ds : List D} {n i : Nat} {x : Sl} (h : (ds.map Sl.im ++ List.replicate n .un)[i]? = some x) (o : isOw x = true) : False := by
  have hm := List.mem_of_getElem? h
  rcases List.mem_append.mp hm with hm | hm
  · obtain ⟨d, _, rfl⟩ := List.mem_map.mp hm
    cases o
  · have := List.eq_of_mem_replicate hm
    subst this
    cases o
section
variable {K : PySem.W.Frag} {mg : Str → Option Value}
theorem slOk_G0 {fx : Fx} {Hf H : Hp} {ds : List D} {vs : List V} {N : List Str} {n : Nat} (l : IsL K mg Hf ds vs) {i : Nat} {x : Sl} (e : (ds.map Sl.im ++ List.replicate n .un)[i]? = some x) : SlOk K mg fx Hf H (vs[i]?.map some) x := by
  by_cases h : i < ds.length
  · rw [List.getElem?_append_left (by simpa using h), List.getElem?_map, List.getElem?_eq_getElem h] at e
    cases e
    obtain ⟨v, hv, hi⟩ := l.get (List.getElem?_eq_getElem h)
    exact ⟨v, by rw [hv]; rfl, hi⟩
  · rw [List.getElem?_append_right (by simpa using Nat.le_of_not_lt h)] at e
    have := List.eq_of_mem_replicate (List.mem_of_getElem? e)
    subst this
    trivial
theorem StS.init0 {nr : Bool} {Hf H : Hp} {E : XK} {ds : List D} {vs : List V} {N : List Str} {s : S} (sb : Sub Hf H) (l : IsL K mg Hf ds vs) (hn : vs.length ≤ N.length) : StS K mg (fxE [] nr H Hf E) Hf H (start N vs) (G0 N ds) s := by
  refine ⟨.refl sb, trivial, fun b hb => (by cases hb), ?_, fun i x e => ?_, fun i j x y p _ ex _ ox _ => (isOw_im ex ox).elim⟩
  · rw [start_len hn]
    unfold G0
    have := l.len
    simp
    omega
  · have q := slOk_G0 (fx := fxE [] nr H Hf E) (H := H) (N := N) l e
    cases x with
    | un => trivial
    | im d =>
      obtain ⟨v, hv, hi⟩ := q
      refine ⟨v, ?_, hi⟩
      cases h : vs[i]? with
      | none => rw [h] at hv; cases hv
      | some w => rw [h] at hv; cases hv; exact start_at h
    | ow ds => exact (isOw_im e rfl).elim
    | od ks ds => exact (isOw_im e rfl).elim
    | ob ns ds => exact (isOw_im e rfl).elim
    | bg =>
      obtain ⟨b, r, e, _⟩ := q
      cases e
theorem StS.init1 {nr : Bool} {Hf H : Hp} {E : XK} {ds : List D} {vs : List V} {N : List Str} {s : S} {bag : List Addr} {b : Addr} {r : List Addr} (eb : bag = b :: r) (sb : Sub Hf H) (hb : ∀ b ∈ bag, Hf b = none ∧ H b ≠ none) (bg : BagAt bag H s) (l : IsL K mg Hf ds vs) (hn : vs.length + 1 ≤ N.length) :
    StS K mg (fxE bag nr H Hf E) Hf H (start N (.ref b :: vs)) (G1 N ds) s := by
  refine ⟨.refl sb, bg, fun b m => ⟨(hb b m).1, (hb b m).2, fun z => nomatch z⟩, ?_, fun i x e => ?_, fun i j x y p _ ex _ ox _ => ?_⟩
  · rw [start_len (by simpa using hn)]
    unfold G1
    have := l.len
    simp
    omega
  · cases i with
    | zero =>
      cases e
      exact ⟨b, r, eb, start_at rfl⟩
    | succ i =>
      have e' : (ds.map Sl.im ++ List.replicate (N.length - ds.length - 1) .un)[i]? = some x := e
      have q := slOk_G0 (fx := fxE bag nr H Hf E) (H := H) (N := N) l e'
      cases x with
      | un => trivial
      | im d =>
        obtain ⟨v, hv, hi⟩ := q
        refine ⟨v, ?_, hi⟩
        cases h : vs[i]? with
        | none => rw [h] at hv; cases hv
        | some w => rw [h] at hv; cases hv; exact start_at (by simpa using h)
      | ow ds => exact (isOw_im e' rfl).elim
      | od ks ds => exact (isOw_im e' rfl).elim
      | ob ns ds => exact (isOw_im e' rfl).elim
      | bg =>
        have hm := List.mem_of_getElem? e'
        rcases List.mem_append.mp hm with hm | hm
        · obtain ⟨d, _, z⟩ := List.mem_map.mp hm
          cases z
        · have := List.eq_of_mem_replicate hm
          cases this
  · cases i with
    | zero => cases ex; cases ox
    | succ i => exact (isOw_im (n := N.length - ds.length - 1) (ds := ds) (i := i) ex ox).elim
end
/-- a def's promise where no repr is under way -/
structure FnG (P : Program) (w : World) (K : PySem.W.Frag) (mg : Str → Option Value) (base : Heap) (k : Nat) (f : Addr) (fd : FuncData) (ps : List Str) (sp : Sp) : Prop where
  len : ∀ vs H Q E, sp vs H Q E → vs.length = ps.length
  run : ∀ (A : Around) (outer : List Env) (s : Shared) (H : Hp) (args : Args) (us : List Value) (vs : List V) (Q : VK) (E : XK), A.guards = some [] → Room k A → Env0 P w K mg base A outer s H → BindsTo s fd args (ps.zip us) → Vals vs us → sp vs H Q E →
    codeAny (model P w) A (.call (.ref f) args) (CR (CXm P w mg) outer P w H s Q E) s
/-- a call's end, for the caller -/
theorem ends_call {X : Cx} {pins : List (Addr × Obj)} {σ : L2.St} {H : Hp} {s s' : Shared} {Q : VK} {E : XK} {r : PySem.Result} (I : Inv X pins σ H s) (hx : PassesAt (CXm X.prog X.w X.mg) X σ E) (hq : CR (CXm X.prog X.w X.mg) X.stack X.prog X.w H s Q E r s') :
    match r with
    | .ok (.ret u) => EP X pins σ Q u s'
    | .ok _ => False
    | .error e => X.xe e s' := by
  cases r with
  | error e => exact hx pins H s e s' I hq
  | ok fl => cases fl <;> first | exact I.after hq | exact hq
theorem run_g {X : Cx} {k : Nat} {f : Addr} {fd : FuncData} {ps : List Str} {sp : Sp} {dvs : List V} {ds : List Value} {E : L2.St → XK} {pins : List (Addr × Obj)} {σ : L2.St} {H : Hp} {s : Shared} {Q : VK} {us : List Value} {vs : List V} (F : FnG X.prog X.w X.K X.mg X.base k f fd ps sp) (hg : X.A.guards = some []) (hr : Room k X.A) (hb : Binds X.K fd ps ds) (hd : Vals dvs ds)
    (hx : PassesAt (CXm X.prog X.w X.mg) X σ (E σ)) (I : Inv X pins σ H s) (r : Vals vs us) (h : sp (vs ++ dvs) H Q (E σ)) : wpAny (model X.prog X.w) X.A (call (.ref f) us) (EP X pins σ Q) X.xe s := by
  have ra := r.append hd
  have hl := F.len _ _ _ _ h
  rw [ra.length] at hl
  refine wpAny_call (codeAny_mono (F.run X.A X.stack s H ⟨us, []⟩ (us ++ ds) (vs ++ dvs) Q (E σ) hg hr I.env0 (hb s us I.kIn hl) ra h) fun r s' hq => ?_)
  have z := ends_call I hx hq
  cases r with
  | error e => exact z
  | ok fl => cases fl <;> first | exact z | exact z.elim
theorem pe_callG {X : Cx} {k : Nat} {f : Addr} {fd : FuncData} {ps : List Str} {sp : Sp} {dvs : List V} {ds : List Value} {E : L2.St → XK} {x : Str} {p pos : Pos} {e : Expr} {es : List Expr} {t : TA} (F : FnG X.prog X.w X.K X.mg X.base k f fd ps sp) (hgd : X.A.guards = some []) (hr : Room k X.A) (hg : Gl X x) (hm : X.mg x = some (.ref f)) (hk : PySem.W.keepIn X.K (.ref f) = true) (hb : Binds X.K fd ps ds) (hd : Vals dvs ds)
    (hx : ∀ σ, PassesAt (CXm X.prog X.w X.mg) X σ (E σ)) (ha : PA X (e :: es) t) (hdb : (x == ("__debug__" : Str)) = false := by decide) (he : starEach (e :: es) X.env = (false, eval e X.env) :: starEach es X.env := by rfl) (hpl : (backTo pos (starEach es X.env)).any (·.1) = false := by rfl) :
    PE X (.Call (.Name x p) (e :: es) [] pos) (fun σ H Q => t σ H fun vs H1 => sp (vs ++ dvs) H1 Q (E σ)) := ⟨fun pins s σ H Q I h =>
  wpAny_Call_Name_kw (ld_glob I hg hm (PySem.W.callWith_K (h₀ := X.base) I.ok.mod.kin hk (thn (ha.run pos pins s σ H _ I h) fun us s1 ⟨vs, H1, I1, r, q⟩ => ⟨I1.kIn, run_g F hgd hr hb hd (hx σ) I1 r q⟩) he hpl) hdb)⟩
section
variable {P : Program} {w : World} {K : PySem.W.Frag} {mg : Str → Option Value} {base : Heap}
open PyProof.Rows PySem.Spec in
/-- a def by its body -/
theorem fn_g {x qual : Str} {st : Stmt} {f : Addr} {fd : FuncData} {N ps : List Str} {k : Nat} {sp : Sp} (F : Fun K x qual st f fd) (Sc : FnScope N ps (defScope st)) (len : ∀ vs H Q E, sp vs H Q E → vs.length = ps.length)
    (hbody : ∀ (cdv : Value) (A : Around) (outer : List Env) (s : Shared) (H : Hp) (vs : List V) (Q : VK) (E : XK), A.guards = some [] → Room k (A.deeper (envOfC qual (defScope st) s.heap.objs.size f cdv)) → sp vs H Q E →
      ∃ t, PSs (cxOf (CXm P w mg) P w K mg base N qual (defScope st) f cdv A outer s H E) (defBody st) t ∧ t { nx := fun _ H' => Q .non H', rt := Q } (start N vs) H) : FnG P w K mg base (k + 1) f fd ps sp := by
  refine ⟨len, fun A outer s H args us vs Q E gd hr e0 hb r hsp => ?_⟩
  obtain ⟨oc, od, kV, doc, pm, an, cdv, ct, osl, rfl, lk, hcd⟩ := F.ex
  have kp := fun b o e => (e0.bs b o e).1
  have hk : ∀ y ∈ ps.zip us, (defScope st).names.lookup y.1 = some .local ∨ ((defScope st).names.lookup y.1 = some .cell ∧ ((cellsFrom (s.heap.objs.size + 1) (defScope st).names []).lookup y.1).isSome = true) := fun y hy =>
    (Sc.par y.1 (List.of_mem_zip (a := y.1) (b := y.2) hy).1).imp (fun q => q) fun q => ⟨q, PySem.W.cellsFrom_some _ _ _ (.inl q)⟩
  refine codeAny_call_function hr.depth (e0.mod.kin.keeps kp _ _ lk) rfl Sc.co Sc.gen rfl (PySem.W.codeRec_of (e0.mod.kin.keeps kp) hcd) (hb _ _ _ _ (wpAny_newFunctionEnv_cells Sc.kind hk fun env he s1 x => ?_))
  subst he
  obtain ⟨t, ht, hq⟩ := hbody cdv A outer s H vs Q E gd (hr.deeper _) hsp
  have I : Inv (cxOf (CXm P w mg) P w K mg base N qual (defScope st) f cdv A outer s H E) [] (start N vs) H s1 := inv_start Sc hr.hd e0 (len _ _ _ _ hsp) r x
  refine ⟨(e0.mod.nolimit.keeps kp).keeps x.toInCall.keep, codeAny_func (wpAny_mono (ht.run [] s1 (start N vs) H _ I hq) (fun fl s' hs => ?_) fun e s' hs => hs)⟩
  cases fl with
  | ret u =>
    obtain ⟨v, σ', H', J, rv, q⟩ := hs
    exact ⟨v, H', J.os, J.bare, J.base, J.hok, rv, q⟩
  | next =>
    obtain ⟨σ', H', J, q⟩ := hs
    exact ⟨.non, H', J.os, J.bare, J.base, J.hok, rfl, q⟩
  | brk => exact hs.elim fun _ h => h.elim fun _ h => h.2.elim
  | cont => exact hs.elim fun _ h => h.elim fun _ h => h.2.elim
/-- a def without a bag -/
theorem fnR {nr : Bool} {x qual : Str} {st : Stmt} {f : Addr} {fd : FuncData} {N ps : List Str} {k n : Nat} {g : List D → R D} (F : Fun K x qual st f fd) (Sc : FnScope N ps (defScope st)) (hn : ps.length = n) (hN : n ≤ N.length)
    (hb : ∀ (cdv : Value) (A : Around) (outer : List Env) (s : Shared) (H Hf : Hp) (E : XK) (ds : List D), Cok (cxOf (CXm P w mg) P w K mg base N qual (defScope st) f cdv A outer s H E) (fxE [] nr H Hf E) k → ds.length = n →
      ∃ body : R (Fl Unit Empty), PSs (cxOf (CXm P w mg) P w K mg base N qual (defScope st) f cdv A outer s H E) (defBody st)
        (tS (cxOf (CXm P w mg) P w K mg base N qual (defScope st) f cdv A outer s H E).K (cxOf (CXm P w mg) P w K mg base N qual (defScope st) f cdv A outer s H E).mg (fxE [] nr H Hf E) (G0 N ds) (fun _ => unG N) Empty.elim body) ∧ g ds = runR nr body) :
    FnG P w K mg base (k + 1) f fd ps (spR K mg nr n g) := by
  refine fn_g F Sc (fun vs H Q E h => h.1.trans hn.symm) (fun cdv A outer s H vs Q E gd hr h => ?_)
  obtain ⟨hl, Hf, ds, sb, l, q⟩ := h
  have C : Cok (cxOf (CXm P w mg) P w K mg base N qual (defScope st) f cdv A outer s H E) (fxE [] nr H Hf E) k := ⟨rfl, fun _ => passes_of rfl, takes_of rfl rfl rfl rfl, hr, Sc.nd, gd⟩
  obtain ⟨body, hp, hg⟩ := hb cdv A outer s H Hf E ds C (l.len.trans hl)
  refine ⟨_, hp, Hf, ⟨0, 0, 0, [], false⟩, .init0 sb l (by omega), ?_⟩
  rw [hg] at q
  show R.wp body _ _ _
  cases body with
  | ok f =>
    cases f with
    | nx a =>
      cases nr with
      | true => exact (show False from q).elim
      | false => exact fun Hf' H' σ' _ st => q .non Hf' H' st.ste (rfl : V.non = V.non)
    | rt d => exact fun v Hf' H' st _ i => q v Hf' H' st i
    | bk b => exact b.elim
    | ct b => exact b.elim
  | ex e => exact fun cls dd σ' Hf' H' st x => q cls dd Hf' H' st.1 x
  | stuck => exact q
theorem fnM {nr : Bool} {x qual : Str} {st : Stmt} {f : Addr} {fd : FuncData} {N ps : List Str} {k n : Nat} {g : List D → M D} (F : Fun K x qual st f fd) (Sc : FnScope N ps (defScope st)) (hn : ps.length = n + 1) (hN : n + 1 ≤ N.length)
    (hb : ∀ (cdv : Value) (A : Around) (outer : List Env) (s : Shared) (H Hf : Hp) (bag : List Addr) (E : XK) (ds : List D), Cok (cxOf (CXm P w mg) P w K mg base N qual (defScope st) f cdv A outer s H E) (fxE bag nr H Hf E) k → ds.length = n →
      ∃ body : M (Fl Unit Empty), PSs (cxOf (CXm P w mg) P w K mg base N qual (defScope st) f cdv A outer s H E) (defBody st)
        (tS (cxOf (CXm P w mg) P w K mg base N qual (defScope st) f cdv A outer s H E).K (cxOf (CXm P w mg) P w K mg base N qual (defScope st) f cdv A outer s H E).mg (fxE bag nr H Hf E) (G1 N ds) (fun _ => unG N) Empty.elim body) ∧ g ds = runM nr body) :
    FnG P w K mg base (k + 1) f fd ps (spM K mg nr (n + 1) g) := by
  refine fn_g F Sc (fun vs H Q E h => h.1.trans hn.symm) (fun cdv A outer s H vs Q E gd hr h => ?_)
  obtain ⟨hl, bag, b, r, Hf, ds, vs', s0, eb, rfl, sb, hbb, bg, l, q⟩ := h
  have C : Cok (cxOf (CXm P w mg) P w K mg base N qual (defScope st) f cdv A outer s H E) (fxE bag nr H Hf E) k := ⟨rfl, fun _ => passes_of rfl, takes_of rfl rfl rfl rfl, hr, Sc.nd, gd⟩
  have hl' : vs'.length = n := by simpa using hl
  obtain ⟨body, hp, hg⟩ := hb cdv A outer s H Hf bag E ds C (l.len.trans hl')
  refine ⟨_, hp, Hf, s0, .init1 eb sb hbb bg l (by omega), ?_⟩
  rw [hg] at q
  show (body s0).wp _ _
  have e : runM nr body s0 = (match body s0 with
    | .ok (.nx _) s => if nr = true then .stuck else .ok .non s
    | .ok (.rt d) s => .ok d s
    | .ok (.bk b) _ => b.elim
    | .ok (.ct b) _ => b.elim
    | .ex e s => .ex e s
    | .stuck => .stuck) := rfl
  rw [e] at q
  cases z : body s0 with
  | ok f s1 =>
    rw [z] at q
    cases f with
    | nx a =>
      cases nr with
      | true => exact (show False from q).elim
      | false => exact fun Hf' H' σ' _ st => q .non Hf' H' st.ste st.bag (rfl : V.non = V.non)
    | rt d => exact fun v Hf' H' st bg i => q v Hf' H' st bg i
    | bk b => exact b.elim
    | ct b => exact b.elim
  | ex e s1 => rw [z] at q; exact fun cls dd σ' Hf' H' st x => q cls dd Hf' H' st.1 st.2 x
  | stuck => rw [z] at q; exact q
end
section
variable {X : Cx} {fx : Fx} {m : Type → Type} [Mo m] {G : List Sl} {es : List Expr} {pos : Pos} {ys : m (List D)} {kk j n : Nat} {g : List D → R D} {f : Addr} {fd : FuncData} {ps : List Str} {nm : Str} {p : Pos} {e : Expr}
/-- a call of a def without a bag -/
theorem fn_core {vs : List V} {ds : List D} {Hf : Hp} {s : S} {σ : L2.St} {H : Hp} {Q : VK} (hn : vs.length = n) (r : IsL X.K X.mg Hf ds vs) (h : tX X.K X.mg fx G (fun H d v => Is X.K X.mg H d v) (Mo.lift (g ds) : m D) Hf s σ H Q) : spR X.K X.mg false n g vs H Q (WE fx.W σ) := by
  have w := Mo.wp_lift h.2
  refine ⟨hn, Hf, ds, h.1.top, r, ?_⟩
  cases z : g ds with
  | ok d => rw [z] at w; exact fun v Hf' H' st i => w v Hf' H' st.wide (st.bag h.1.bag) i
  | ex e => rw [z] at w; exact fun cls dd Hf' H' st x => w cls dd Hf' H' (h.1.step st.wide (st.bag h.1.bag)) x
  | stuck => rw [z] at w; exact w
theorem de_fn (C : Cok X fx kk) (F : FnG X.prog X.w X.K X.mg X.base j f fd ps (spR X.K X.mg false n g)) (hm : X.mg nm = some (.ref f)) (hk : PySem.W.keepIn X.K (.ref f) = true) (hb : Binds X.K fd ps []) (ha : PA X (e :: es) (tA X.K X.mg fx G ys)) (hn : ∀ ds : List D, g ds ≠ .stuck → ds.length = n)
    (hj : j ≤ kk := by decide) (hg : Gl X nm := by rfl) (hdb : (nm == ("__debug__" : Str)) = false := by decide) (he : starEach (e :: es) X.env = (false, eval e X.env) :: starEach es X.env := by rfl) (hpl : (backTo pos (starEach es X.env)).any (·.1) = false := by rfl) :
    PE X (.Call (.Name nm p) (e :: es) [] pos) (tE X.K X.mg fx G (do let ds ← ys; Mo.lift (g ds))) := peI (pe_callG (E := WE fx.W) F C.gd (C.rm.mono hj) hg hm hk hb .nil (fun σ => passAt C.tk σ) ha hdb he hpl) fun σ H Q ⟨Hf, s, h⟩ =>
  (h.bind.mono fun vs H1 ⟨ds, Hf1, s1, sb, r, h1⟩ => by
    rw [List.append_nil]
    exact fn_core (by
    have w := Mo.wp_lift h1.2
    rw [← r.len]
    refine hn ds fun z => ?_
    rw [z] at w
    exact w) r h1).to
end
section
variable {X : Cx} {fx : Fx} {G : List Sl} {es : List Expr} {pos : Pos} {ys : M (List D)} {kk j n : Nat} {g : List D → M D} {f : Addr} {fd : FuncData} {ps : List Str} {nm bn : Str} {p bp : Pos}
/-- a call of a def with the bag -/
theorem de_fnM (C : Cok X fx kk) (i : Nat) (F : FnG X.prog X.w X.K X.mg X.base j f fd ps (spM X.K X.mg false (n + 1) g)) (hm : X.mg nm = some (.ref f)) (hk : PySem.W.keepIn X.K (.ref f) = true) (hb : Binds X.K fd ps []) (ha : PA X es (tA X.K X.mg fx G ys)) (hn : ∀ ds s, g ds s ≠ .stuck → ds.length = n)
    (hG : G[i]? = some .bg := by rfl) (hN : X.N[i]? = some bn := by rfl) (hv : Vis X.env.scope bn := by first | exact Or.inl rfl | exact Or.inr (Or.inl rfl) | exact Or.inr (Or.inr rfl))
    (hj : j ≤ kk := by decide) (hg : Gl X nm := by rfl) (hdb : (nm == ("__debug__" : Str)) = false := by decide) (he : starEach (.Name bn bp :: es) X.env = (false, eval (.Name bn bp) X.env) :: starEach es X.env := by rfl) (hpl : (backTo pos (starEach es X.env)).any (·.1) = false := by rfl)
    (hd : (bn == ("__debug__" : Str)) = false := by decide) (hcd : (bn == ("__classdict__" : Str)) = false := by decide) :
    PE X (.Call (.Name nm p) (.Name bn bp :: es) [] pos) (tE X.K X.mg fx G (do let ds ← ys; g ds)) :=
  peI (pe_callG (E := WE fx.W) F C.gd (C.rm.mono hj) hg hm hk hb .nil (fun σ => passAt C.tk σ) (pa_cons (pe_var hN hv hd hcd) ha he) hdb he hpl) fun σ H Q ⟨Hf, s, h⟩ => by
    obtain ⟨b, r, eb, ev⟩ := h.1.sl i _ hG
    refine ⟨.ref b, ev, (h.bind.mono fun vs H1 ⟨ds, Hf1, s1, sb, rl, h1⟩ => ?_).to⟩
    show spM X.K X.mg false (n + 1) g ((.ref b :: vs) ++ []) H1 Q (WE fx.W σ)
    rw [List.append_nil]
    have w : (g ds s1).wp _ _ := h1.2
    have hlen : ds.length = n := hn ds s1 fun z => by rw [z] at w; exact w
    refine ⟨by rw [List.length_cons, ← rl.len, hlen], fx.bag, b, r, Hf1, ds, vs, s1, eb, rfl, h1.1.top, h1.1.bagf, h1.1.bag, rl, ?_⟩
    cases z : g ds s1 with
    | ok d s' => rw [z] at w; exact fun v Hf' H' st bg i => w v Hf' H' st bg i
    | ex e s' => rw [z] at w; exact fun cls dd Hf' H' st bg x => w cls dd Hf' H' (h1.1.step st bg) x
    | stuck => rw [z] at w; exact w
end
end DL
namespace DL
open PySem L2
/-! ### plain data -/
mutual
def toPy : D → Option PyData
  | .non => some .none
  | .bl b => some (.bool b)
  | .int i => some (.int i)
  | .str s => some (.str ⟨s.toArray⟩)
  | .tup ds => (toPyL ds).map .tuple
  | .lst ds => (toPyL ds).map .list
  | _ => none
def toPyL : List D → Option (List PyData)
  | [] => some []
  | d :: ds => do
    let x ← toPy d
    let xs ← toPyL ds
    return x :: xs
end
section
variable {K : PySem.W.Frag} {mg : Str → Option Value}
mutual
theorem Is.dp {H : Hp} : ∀ {d : D} {v : V} {p : PyData}, Is K mg H d v → toPy d = some p → Dp K H v p
  | .non, _, _, h, e => by cases e; cases h; exact .non
  | .bl b, _, _, h, e => by cases e; cases h; exact .bl b
  | .int i, _, _, h, e => by cases e; cases h; exact .int i
  | .str s, _, _, h, e => by cases e; cases h.1; exact .str _
  | .tup ds, _, _, h, e => by
    obtain ⟨_, a, vs, rfl, t, l⟩ := h
    unfold toPy at e
    cases q : toPyL ds with
    | none => rw [q] at e; cases e
    | some ps => rw [q] at e; cases e; exact .tup t (IsL.dp l q)
  | .lst ds, _, _, h, e => by
    obtain ⟨_, a, vs, rfl, t, l⟩ := h
    unfold toPy at e
    cases q : toPyL ds with
    | none => rw [q] at e; cases e
    | some ps => rw [q] at e; cases e; exact .lst (.inl (.inl t)) (IsL.dp l q)
  | .dic _ _, _, _, h, e => by unfold toPy at e; cases e
  | .ins _ _ _, _, _, h, e => by unfold toPy at e; cases e
  | .scr _, _, _, h, e => by unfold toPy at e; cases e
  | .xc _ _ _ _, _, _, h, e => by unfold toPy at e; cases e
theorem IsL.dp {H : Hp} : ∀ {ds : List D} {vs : List V} {ps : List PyData}, IsL K mg H ds vs → toPyL ds = some ps → DpAll K H vs ps
  | [], _, _, h, e => by cases h; unfold toPyL at e; cases e; exact .nil
  | d :: ds, _, _, h, e => by
    obtain ⟨v, r, rfl, i, l⟩ := h
    unfold toPyL at e
    cases q : toPy d with
    | none => rw [q] at e; cases e
    | some x =>
      cases q2 : toPyL ds with
      | none => rw [q, q2] at e; cases e
      | some xs => rw [q, q2] at e; cases e; exact .cons (Is.dp i q) (IsL.dp l q2)
end
end
/-- == of plain data -/
def eqS (a b : D) : Option Bool := match toPy a, toPy b with
  | some x, some y => if SeqAt.shaped x && SeqAt.shaped y then some (PyData.eqv x y) else none
  | _, _ => none
def eqP : D → D → Option Bool
  | .str x, .str y => some (decide (x = y))
  | .int x, .int y => some (decide (x = y))
  | .bl x, .bl y => some (decide (x = y))
  | .non, .non => some true
  | a, b => eqS a b
def eqD (a b : D) : Option D := (eqP a b).map .bl
def neD (a b : D) : Option D := (eqP a b).map fun x => .bl (!x)
def addD : D → D → Option D
  | .int i, .int j => some (.int (i + j))
  | .str a, .str b => if a.length + b.length ≤ sizeLine then some (.str (a ++ b)) else none
  | .lst a, .lst b => if a.length + b.length ≤ sizeLine then some (.lst (a ++ b)) else none
  | .tup a, .tup b => if a.length + b.length ≤ sizeLine then some (.tup (a ++ b)) else none
  | _, _ => none
def subD : D → D → Option D
  | .int i, .int j => some (.int (i - j))
  | _, _ => none
def mulD : D → D → Option D
  | .int i, .int j => if i.natAbs.log2 + j.natAbs.log2 < 1000000 then some (.int (i * j)) else none
  | .str a, .int k => if 0 ≤ k ∧ k < 1000000 ∧ a.length * k.toNat ≤ 1000000 then some (.str (List.replicate k.toNat a).flatten) else none
  | .lst a, .int k => if 0 ≤ k ∧ k < 1000000 ∧ a.length * k.toNat ≤ 1000000 then some (.lst (List.replicate k.toNat a).flatten) else none
  | _, _ => none
def fdivD : D → D → Option D
  | .int i, .int j => if 0 < j ∧ j.natAbs.log2 < 9000 then some (.int (i / j)) else none
  | _, _ => none
def modD : D → D → Option D
  | .int i, .int j => if 0 < j then some (.int (i % j)) else none
  | _, _ => none
/-- < of data that are alike -/
def ltP (a b : D) : Option Bool := match toPy a, toPy b with
  | some x, some y => if PySem.W.alike x y && decide (x.depth ≤ 60) && (isNonP x == false) then some (PySem.W.dataLt x y) else none
  | _, _ => none
where isNonP : PyData → Bool
  | .none => true
  | _ => false
def ltD : D → D → Option D
  | .int i, .int j => some (.bl (decide (i < j)))
  | .str a, .str b => some (.bl (decide (a < b)))
  | a, b => (ltP a b).map .bl
def leD : D → D → Option D
  | .int i, .int j => some (.bl (decide (i ≤ j)))
  | a, b => (leP a b).map .bl
where leP (a b : D) : Option Bool := match toPy a, toPy b with
  | some x, some y => if PySem.W.alike x y && decide (x.depth ≤ 60) && (ltP.isNonP x == false) then some (!PySem.W.dataLt y x) else none
  | _, _ => none
def gtD : D → D → Option D
  | .int i, .int j => some (.bl (decide (j < i)))
  | a, b => (gtP a b).map .bl
where gtP (a b : D) : Option Bool := match toPy a, toPy b with
  | some x, some y => if PySem.W.alike x y && decide (x.depth ≤ 60) && (ltP.isNonP x == false) then some (PySem.W.dataLt y x) else none
  | _, _ => none
def geD : D → D → Option D
  | .int i, .int j => some (.bl (decide (j ≤ i)))
  | a, b => (geP a b).map .bl
where geP (a b : D) : Option Bool := match toPy a, toPy b with
  | some x, some y => if PySem.W.alike x y && decide (x.depth ≤ 60) && (ltP.isNonP x == false) then some (!PySem.W.dataLt x y) else none
  | _, _ => none
def isNone : D → Option Bool
  | .non => some true
  | .bl _ => some false
  | .int _ => some false
  | .str _ => some false
  | .tup _ => some false
  | .lst _ => some false
  | .dic _ _ => some false
  | .ins _ _ _ => some false
  | .scr _ => some false
  | .xc _ _ _ _ => some false
/-- is: of None, of truth values -/
def isD : D → D → Option D
  | a, .non => (isNone a).map .bl
  | .bl a, .bl b => some (.bl (decide (a = b)))
  | _, _ => none
/-- x in y -/
def inP : D → D → Option Bool
  | .str [c], .str z => some (decide (c ∈ z))
  | d, .lst ds => match toPy d, toPy (.lst ds) with
    | some x, some (.list ys) => if SeqAt.shaped x && SeqAt.shaped (.list ys) then some (ys.any fun z => PyData.eqv z x) else none
    | _, _ => none
  | d, .tup ds => match toPy d, toPy (.tup ds) with
    | some x, some (.tuple ys) => if SeqAt.shaped x && SeqAt.shaped (.tuple ys) then some (ys.any fun z => PyData.eqv z x) else none
    | _, _ => none
  | _, _ => none
def inD (a b : D) : Option D := (inP a b).map .bl
def notInD (a b : D) : Option D := (inP a b).map fun x => .bl (!x)
section
variable {X : Cx}
theorem str_tl (s : List Nat) : (⟨s.toArray⟩ : Str).cps.toList = s := by simp
theorem str_len (s : List Nat) : (⟨s.toArray⟩ : Str).length = s.length := by
  show s.toArray.size = s.length
  simp
theorem str_app (a b : List Nat) : (⟨a.toArray⟩ ++ ⟨b.toArray⟩ : Str) = ⟨(a ++ b).toArray⟩ := by
  show (⟨a.toArray ++ b.toArray⟩ : Str) = _
  simp
theorem dec_str {a b : List Nat} : decide (V.str ⟨a.toArray⟩ = V.str ⟨b.toArray⟩) = decide (a = b) := by
  by_cases h : a = b
  · subst h; simp
  · rw [decide_eq_false h, decide_eq_false]
    intro z
    apply h
    have z1 : (⟨a.toArray⟩ : Str) = ⟨b.toArray⟩ := V.str.inj z
    have z2 : a.toArray = b.toArray := Str.mk.inj z1
    simpa using z2
theorem eq_core (hu : X.A.units + 64 < cLine) {pins : List (Addr × Obj)} {s : Shared} {σ : L2.St} {H : Hp} {x y : V} {v u : Value} (I : Inv X pins σ H s) (rx : RelV x v) (ry : RelV y u) {Hf : Hp} {dx dy : D} {b : Bool} (sb : Sub Hf H) (ix : Is X.K X.mg Hf dx x) (iy : Is X.K X.mg Hf dy y) (e : eqP dx dy = some b) :
    (∀ Q : VK, Q (.bl b) H → wpAny (model X.prog X.w) X.A (compareOp .Eq v u) (EP X pins σ Q) X.xe s) ∧ (∀ Q : VK, Q (.bl (!b)) H → wpAny (model X.prog X.w) X.A (compareOp .NotEq v u) (EP X pins σ Q) X.xe s) := by
  unfold eqP at e
  split at e
  · obtain ⟨rfl, _⟩ := ix
    obtain ⟨rfl, _⟩ := iy
    cases e
    exact ⟨fun Q q => op_eq pins s σ H _ _ v u Q I rx ry ⟨rfl, by rw [dec_str]; exact q⟩, fun Q q => op_ne pins s σ H _ _ v u Q I rx ry ⟨rfl, by rw [dec_str]; exact q⟩⟩
  · cases ix; cases iy; cases e
    refine ⟨fun Q q => op_eq pins s σ H _ _ v u Q I rx ry ⟨rfl, ?_⟩, fun Q q => op_ne pins s σ H _ _ v u Q I rx ry ⟨rfl, ?_⟩⟩ <;> simpa using q
  · cases ix; cases iy; cases e
    refine ⟨fun Q q => op_eq pins s σ H _ _ v u Q I rx ry ⟨rfl, ?_⟩, fun Q q => op_ne pins s σ H _ _ v u Q I rx ry ⟨rfl, ?_⟩⟩ <;> simpa using q
  · cases ix; cases iy; cases e
    exact ⟨fun Q q => op_eq pins s σ H _ _ v u Q I rx ry ⟨rfl, by simpa using q⟩, fun Q q => op_ne pins s σ H _ _ v u Q I rx ry ⟨rfl, by simpa using q⟩⟩
  · unfold eqS at e
    cases e1 : toPy dx with
    | none => rw [e1] at e; cases e
    | some p1 =>
      cases e2 : toPy dy with
      | none => rw [e1, e2] at e; cases e
      | some p2 =>
        rw [e1, e2] at e
        by_cases c : (SeqAt.shaped p1 && SeqAt.shaped p2) = true
        · simp only [c, if_true, Option.some.injEq] at e
          subst e
          rw [Bool.and_eq_true] at c
          exact ⟨fun Q q => op_eqD hu pins s σ H x y v u Q I rx ry ⟨p1, p2, (ix.mono sb).dp e1, (iy.mono sb).dp e2, c.1, c.2, q⟩, fun Q q => op_neD hu pins s σ H x y v u Q I rx ry ⟨p1, p2, (ix.mono sb).dp e1, (iy.mono sb).dp e2, c.1, c.2, q⟩⟩
        · simp only [c, if_false] at e
          cases e
theorem od_eq (hu : X.A.units + 64 < cLine) : OpR X (compareOp .Eq) (rD2 X.K X.mg eqD) := by
  intro pins s σ H x y v u Q I rx ry h
  obtain ⟨Hf, dx, dy, d, sb, ix, iy, e, q⟩ := h
  unfold eqD at e
  cases e1 : eqP dx dy with
  | none => rw [e1] at e; cases e
  | some b => rw [e1] at e; cases e; exact (eq_core hu I rx ry sb ix iy e1).1 Q (q _ Hf H (.refl sb) (by cases b <;> rw [Is]))
theorem od_ne (hu : X.A.units + 64 < cLine) : OpR X (compareOp .NotEq) (rD2 X.K X.mg neD) := by
  intro pins s σ H x y v u Q I rx ry h
  obtain ⟨Hf, dx, dy, d, sb, ix, iy, e, q⟩ := h
  unfold neD at e
  cases e1 : eqP dx dy with
  | none => rw [e1] at e; cases e
  | some b => rw [e1] at e; cases e; exact (eq_core hu I rx ry sb ix iy e1).2 Q (q _ Hf H (.refl sb) (by cases b <;> rw [Is]))
theorem od_add : OpR X (binaryOp .Add) (rD2 X.K X.mg addD) := by
  intro pins s σ H x y v u Q I rx ry h
  obtain ⟨Hf, dx, dy, d, sb, ix, iy, e, q⟩ := h
  unfold addD at e
  split at e
  · cases e; cases ix; cases iy
    exact op_add pins s σ H _ _ v u Q I rx ry ⟨_, _, rfl, rfl, q _ Hf H (.refl sb) (by rw [Is])⟩
  · split at e
    · rename_i a b hz
      cases e; cases ix.1; cases iy.1
      exact op_add_str pins s σ H _ _ v u Q I rx ry ⟨_, _, rfl, rfl, by rw [str_len, str_len]; exact hz, q _ Hf H (.refl sb) (by rw [Is, str_app]; exact ⟨rfl, by rw [List.length_append]; exact hz⟩)⟩
    · cases e
  · split at e
    · rename_i a b hz
      cases e
      obtain ⟨z1, p1, v1, rfl, h1, l1⟩ := ix
      obtain ⟨z2, p2, v2, rfl, h2, l2⟩ := iy
      refine op_cat pins s σ H _ _ v u Q I rx ry ⟨_, _, _, _, rfl, rfl, sb _ _ h1, sb _ _ h2, by rw [← l1.len, ← l2.len]; exact hz, fun p hp => q _ _ _ (.new sb hp) ?_⟩
      exact ⟨by rw [List.length_append]; exact hz, p, _, rfl, upd_same, (l1.app l2).mono (Ste.new (bag := []) sb hp).sub⟩
    · cases e
  · split at e
    · rename_i a b hz
      cases e
      obtain ⟨z1, p1, v1, rfl, h1, l1⟩ := ix
      obtain ⟨z2, p2, v2, rfl, h2, l2⟩ := iy
      refine op_catA pins s σ H _ _ v u Q I rx ry ⟨_, _, _, _, rfl, rfl, sb.sqt h1, sb.sqt h2, by rw [← l1.len, ← l2.len]; exact hz, fun z => ?_, fun z3 z4 => ?_, fun _ _ p hp => q _ _ _ (.new sb hp) ?_⟩
      · subst z
        have := l1.len
        have ea : a = [] := List.eq_nil_of_length_eq_zero (by simpa using this)
        subst ea
        exact q _ _ _ (.refl sb) ⟨z2, p2, v2, rfl, h2, l2⟩
      · subst z4
        have := l2.len
        have eb : b = [] := List.eq_nil_of_length_eq_zero (by simpa using this)
        subst eb
        rw [List.append_nil] at q
        exact q _ _ _ (.refl sb) ⟨z1, p1, v1, rfl, h1, l1⟩
      · exact ⟨by rw [List.length_append]; exact hz, p, _, rfl, .inl (.inl upd_same), (l1.app l2).mono (Ste.new (bag := []) sb hp).sub⟩
    · cases e
  · cases e
theorem od_sub : OpR X (binaryOp .Sub) (rD2 X.K X.mg subD) := by
  intro pins s σ H x y v u Q I rx ry h
  obtain ⟨Hf, dx, dy, d, sb, ix, iy, e, q⟩ := h
  unfold subD at e
  split at e
  · cases e; cases ix; cases iy
    exact op_sub pins s σ H _ _ v u Q I rx ry ⟨_, _, rfl, rfl, q _ Hf H (.refl sb) (by rw [Is])⟩
  · cases e
theorem od_fdiv : OpR X (binaryOp .FloorDiv) (rD2 X.K X.mg fdivD) := by
  intro pins s σ H x y v u Q I rx ry h
  obtain ⟨Hf, dx, dy, d, sb, ix, iy, e, q⟩ := h
  unfold fdivD at e
  split at e
  · split at e
    · rename_i hz
      cases e; cases ix; cases iy
      exact op_fdivW pins s σ H _ _ v u Q I rx ry ⟨_, _, rfl, rfl, hz, q _ Hf H (.refl sb) (by rw [Is])⟩
    · cases e
  · cases e
theorem od_mod : OpR X (binaryOp .Mod) (rD2 X.K X.mg modD) := by
  intro pins s σ H x y v u Q I rx ry h
  obtain ⟨Hf, dx, dy, d, sb, ix, iy, e, q⟩ := h
  unfold modD at e
  split at e
  · split at e
    · rename_i hz
      cases e; cases ix; cases iy
      exact op_mod pins s σ H _ _ v u Q I rx ry ⟨_, _, rfl, rfl, hz, q _ Hf H (.refl sb) (by rw [Is])⟩
    · cases e
  · cases e
theorem od_lt (hu : X.A.units + 64 < cLine) : OpR X (compareOp .Lt) (rD2 X.K X.mg ltD) := by
  intro pins s σ H x y v u Q I rx ry h
  obtain ⟨Hf, dx, dy, d, sb, ix, iy, e, q⟩ := h
  unfold ltD at e
  split at e
  · cases e; cases ix; cases iy
    exact op_lt pins s σ H _ _ v u Q I rx ry ⟨_, _, rfl, rfl, q _ Hf H (.refl sb) (by rw [Is])⟩
  · cases e; cases ix.1; cases iy.1
    refine op_lt_str pins s σ H _ _ v u Q I rx ry ⟨_, _, rfl, rfl, ?_⟩
    rw [str_tl, str_tl]
    exact q _ Hf H (.refl sb) (by rw [Is])
  · cases e1 : ltP dx dy with
    | none => rw [e1] at e; cases e
    | some b =>
      rw [e1] at e; cases e
      unfold ltP at e1
      split at e1
      · rename_i p1 p2 f1 f2
        split at e1
        · rename_i hc
          cases e1
          simp only [Bool.and_eq_true, decide_eq_true_eq, beq_iff_eq] at hc
          obtain ⟨as, r1⟩ := Dp.reads I p1 x v ((ix.mono sb).dp f1) rx
          obtain ⟨bs, r2⟩ := Dp.reads I p2 y u ((iy.mono sb).dp f2) ry
          have hm : X.A.units + min p1.depth p2.depth < cLine := by
            have := Nat.min_le_left p1.depth p2.depth
            omega
          exact PySem.W.lt_data r1 r2 hc.1.1 (fun z => by rw [z] at hc; exact Bool.noConfusion hc.2) hm ⟨.bl _, H, I, rfl, q _ Hf H (.refl sb) (by cases (PySem.W.dataLt p1 p2) <;> cases (PySem.W.dataLt p2 p1) <;> rw [Is])⟩
        · cases e1
      · cases e1
theorem od_le (hu : X.A.units + 64 < cLine) : OpR X (compareOp .LtE) (rD2 X.K X.mg leD) := by
  intro pins s σ H x y v u Q I rx ry h
  obtain ⟨Hf, dx, dy, d, sb, ix, iy, e, q⟩ := h
  unfold leD at e
  split at e
  · cases e; cases ix; cases iy
    exact op_le pins s σ H _ _ v u Q I rx ry ⟨_, _, rfl, rfl, q _ Hf H (.refl sb) (by rw [Is])⟩
  · cases e1 : leD.leP dx dy with
    | none => rw [e1] at e; cases e
    | some b =>
      rw [e1] at e; cases e
      unfold leD.leP at e1
      split at e1
      · rename_i p1 p2 f1 f2
        split at e1
        · rename_i hc
          cases e1
          simp only [Bool.and_eq_true, decide_eq_true_eq, beq_iff_eq] at hc
          obtain ⟨as, r1⟩ := Dp.reads I p1 x v ((ix.mono sb).dp f1) rx
          obtain ⟨bs, r2⟩ := Dp.reads I p2 y u ((iy.mono sb).dp f2) ry
          have hm : X.A.units + min p1.depth p2.depth < cLine := by
            have := Nat.min_le_left p1.depth p2.depth
            omega
          exact PySem.W.le_data r1 r2 hc.1.1 (fun z => by rw [z] at hc; exact Bool.noConfusion hc.2) hm ⟨.bl _, H, I, rfl, q _ Hf H (.refl sb) (by cases (PySem.W.dataLt p1 p2) <;> cases (PySem.W.dataLt p2 p1) <;> rw [Is])⟩
        · cases e1
      · cases e1
theorem od_gt (hu : X.A.units + 64 < cLine) : OpR X (compareOp .Gt) (rD2 X.K X.mg gtD) := by
  intro pins s σ H x y v u Q I rx ry h
  obtain ⟨Hf, dx, dy, d, sb, ix, iy, e, q⟩ := h
  unfold gtD at e
  split at e
  · cases e; cases ix; cases iy
    exact op_gt pins s σ H _ _ v u Q I rx ry ⟨_, _, rfl, rfl, q _ Hf H (.refl sb) (by rw [Is])⟩
  · cases e1 : gtD.gtP dx dy with
    | none => rw [e1] at e; cases e
    | some b =>
      rw [e1] at e; cases e
      unfold gtD.gtP at e1
      split at e1
      · rename_i p1 p2 f1 f2
        split at e1
        · rename_i hc
          cases e1
          simp only [Bool.and_eq_true, decide_eq_true_eq, beq_iff_eq] at hc
          obtain ⟨as, r1⟩ := Dp.reads I p1 x v ((ix.mono sb).dp f1) rx
          obtain ⟨bs, r2⟩ := Dp.reads I p2 y u ((iy.mono sb).dp f2) ry
          have hm : X.A.units + min p1.depth p2.depth < cLine := by
            have := Nat.min_le_left p1.depth p2.depth
            omega
          exact PySem.W.gt_data r1 r2 hc.1.1 (fun z => by rw [z] at hc; exact Bool.noConfusion hc.2) hm ⟨.bl _, H, I, rfl, q _ Hf H (.refl sb) (by cases (PySem.W.dataLt p1 p2) <;> cases (PySem.W.dataLt p2 p1) <;> rw [Is])⟩
        · cases e1
      · cases e1
theorem od_ge (hu : X.A.units + 64 < cLine) : OpR X (compareOp .GtE) (rD2 X.K X.mg geD) := by
  intro pins s σ H x y v u Q I rx ry h
  obtain ⟨Hf, dx, dy, d, sb, ix, iy, e, q⟩ := h
  unfold geD at e
  split at e
  · cases e; cases ix; cases iy
    exact op_ge pins s σ H _ _ v u Q I rx ry ⟨_, _, rfl, rfl, q _ Hf H (.refl sb) (by rw [Is])⟩
  · cases e1 : geD.geP dx dy with
    | none => rw [e1] at e; cases e
    | some b =>
      rw [e1] at e; cases e
      unfold geD.geP at e1
      split at e1
      · rename_i p1 p2 f1 f2
        split at e1
        · rename_i hc
          cases e1
          simp only [Bool.and_eq_true, decide_eq_true_eq, beq_iff_eq] at hc
          obtain ⟨as, r1⟩ := Dp.reads I p1 x v ((ix.mono sb).dp f1) rx
          obtain ⟨bs, r2⟩ := Dp.reads I p2 y u ((iy.mono sb).dp f2) ry
          have hm : X.A.units + min p1.depth p2.depth < cLine := by
            have := Nat.min_le_left p1.depth p2.depth
            omega
          exact PySem.W.ge_data r1 r2 hc.1.1 (fun z => by rw [z] at hc; exact Bool.noConfusion hc.2) hm ⟨.bl _, H, I, rfl, q _ Hf H (.refl sb) (by cases (PySem.W.dataLt p1 p2) <;> cases (PySem.W.dataLt p2 p1) <;> rw [Is])⟩
        · cases e1
      · cases e1
end
end DL
namespace DL
open PySem L2
/-! ### a new list -/
section
variable (K : PySem.W.Frag) (mg : Str → Option Value) (fx : Fx)
def FrQ (Hf H : Hp) (Q : VK) : List D → S → Prop := fun ds s' => ∀ p vs Hf' H', Ste fx.bag Hf H Hf' H' → BagAt fx.bag H' s' → H' p = some (.lst vs) → Hf' p = none → H p = none → IsL K mg Hf' ds vs → ds.length ≤ sizeLine → Q (.ref p) H'
def tF (G : List Sl) {m : Type → Type} [Mo m] (x : m (List D)) : TE := fun σ H Q => ∃ Hf s, StS K mg fx Hf H σ G s ∧ Mo.wp x s (FrQ K mg fx Hf H Q) (EX K mg fx G σ)
end
def mkL {m : Type → Type} [Mo m] (x : m (List D)) : m D := do
  let ds ← x
  pure (.lst ds)
/-- not too long -/
def szL (ds : List D) : Option (List D) := if ds.length ≤ sizeLine then some ds else none
theorem Ste.upd {bag : List Addr} {Hf H Hf' H' : Hp} (e : Ste bag Hf H Hf' H') {p : Addr} {o : HO} (hp : H p = none) (hf : Hf' p = none) : Ste bag Hf H Hf' (L2.upd H' p o) := by
  refine ⟨e.sub, fun a u q => ?_, fun a u q n => ?_, fun a n => ?_, e.fresh⟩
  · have ne : a ≠ p := fun z => by rw [z, hf] at q; cases q
    rw [upd_ne ne]; exact e.top a u q
  · have ne : a ≠ p := fun z => by rw [z, hp] at q; cases q
    rw [upd_ne ne]; exact e.keep a u q n
  · by_cases c : a = p
    · rw [c, upd_same]; simp
    · rw [upd_ne c]; exact e.dom a n
section
variable {K : PySem.W.Frag} {mg : Str → Option Value} {fx : Fx} {Hf H : Hp} {σ : L2.St} {G : List Sl} {s : S}
theorem StS.other (st : StS K mg fx Hf H σ G s) {p : Addr} {o : HO} (hf : Hf p = none) (h0 : fx.H0 p = none) (nb : p ∉ fx.bag) (no : ∀ (j : Nat) (q : Addr), σ[j]? = some (some (.ref q)) → (∀ x, G[j]? = some x → isOw x = true → q ≠ p)) : StS K mg fx Hf (upd H p o) σ G s := by
  refine ⟨st.ste.upd h0 hf, st.bag.upd nb, fun b m => ⟨(st.bagg b m).1, ?_, (st.bagg b m).2.2⟩, st.len, fun j x ex => ?_, st.dis⟩
  · have ne : b ≠ p := fun z => st.owNb h0 nb (z ▸ m)
    rw [upd_ne ne]; exact (st.bagg b m).2.1
  · exact (st.sl j x ex).upd fun q o e => no j q e x ex o
end
section
variable {X : Cx} {fx : Fx} {m : Type → Type} [Mo m] {G : List Sl} {e : Expr}
theorem de_frz {x : m (List D)} (h : PE X e (tF X.K X.mg fx G x)) : PE X e (tE X.K X.mg fx G (mkL x)) := peI h fun σ H Q ⟨Hf, s, st, w⟩ =>
  ⟨Hf, s, st, Mo.wp_mono (Mo.wp_bind w) (fun ds s' k p vs Hf' H' e bg hp hf hn l hz => by
    have k' := Mo.wp_pure k
    have sb : Sub Hf' (upd Hf' p (.lst vs)) := fun a o q => by
      have ne : a ≠ p := fun z => by rw [z, hf] at q; cases q
      rw [upd_ne ne]; exact q
    refine k' (.ref p) (upd Hf' p (.lst vs)) H' ⟨e.sub.trans sb, fun a o q => ?_, e.keep, e.dom, fun a o q => ?_⟩ bg ⟨hz, p, vs, rfl, upd_same, l.mono sb⟩
    · by_cases c : a = p
      · subst c; rw [upd_same] at q; cases q; exact hp
      · rw [upd_ne c] at q; exact e.top a o q
    · by_cases c : a = p
      · subst c; exact .inr hn
      · rw [upd_ne c] at q; exact e.fresh a o q) fun e s' k => k⟩
/-- what a new list's rule wants -/
theorem frq_new {Hf H : Hp} {σ : L2.St} {s : S} {ds : List D} {vs : List V} {Q : VK} (st : StS X.K X.mg fx Hf H σ G s) {Hf0 H0 : Hp} (e : Ste fx.bag Hf0 H0 Hf H) (h : FrQ X.K X.mg fx Hf0 H0 Q ds s) (l : IsL X.K X.mg Hf ds vs) (hz : ds.length ≤ sizeLine) (p : Addr) (hp : H p = none) : Q (.ref p) (upd H p (.lst vs)) := by
  have hn : H0 p = none := by
    cases q : H0 p with
    | none => rfl
    | some o => exact absurd hp (e.dom p (by rw [q]; simp))
  obtain ⟨_, nb, hf⟩ := st.new0 hp
  exact h p vs Hf _ (e.upd hn hf) (st.bag.upd nb) upd_same hf hn l hz
/-- [a, b, ..] -/
theorem df_list {es : List Expr} {pos : Pos} {ys : m (List D)} (h : PA X es (tA X.K X.mg fx G ys)) : PE X (.List es pos) (tF X.K X.mg fx G (do let ds ← ys; ask (szL ds))) := peI (pe_lst h) fun σ H Q ⟨Hf, s, st, w⟩ =>
  ⟨Hf, s, st, Mo.wp_mono (Mo.wp_bind w) (fun ds s1 k vs Hf1 H1 e bg l => by
    have k' := Mo.wp_lift k
    by_cases hz : ds.length ≤ sizeLine
    · have e1 : szL ds = some ds := if_pos hz
      rw [e1] at k'
      exact ⟨by rw [← l.len]; exact hz, fun p hp => frq_new (st.step e bg) e k' l hz p hp⟩
    · have e1 : szL ds = none := if_neg hz
      rw [e1] at k'
      exact k'.elim) fun e s' k => k⟩
/-- (a, b, ..) -/
theorem de_tup {es : List Expr} {pos : Pos} {x1 : Nat} {ys : m (List D)} (h : PA X es (tA X.K X.mg fx G ys)) : PE X (.Tuple es x1 pos) (tE X.K X.mg fx G (do let ds ← ys; let ds ← ask (szL ds); pure (.tup ds))) := peI (pe_tup h) fun σ H Q ⟨Hf, s, h⟩ =>
  (h.bind.mono fun vs H1 ⟨ds, Hf1, s1, sb, l, h1⟩ => by
    have k' := Mo.wp_lift (Mo.wp_bind h1.2)
    by_cases hz : ds.length ≤ sizeLine
    · have e1 : szL ds = some ds := if_pos hz
      rw [e1] at k'
      refine ⟨by rw [← l.len]; exact hz, fun p hp => (Mo.wp_pure k') _ _ _ (.new h1.1.top hp) (h1.1.bag.upd (h1.1.new0 hp).2.1) ?_⟩
      exact ⟨hz, p, vs, rfl, .inl (.inl upd_same), l.mono (Ste.new (bag := []) h1.1.top hp).sub⟩
    · have e1 : szL ds = none := if_neg hz
      rw [e1] at k'
      exact k'.elim).to
end
/-! ### truth, and, or, not -/
def truD : D → Option Bool
  | .non => some false
  | .bl b => some b
  | .int i => some (i != 0)
  | .str s => some (!s.isEmpty)
  | .tup ds => some (!ds.isEmpty)
  | .lst ds => some (!ds.isEmpty)
  | _ => none
theorem isEmpty_len {α β : Type} {a : List α} {b : List β} (h : a.length = b.length) : a.isEmpty = b.isEmpty := by
  cases a <;> cases b <;> simp at h ⊢
section
variable {K : PySem.W.Frag} {mg : Str → Option Value}
theorem is_bl {H : Hp} (b : Bool) : Is K mg H (.bl b) (.bl b) := by
  cases b <;> rw [Is]
theorem is_int {H : Hp} (b : Int) : Is K mg H (.int b) (.int b) := by rw [Is]
theorem tru_is {Hf H : Hp} (sb : Sub Hf H) {d : D} {v : V} {b : Bool} (i : Is K mg Hf d v) (e : truD d = some b) : TruV K v H b := by
  cases d with
  | non => cases i; cases e; exact rfl
  | bl c => cases i; cases e; exact rfl
  | int c => cases i; cases e; exact rfl
  | str c =>
    obtain ⟨rfl, hz⟩ := i
    cases e
    refine ⟨by rw [str_len]; exact hz, ?_⟩
    rw [str_len]
    cases c with
    | nil => rfl
    | cons x r =>
      show (!(x :: r).isEmpty) = ((((x :: r).length : Nat) : Int) != 0)
      simp
      omega
  | tup ds =>
    obtain ⟨_, a, vs, rfl, t, l⟩ := i
    cases e
    exact .inr (.inl ⟨vs, sb.sqt t, by rw [isEmpty_len l.len]⟩)
  | lst ds =>
    obtain ⟨_, a, vs, rfl, t, l⟩ := i
    cases e
    exact .inl ⟨vs, .inl (.inl (sb _ _ t)), by rw [isEmpty_len l.len]⟩
  | dic _ _ => cases e
  | ins _ _ _ => cases e
  | scr _ => cases e
  | xc _ _ _ _ => cases e
end
section
variable {X : Cx} {fx : Fx} {m : Type → Type} [Mo m] {G : List Sl} {a b c : Expr} {rest : List Expr} {pos : Pos} {x y : m D} {t u : m Bool}
def andM (t u : m Bool) : m Bool := do
  let b ← t
  if b = true then u else pure false
def orM (t u : m Bool) : m Bool := do
  let b ← t
  if b = true then pure true else u
def notM (t : m Bool) : m Bool := do
  let b ← t
  pure (!b)
def iteM {α : Type} (t : m Bool) (x y : m α) : m α := do
  let b ← t
  if b = true then x else y
def andV (x y : m D) : m D := do
  let d ← x
  let b ← ask (truD d)
  if b = true then y else pure d
def notV (x : m D) : m D := do
  let d ← x
  let b ← ask (truD d)
  pure (.bl (!b))
/-- a value's truth -/
theorem dt_tru (ha : PE X a (tE X.K X.mg fx G x)) (he : ∀ whole, isTrue a X.env whole = (do let v ← whole; standAt a.pos; holding [v] (truthy v)) := by intro _; rfl) :
    PT X a (tT X.K X.mg fx G (do let d ← x; ask (truD d))) := ptI (pt_truth ha he) fun σ H Q ⟨Hf, s, h⟩ =>
  (h.bind.mono fun v H1 ⟨d, Hf1, s1, sb, r, h1⟩ => by
    obtain ⟨k, e, q⟩ := h1.ask
    exact ⟨k, tru_is h1.1.top r e, q k Hf1 H1 (.refl h1.1.top) rfl⟩).to
theorem dw_and1 (ha : PT X a (tT X.K X.mg fx G t)) : PW X (.BoolOp .And [a] pos) (tT X.K X.mg fx G t) := pw_and1 ha
theorem dw_or1 (ha : PT X a (tT X.K X.mg fx G t)) : PW X (.BoolOp .Or [a] pos) (tT X.K X.mg fx G t) := pw_or1 ha
theorem dw_and (ha : PT X a (tT X.K X.mg fx G t)) (hb : PW X (.BoolOp .And (b :: rest) pos) (tT X.K X.mg fx G u)) : PW X (.BoolOp .And (a :: b :: rest) pos) (tT X.K X.mg fx G (andM t u)) := pwI (pw_and ha hb) fun σ H Q ⟨Hf, s, h⟩ =>
  (h.bind.mono fun v H1 ⟨d, Hf1, s1, sb, r, h1⟩ => by
    subst r
    cases v with
    | true => exact h1.to
    | false => exact h1.pure rfl).to
theorem dw_or (ha : PT X a (tT X.K X.mg fx G t)) (hb : PW X (.BoolOp .Or (b :: rest) pos) (tT X.K X.mg fx G u)) : PW X (.BoolOp .Or (a :: b :: rest) pos) (tT X.K X.mg fx G (orM t u)) := pwI (pw_or ha hb) fun σ H Q ⟨Hf, s, h⟩ =>
  (h.bind.mono fun v H1 ⟨d, Hf1, s1, sb, r, h1⟩ => by
    subst r
    cases v with
    | true => exact h1.pure rfl
    | false => exact h1.to).to
theorem dt_not (ha : PT X a (tT X.K X.mg fx G t)) : PT X (.UnaryOp .Not a pos) (tT X.K X.mg fx G (notM t)) := ptI (pt_not ha) fun σ H Q ⟨Hf, s, h⟩ =>
  (h.bind.mono fun v H1 ⟨d, Hf1, s1, sb, r, h1⟩ => by
    subst r
    exact h1.pure rfl).to
theorem de_not (ha : PE X a (tE X.K X.mg fx G x)) : PE X (.UnaryOp .Not a pos) (tE X.K X.mg fx G (notV x)) := peI (pe_notT ha) fun σ H Q ⟨Hf, s, h⟩ =>
  (h.bind.mono fun v H1 ⟨d, Hf1, s1, sb, r, h1⟩ => by
    have h2 := h1.bind (rl := fun _ a b => b = a) (β := Bool)
    have k := Mo.wp_lift (Mo.wp_bind h1.2)
    cases e : truD d with
    | none => rw [e] at k; exact k.elim
    | some b =>
      rw [e] at k
      exact ⟨b, tru_is h1.1.top r e, (Mo.wp_pure k) _ Hf1 H1 (.refl h1.1.top) h1.1.bag (is_bl _)⟩).to
theorem de_and (ha : PE X a (tE X.K X.mg fx G x)) (hb : PE X (.BoolOp .And (b :: rest) pos) (tE X.K X.mg fx G y)) : PE X (.BoolOp .And (a :: b :: rest) pos) (tE X.K X.mg fx G (andV x y)) := peI (pe_andT ha hb) fun σ H Q ⟨Hf, s, h⟩ =>
  (h.bind.mono fun v H1 ⟨d, Hf1, s1, sb, r, h1⟩ => by
    have k := Mo.wp_lift (Mo.wp_bind h1.2)
    cases e : truD d with
    | none => rw [e] at k; exact k.elim
    | some b =>
      rw [e] at k
      refine ⟨b, tru_is h1.1.top r e, ?_⟩
      cases b with
      | true => exact ⟨Hf1, s1, h1.1, k⟩
      | false => exact (Mo.wp_pure k) _ Hf1 H1 (.refl h1.1.top) h1.1.bag r).to
theorem de_one {op : BoolOp} (ha : PE X a (tE X.K X.mg fx G x)) : PE X (.BoolOp op [a] pos) (tE X.K X.mg fx G x) := pe_one ha
theorem de_ifExp (hc : PT X c (tT X.K X.mg fx G t)) (ha : PE X a (tE X.K X.mg fx G x)) (hb : PE X b (tE X.K X.mg fx G y)) : PE X (.IfExp c a b pos) (tE X.K X.mg fx G (iteM t x y)) := peI (pe_ifExp hc ha hb) fun σ H Q ⟨Hf, s, h⟩ =>
  (h.bind.mono fun v H1 ⟨d, Hf1, s1, sb, r, h1⟩ => by
    subst r
    cases v with
    | true => exact h1.to
    | false => exact h1.to).to
/-- a < b < c -/
def chainM (f g : D → D → Option D) (x y z : m D) : m D := do
  let u ← x
  let v ← y
  let p ← ask ((f u v).bind bOf)
  if p = true then do
    let w ← z
    ask (g v w)
  else pure (.bl false)
theorem chain_read {op op' : CmpOp} {f g : D → D → Option D} {z : m D} {σ : L2.St} {H : Hp} {Q : VK} (h : tE X.K X.mg fx G (chainM f g x y z) σ H Q) :
    tChain (rD2 X.K X.mg f) (rD2 X.K X.mg g) (tE X.K X.mg fx G x) (tE X.K X.mg fx G y) (tE X.K X.mg fx G z) σ H Q := by
  obtain ⟨Hf, s, h⟩ := h
  refine (h.bind.mono fun v1 H1 ⟨d1, Hf1, s1, sb1, r1, h1⟩ => (h1.bind.mono fun v2 H2 ⟨d2, Hf2, s2, sb2, r2, h2⟩ => ?_).to).to
  have k := Mo.wp_lift (Mo.wp_bind h2.2)
  cases e : f d1 d2 with
  | none => rw [e] at k; exact k.elim
  | some d =>
    cases d with
    | bl p =>
      rw [e] at k
      have k' : Mo.wp (if p = true then (do let w ← z; ask (g d2 w)) else pure (.bl false) : m D) s2 _ _ := k
      refine ⟨Hf2, d1, d2, .bl p, h2.1.top, r1.mono sb2, r2, e, fun u Hf3 H3 e3 i3 => ⟨p, i3, ?_⟩⟩
      have st3 := h2.1.step e3.wide (e3.bag h2.1.bag)
      cases p with
      | true =>
        have h3 : tX X.K X.mg fx G (fun H d v => Is X.K X.mg H d v) (do let w ← z; ask (g d2 w) : m D) Hf3 s2 σ H3 Q :=
          ⟨st3, Mo.wp_mono k' (fun a s' q b Hf' H' e bg i => q b Hf' H' (e3.wide.trans e) bg i) fun e s' q => q⟩
        show tE X.K X.mg fx G z σ H3 _
        exact (h3.bind.mono fun v4 H4 ⟨d4, Hf4, s4, sb4, r4, h4⟩ => by
          obtain ⟨d, e, q⟩ := h4.ask
          exact ⟨Hf4, d2, d4, d, h4.1.top, (r2.mono e3.sub).mono sb4, r4, e, q⟩).to
      | false => exact (Mo.wp_pure k') _ Hf3 H3 e3.wide (e3.bag h2.1.bag) (is_bl _)
    | _ => rw [e] at k; exact k.elim
theorem test_read {x : m D} {Hf : Hp} {s : S} {σ : L2.St} {H : Hp} {Q : Bool → Hp → Prop} (h : tX X.K X.mg fx G (fun _ a b => b = a) (do let d ← x; ask (bOf d)) Hf s σ H Q) : tE X.K X.mg fx G x σ H fun v H' => ∃ k, v = .bl k ∧ Q k H' :=
  (h.bind.mono fun v H1 ⟨d, Hf1, s1, sb, r, h1⟩ => by
    obtain ⟨k, e, q⟩ := h1.ask
    cases d with
    | bl b =>
      cases e
      exact ⟨_, r, q _ Hf1 H1 (.refl h1.1.top) rfl⟩
    | _ => cases e).to
theorem dt_chain {op op' : CmpOp} {f g : D → D → Option D} {z : m D} (ho : OpR X (compareOp op) (rD2 X.K X.mg f)) (ho' : OpR X (compareOp op') (rD2 X.K X.mg g)) (ha : PE X a (tE X.K X.mg fx G x)) (hb : PE X b (tE X.K X.mg fx G y)) (hc : PE X c (tE X.K X.mg fx G z))
    (hm : lastMarks [op, op'] [b, c] = false := by with_unfolding_all rfl) : PT X (.Compare a [op, op'] [b, c] pos) (tT X.K X.mg fx G (do let d ← chainM f g x y z; ask (bOf d))) := ptI (pt_chain ho ho' ha hb hc hm) fun σ H Q ⟨Hf, s, h⟩ => chain_read (op := op) (op' := op') (test_read h)
end
end DL
namespace DL
open PySem L2
/-! ### what is walked -/
section
variable {X : Cx} {tg l : Expr} {tl : TE}
theorem piI {it : Expr} {t t' : TI} (h : PI X tg it t) (w : ∀ σ H Q, t' σ H Q → t σ H Q) : PI X tg it t' := ⟨fun pins s σ H Q I q => h.run pins s σ H Q I (w _ _ _ q)⟩
end
def sqOf : D → Option (List D)
  | .lst ds => some ds
  | .tup ds => some ds
  | _ => none
def intOf : D → Option Int
  | .int i => some i
  | _ => none
def rangeL (lo : Int) (n : Nat) : List D := (List.range n).map fun (k : Nat) => .int (lo + (k : Int))
def enumL (ds : List D) : List D := ds.mapIdx fun i d => .tup [.int (i : Int), d]
section
variable {K : PySem.W.Frag} {mg : Str → Option Value}
theorem yl_list {Hf : Hp} {ds : List D} {a : Addr} {vs : List V} (hz : ds.length ≤ sizeLine) (h : Hf a = some (.lst vs)) (l : IsL K mg Hf ds vs) : Yl K mg (Itl K a) Hf ds := ⟨hz, fun Hf2 H s1 s2 i => by
  have hq : SqL K H a vs := .inl (.inl (s2 _ _ (s1 _ _ h)))
  refine ⟨fun d hd => ?_, fun hl => ⟨vs, hq, by rw [← l.len]; exact hl⟩⟩
  obtain ⟨v, hv, iv⟩ := l.get hd
  exact ⟨⟨vs, v, hq, hv⟩, fun x H' ⟨e, f⟩ => by
    subst e
    have := f vs hq
    rw [hv] at this
    cases this
    exact ⟨Hf2, .refl s2, iv.mono s1⟩⟩⟩
theorem yl_tup {Hf : Hp} {ds : List D} {a : Addr} {vs : List V} (hz : ds.length ≤ sizeLine) (h : SqT K Hf a vs) (l : IsL K mg Hf ds vs) : Yl K mg (Itt K a) Hf ds := ⟨hz, fun Hf2 H s1 s2 i => by
  have hq : SqT K H a vs := s2.sqt (s1.sqt h)
  refine ⟨fun d hd => ?_, fun hl => ⟨vs, hq, by rw [← l.len]; exact hl⟩⟩
  obtain ⟨v, hv, iv⟩ := l.get hd
  exact ⟨⟨vs, v, hq, hv⟩, fun x H' ⟨e, f⟩ => by
    subst e
    have := f vs hq
    rw [hv] at this
    cases this
    exact ⟨Hf2, .refl s2, iv.mono s1⟩⟩⟩
theorem yl_range (lo : Int) (n : Nat) {Hf : Hp} (hz : n ≤ sizeLine) : Yl K mg (Itr lo n) Hf (rangeL lo n) := ⟨by simpa [rangeL] using hz, fun Hf2 H s1 s2 i => by
  refine ⟨fun d hd => ?_, fun hl => ?_⟩
  rotate_left
  · have z : n ≤ i := by simpa [rangeL] using hl
    exact z
  have hi : i < n := by
    have := (List.getElem?_eq_some_iff.mp hd).1
    simpa [rangeL] using this
  have e : d = .int (lo + (i : Int)) := by
    unfold rangeL at hd
    rw [List.getElem?_map, List.getElem?_range hi] at hd
    cases hd
    rfl
  subst e
  exact ⟨hi, fun x H' ⟨e1, e2⟩ => by
    subst e1 e2
    exact ⟨Hf2, .refl s2, is_int _⟩⟩⟩
theorem yl_str (s : List Nat) {Hf : Hp} (hz : s.length ≤ sizeLine) : Yl K mg (Its ⟨s.toArray⟩) Hf (s.map fun c => .str [c]) := ⟨by simpa using hz, fun Hf2 H s1 s2 i => by
  refine ⟨fun d hd => ?_, fun hl => ?_⟩
  · have hi : i < s.length := by
      have := (List.getElem?_eq_some_iff.mp hd).1
      simpa using this
    rw [List.getElem?_map, List.getElem?_eq_getElem hi] at hd
    cases hd
    refine ⟨?_, fun x H' ⟨e1, c, e2, e3⟩ => ?_⟩
    · show i < s.toArray.size
      simpa using hi
    · subst e1 e3
      refine ⟨Hf2, .refl s2, ?_⟩
      have e2' : s.toArray[i]? = some c := e2
      rw [List.getElem?_toArray, List.getElem?_eq_getElem hi] at e2'
      cases e2'
      exact ⟨rfl, by show 1 ≤ sizeLine; decide⟩
  · show s.toArray.size ≤ i
    simpa using hl⟩
end
section
variable {X : Cx} {fx : Fx} {m : Type → Type} [Mo m] {G : List Sl} {tg l a b : Expr} {x y : m D} {ys : m (List D)} {pos : Pos} {kk : Nat}
def strOf : D → Option (List Nat)
  | .str s => some s
  | _ => none
def chrs (s : List Nat) : List D := s.map fun c => .str [c]
def rng1 : List D → Option (List D)
  | [.int j] => if -(2 ^ 62) ≤ j ∧ j ≤ 1000000 then some (rangeL 0 j.toNat) else none
  | _ => none
theorem di_range1 {p : Pos} (hg : Gl X "range") (hm : X.mg "range" = none) (ha : PA X [a] (tA X.K X.mg fx G ys)) (hs : starEach [a] X.env = [(false, eval a X.env)] := by rfl) :
    PI X tg (.Call (.Name "range" p) [a] [] pos) (tI X.K X.mg fx G (do let ds ← ys; ask (rng1 ds))) := piI (pi_range1 hg hm ha hs) fun σ H Q ⟨Hf, s, h⟩ =>
  (h.bind.mono fun v H1 ⟨d, Hf1, s1, sb, r, h1⟩ => by
    obtain ⟨ds, e, q⟩ := h1.ask
    unfold rng1 at e
    split at e
    · rename_i j
      split at e
      · rename_i hj
        cases e
        obtain ⟨v1, r1, rfl, rfl, rfl⟩ := r
        exact ⟨j, rfl, hj.1, Int.lt_of_le_of_lt hj.2 (by decide), q _ Hf1 H1 (.refl h1.1.top) (yl_range _ _ (by rw [sizeLine_eq]; omega))⟩
      · cases e
    · cases e).to
/-! ### targets -/
def un2 : D → Option (D × D)
  | .tup [a, b] => some (a, b)
  | _ => none
theorem pgd_tup2 (C : Cok X fx kk) (i j : Nat) {n1 n2 : Str} {p1 p2 : Pos} {k : Nat} (hi : X.N[i]? = some n1 := by rfl) (hx : Loc X.env.scope n1 := by first | exact Or.inl rfl | exact Or.inr rfl) (hf : X.fn n1 = true ∨ X.env.scope.names.lookup n1 = some .local := by first | exact .inl rfl | exact .inr rfl)
    (hi2 : X.N[j]? = some n2 := by rfl) (hx2 : Loc X.env.scope n2 := by first | exact Or.inl rfl | exact Or.inr rfl) (hf2 : X.fn n2 = true ∨ X.env.scope.names.lookup n2 = some .local := by first | exact .inl rfl | exact .inr rfl) :
    PGd X fx (.Tuple [.Name n1 p1, .Name n2 p2] k pos) (gTup X.K 2 (gCons (gName i) (gCons (gName j) gNil))) un2 (fun G d => (G.set i (.im d.1)).set j (.im d.2)) [i, j] :=
  ⟨pg_tup C.calm (pgs_cons (pg_name C.nd hi hx hf) (pgs_cons (pg_name C.nd hi2 hx2 hf2) pgs_nil)), fun {G Hf d v σ H s c Q} st r e q => by
    cases d with
    | tup ds =>
      obtain ⟨hz, a, vs, rfl, t, l⟩ := r
      unfold un2 at e
      split at e
      · rename_i d1 d2 eq
        cases eq
        cases e
        obtain ⟨v1, r1, rfl, i1, v2, r2, rfl, i2, rfl⟩ := l
        refine ⟨a, _, rfl, st.top.sqt t, rfl, v1, _, rfl, v2, _, rfl, rfl, q _ (fun k hk => ?_) (by simp) ((st.set i1).set i2)⟩
        rw [List.getElem?_set_ne (fun z => hk (by simp [z])), List.getElem?_set_ne (fun z => hk (by simp [z]))]
      · cases e
    | _ => cases e⟩
end
end DL
namespace DL
open PySem L2
/-! ### list comprehensions -/
section
variable {m : Type → Type} [Mo m] {γ : Type}
def lcF (u : D → Option γ) (xt : γ → m Bool) (xe : γ → m D) : List D → m (List D)
  | [] => pure []
  | d :: ds => do
    let c ← ask (u d)
    let b ← Mo.noex (xt c)
    if b = true then do
      let y ← Mo.noex (xe c)
      let r ← lcF u xt xe ds
      pure (y :: r)
    else lcF u xt xe ds
end
abbrev Fx.nox (fx : Fx) : Fx := { fx with W := fun _ _ _ _ => False, gx := none }
def wipeG (G : List Sl) : List Nat → List Sl
  | [] => G
  | v :: vs => (wipeG G vs).set v .un
theorem wipe_get {σ : L2.St} {i : Nat} : ∀ {vs : List Nat}, i ∉ vs → (wipe σ vs)[i]? = σ[i]?
  | [], _ => rfl
  | v :: vs, h => by
    unfold wipe
    rw [List.getElem?_set_ne (fun z => h (by simp [z])), wipe_get (fun z => h (List.mem_cons_of_mem _ z))]
theorem wipe_in {σ : L2.St} {i : Nat} : ∀ {vs : List Nat}, i ∈ vs → i < σ.length → (wipe σ vs)[i]? = some none
  | [], h, _ => by cases h
  | v :: vs, h, hl => by
    unfold wipe
    by_cases c : v = i
    · subst c
      rw [List.getElem?_set_self (by rw [wipe_length]; exact hl)]
    · rw [List.getElem?_set_ne c]
      rcases List.mem_cons.mp h with e | h'
      · exact absurd e.symm c
      · exact wipe_in h' hl
theorem wipeG_len {G : List Sl} : ∀ (vs : List Nat), (wipeG G vs).length = G.length
  | [] => rfl
  | v :: vs => by unfold wipeG; rw [List.length_set, wipeG_len vs]
theorem wipeG_get {G : List Sl} {i : Nat} : ∀ {vs : List Nat}, i ∉ vs → (wipeG G vs)[i]? = G[i]?
  | [], _ => rfl
  | v :: vs, h => by
    unfold wipeG
    rw [List.getElem?_set_ne (fun z => h (by simp [z])), wipeG_get (fun z => h (List.mem_cons_of_mem _ z))]
theorem wipeG_in {G : List Sl} {i : Nat} : ∀ {vs : List Nat} {x : Sl}, i ∈ vs → (wipeG G vs)[i]? = some x → x = .un
  | [], _, h, _ => by cases h
  | v :: vs, x, h, e => by
    unfold wipeG at e
    by_cases c : v = i
    · subst c
      have hl : v < (wipeG G vs).length := by
        have := (List.getElem?_eq_some_iff.mp e).1
        simpa using this
      rw [List.getElem?_set_self hl] at e
      cases e
      rfl
    · rw [List.getElem?_set_ne c] at e
      rcases List.mem_cons.mp h with e' | h'
      · exact absurd e'.symm c
      · exact wipeG_in h' e
theorem wipe_eq {σ σ2 : L2.St} {vs : List Nat} (hl : σ2.length = (wipe σ vs).length) (h : ∀ j, j ∉ vs → σ2[j]? = (wipe σ vs)[j]?) : wipe σ2 vs = wipe σ vs := by
  apply List.ext_getElem?
  intro i
  by_cases c : i ∈ vs
  · by_cases hi : i < σ.length
    · rw [wipe_in c hi, wipe_in c (by rw [hl, wipe_length]; exact hi)]
    · rw [List.getElem?_eq_none (by rw [wipe_length, hl, wipe_length]; omega), List.getElem?_eq_none (by rw [wipe_length]; omega)]
  · rw [wipe_get c, h i c]
section
variable {K : PySem.W.Frag} {mg : Str → Option Value} {fx : Fx} {Hf H : Hp} {σ : L2.St} {G : List Sl} {s : S}
theorem StS.wiped (st : StS K mg fx Hf H σ G s) (vs : List Nat) : StS K mg fx.nox Hf H (wipe σ vs) (wipeG G vs) s := by
  have get : ∀ {i : Nat} {x : Sl}, (wipeG G vs)[i]? = some x → x ≠ .un → G[i]? = some x ∧ (wipe σ vs)[i]? = σ[i]? := fun {i x} e n => by
    by_cases c : i ∈ vs
    · exact absurd (wipeG_in c e) n
    · rw [wipeG_get c] at e
      exact ⟨e, wipe_get c⟩
  refine ⟨st.ste, st.bag, st.bagg, by rw [wipe_length, wipeG_len]; exact st.len, fun i x e => ?_, fun i j x y p hij ex ey ox oy e1 e2 => ?_⟩
  · cases x with
    | un => trivial
    | im d =>
      obtain ⟨e', q⟩ := get e (by simp)
      rw [q]; exact st.sl i _ e'
    | bg =>
      obtain ⟨e', q⟩ := get e (by simp)
      rw [q]; exact st.sl i _ e'
    | ow ds =>
      obtain ⟨e', q⟩ := get e (by simp)
      rw [q]; exact st.sl i _ e'
    | od ks ds =>
      obtain ⟨e', q⟩ := get e (by simp)
      rw [q]; exact st.sl i _ e'
    | ob ns ds =>
      obtain ⟨e', q⟩ := get e (by simp)
      rw [q]; exact st.sl i _ e'
  · have nx : x ≠ .un := fun z => by subst z; cases ox
    have ny : y ≠ .un := fun z => by subst z; cases oy
    obtain ⟨ex', q1⟩ := get ex nx
    obtain ⟨ey', q2⟩ := get ey ny
    rw [q1] at e1
    rw [q2] at e2
    exact st.dis i j x y p hij ex' ey' ox oy e1 e2
theorem StS.nox (st : StS K mg fx Hf H σ G s) : StS K mg fx.nox Hf H σ G s := ⟨st.ste, st.bag, st.bagg, st.len, fun i x e => by
  have so := st.sl i x e
  cases x with
  | un => trivial
  | im d => exact so
  | ow ds => exact so
  | od ks ds => exact so
  | ob ns ds => exact so
  | bg => exact so, st.dis⟩
end
section
variable {X : Cx} {fx : Fx} {m : Type → Type} [Mo m] {G : List Sl} {γ : Type} {kk : Nat}
/-- the reading of a comprehension -/
theorem lc_read {xi : m (List D)} {u : D → Option γ} {xt : γ → m Bool} {xe : γ → m D} {g : TG} {st : List Sl → γ → List Sl} {is vs : List Nat} {tg : Expr} {K : PySem.W.Frag} {mg : Str → Option Value}
    (hg : ∀ {G : List Sl} {Hf : Hp} {d : D} {v : V} {σ : L2.St} {H : Hp} {s : S} {c : γ} {Q : L2.St → Hp → Prop}, StS K mg fx.nox Hf H σ G s → Is K mg Hf d v → u d = some c → (∀ σ', (∀ j, j ∉ is → σ'[j]? = σ[j]?) → σ'.length = σ.length → StS K mg fx.nox Hf H σ' (st G c) s → Q σ' H) → g v σ H Q)
    (hsub : ∀ i ∈ is, i ∈ vs) {σ : L2.St} {H : Hp} {Q : VK} (h : tF K mg fx G (do let ds ← xi; lcF u xt xe ds) σ H Q) :
    tLc (tI K mg fx G xi) g (fun σ H Q => ∃ c, tT K mg fx.nox (st (wipeG G vs) c) (xt c) σ H Q) (fun σ H Q => ∃ c, tE K mg fx.nox (st (wipeG G vs) c) (xe c) σ H Q) vs σ H Q := by
  obtain ⟨Hf0, s0, st0, w0⟩ := h
  refine ⟨Hf0, s0, st0, Mo.wp_mono (Mo.wp_bind w0) (fun ds s1 w1 J Hf1 H1 e1 bg1 yl Da hD => ?_) fun e s' k => k⟩
  have st1 := st0.step e1 bg1
  obtain ⟨nH0, nb, nf⟩ := st1.new0 hD
  have hn0 : H Da = none := by
    cases q : H Da with
    | none => rfl
    | some o => exact absurd hD (e1.dom Da (by rw [q]; simp))
  have no := st1.owNe hD
  refine ⟨fun i m H' => m = ds.length - i ∧ i ≤ ds.length ∧ ∃ Hf s acc accV, Sub Hf1 Hf ∧ StS K mg fx Hf H' σ G s ∧ Ste fx.bag Hf0 H Hf H' ∧ H' Da = some (.lst accV) ∧ IsL K mg Hf acc accV ∧ Hf Da = none ∧ acc.length ≤ i ∧
    Mo.wp (lcF u xt xe (ds.drop i)) s (fun r s' => FrQ K mg fx Hf0 H Q (acc ++ r) s') (EX K mg fx G σ), ⟨ds.length, by simp, Nat.zero_le _, Hf1, s1, [], [], .refl _, st1.other nf nH0 nb no, e1.upd hn0 nf, upd_same, .nil, nf, Nat.zero_le _, w1⟩, ?_⟩
  rintro i m H2 ⟨rfl, hi, Hf2, s2, acc, accV, sb2, st2, e2, hD2, l2, nf2, la, w2⟩
  obtain ⟨y1, y2⟩ := yl.2 Hf2 H2 sb2 st2.top i
  by_cases hlt : i < ds.length
  · obtain ⟨go, yd⟩ := y1 ds[i] (List.getElem?_eq_getElem hlt)
    rw [List.drop_eq_getElem_cons hlt] at w2
    have w4 := Mo.wp_lift (Mo.wp_bind w2)
    refine .inr ⟨go, fun H' => i + 1 ≤ ds.length ∧ ∃ Hf s acc accV, Sub Hf1 Hf ∧ StS K mg fx Hf H' σ G s ∧ Ste fx.bag Hf0 H Hf H' ∧ H' Da = some (.lst accV) ∧ IsL K mg Hf acc accV ∧ Hf Da = none ∧ acc.length ≤ i + 1 ∧
      Mo.wp (lcF u xt xe (ds.drop (i + 1))) s (fun r s' => FrQ K mg fx Hf0 H Q (acc ++ r) s') (EX K mg fx G σ), fun H' q => ⟨ds.length - (i + 1), by omega, rfl, q⟩, fun x H3 y => ?_⟩
    obtain ⟨Hf3, e3, is3⟩ := yd x H3 y
    cases q : u ds[i] with
    | none => rw [q] at w4; exact w4.elim
    | some c =>
      rw [q] at w4
      have st3 := st2.step e3.wide (e3.bag st2.bag)
      refine hg (st3.wiped vs) is3 q fun σ2 hs hl st4 => ⟨wipe_eq hl fun j hj => hs j fun z => hj (hsub j z), c, Hf3, s2, st4, ?_⟩
      refine Mo.wp_mono (Mo.wp_noex (Mo.wp_bind w4)) (fun b s5 w5 b' Hf5 H5 e5 bg5 eb => ?_) fun _ _ f => f.elim
      subst eb
      have st5 := st3.step (fx := fx) (Hf' := Hf5) (H' := H5) e5 bg5
      have hD5 : H5 Da = some (.lst accV) := e5.keep _ _ (e3.keep _ _ hD2 (by simp)) nb
      have nf5 : Hf5 Da = none := e5.stayNone (e3.stayNone nf2 (by rw [hD2]; simp)) (by rw [e3.keep _ _ hD2 (by simp)]; simp)
      have e25 : Ste fx.bag Hf2 H2 Hf5 H5 := (e3.wide).trans e5
      cases b' with
      | true =>
        refine ⟨c, Hf5, s5, st4.step e5 bg5, ?_⟩
        have w6 : Mo.wp (Mo.noex (xe c) >>= fun y => lcF u xt xe (ds.drop (i + 1)) >>= fun r => pure (y :: r)) s5 _ _ := w5
        refine Mo.wp_mono (Mo.wp_noex (Mo.wp_bind w6)) (fun y s6 w7 yv Hf6 H6 e6 bg6 is6 => ?_) fun _ _ f => f.elim
        have hD6 : H6 Da = some (.lst accV) := e6.keep _ _ hD5 nb
        have nf6 : Hf6 Da = none := e6.stayNone nf5 (by rw [hD5]; simp)
        have e26 := e25.trans e6
        have st6 := st5.step (fx := fx) (Hf' := Hf6) (H' := H6) e6 bg6
        refine ⟨accV, hD6, ?_, hlt, Hf6, s6, acc ++ [y], accV ++ [yv], sb2.trans e26.sub, st6.other nf6 nH0 nb no, (e2.trans e26).upd hn0 nf6, upd_same, (l2.mono e26.sub).app (.cons is6 .nil), nf6, ?_, ?_⟩
        · rw [← l2.len]
          exact Nat.lt_of_lt_of_le (Nat.lt_of_le_of_lt la hlt) yl.1
        · rw [List.length_append, List.length_singleton]
          omega
        · refine Mo.wp_mono (Mo.wp_bind w7) (fun r s8 w8 => ?_) fun e s' k => k
          have w9 := Mo.wp_pure w8
          rw [List.append_assoc, List.singleton_append]
          exact w9
      | false => exact ⟨hlt, Hf5, s5, acc, accV, sb2.trans e25.sub, st5, e2.trans e25, hD5, l2.mono e25.sub, nf5, Nat.le_succ_of_le la, w5⟩
  · have e : i = ds.length := by omega
    subst e
    refine .inl ⟨y2 (Nat.le_refl _), ?_⟩
    rw [List.drop_length] at w2
    have w3 := Mo.wp_pure w2
    rw [List.append_nil] at w3
    exact w3 Da accV Hf2 H2 e2 st2.bag hD2 nf2 hn0 l2 (Nat.le_trans la yl.1)
end
end DL
namespace DL
open PySem L2
theorem Cok.blk {X : Cx} {fx : Fx} {kk : Nat} (C : Cok X fx kk) (s : Shared) (H : Hp) (scope : Scope) (cenv : Env) (fp : List Addr) : Cok (X.blk s H scope cenv fp) fx.nox kk :=
  ⟨C.calm, fun _ => PassesOwn.never, ⟨fun _ _ ⟨_, _, _, _, _, _, _, _, _, _, _, _, _, _, _, _, w⟩ => w.1.elim, fun _ _ ⟨_, _, _, _, _, _, _, _, _, _, _, _, _, _, _, _, w⟩ => w.elim⟩, C.rm, C.nd, C.gd⟩
theorem pts_true {X : Cx} {fx : Fx} {m : Type → Type} [Mo m] {G : List Sl} : PTs X [] (tT X.K X.mg fx G (pure true : m Bool)) := ⟨fun pins s σ H Q I ⟨Hf, s', h⟩ => pts_nil.run pins s σ H Q I (h.pure rfl)⟩
theorem pts_test {X : Cx} {fx : Fx} {m : Type → Type} [Mo m] {G : List Sl} {c : Expr} {t : m Bool} (h : PT X c (tT X.K X.mg fx G t)) : PTs X [c] (tT X.K X.mg fx G t) := pts_one h
theorem pts_ex {X : Cx} {ι : Type} {ifs : List Expr} {t : ι → TT} (h : ∀ i, PTs X ifs (t i)) : PTs X ifs (fun σ H Q => ∃ i, t i σ H Q) := ⟨fun pins s σ H Q I ⟨i, q⟩ => (h i).run pins s σ H Q I q⟩
theorem pe_ex {X : Cx} {ι : Type} {e : Expr} {t : ι → TE} (h : ∀ i, PE X e (t i)) : PE X e (fun σ H Q => ∃ i, t i σ H Q) := ⟨fun pins s σ H Q I ⟨i, q⟩ => (h i).run pins s σ H Q I q⟩
section
variable {X : Cx} {fx : Fx} {m : Type → Type} [Mo m] {G : List Sl} {γ α β : Type} {kk : Nat} {elt tg iter : Expr} {ifs : List Expr} {scope : Scope} {pos : Pos} {xi : m (List D)} {u : D → Option γ} {xt : γ → m Bool} {xe : γ → m D} {g : TG} {st : List Sl → γ → List Sl} {is : List Nat}
/-- [elt for tg in iter if ..] -/
theorem df_lc (own : List (Str × Nat)) (C : Cok X fx kk) (hi : PI X tg iter (tI X.K X.mg fx G xi)) (ok : BlkOk X.N X.env.scope scope own)
    (hg : ∀ (s : Shared) (H : Hp) (A : Addr) (cl : List (Str × Addr)) (fp : List Addr), PGd (X.blk s H scope (compEnvC scope cl A X.env) fp) fx.nox tg g u st is)
    (ht : ∀ (s : Shared) (H : Hp) (A : Addr) (cl : List (Str × Addr)) (fp : List Addr), Cok (X.blk s H scope (compEnvC scope cl A X.env) fp) fx.nox kk → ∀ c, PTs (X.blk s H scope (compEnvC scope cl A X.env) fp) ifs (tT X.K X.mg fx.nox (st (wipeG G (own.map (·.2))) c) (xt c)))
    (he : ∀ (s : Shared) (H : Hp) (A : Addr) (cl : List (Str × Addr)) (fp : List Addr), Cok (X.blk s H scope (compEnvC scope cl A X.env) fp) fx.nox kk → ∀ c, PE (X.blk s H scope (compEnvC scope cl A X.env) fp) elt (tE X.K X.mg fx.nox (st (wipeG G (own.map (·.2))) c) (xe c)))
    (hsub : ∀ i ∈ is, i ∈ own.map (·.2)) (hs : ∀ x, foldedSetIterable iter X.env x = pure x := by intro _; rfl) :
    PE X (.ListComp elt [⟨tg, iter, ifs, 0⟩] scope pos) (tF X.K X.mg fx G (do let ds ← xi; lcF u xt xe ds)) :=
  peI (pe_lc (own := own) C.calm C.nd hi ok (fun s H A cl fp => (hg s H A cl fp).1) (fun s H A cl fp => pts_ex (ht s H A cl fp (C.blk ..))) (fun s H A cl fp => pe_ex (he s H A cl fp (C.blk ..))) hs) fun σ H Q h =>
    lc_read (tg := tg) (fun {G Hf d v σ H s c Q} => (hg {} (fun _ => none) 0 [] []).2) hsub h
/-- x = a new list, the frame's own -/
theorem dss_asgOw {e : Expr} {rest : List Stmt} {ex : α → List Sl} {exb : β → List Sl} {x : m (List D)} {k : List D → m (Fl α β)} (C : Cok X fx kk) {n : Str} {pos' : Pos} (i : Nat) (he : PE X e (tF X.K X.mg fx G x)) (hr : ∀ ds, PSs X rest (tS X.K X.mg fx (G.set i (.ow ds)) ex exb (k ds))) (hi : X.N[i]? = some n := by rfl) (hx : Loc X.env.scope n := by first | exact Or.inl rfl | exact Or.inr rfl)
    (hs : swapsWith e (some (.Name n pos')) pos.line X.env = pure false := by rfl) (hf : X.fn n = true ∨ X.env.scope.names.lookup n = some .local := by first | exact .inl rfl | exact .inr rfl) (hg : GxOk fx G := by first | exact True.intro | repeat' (first | exact True.intro | exact Or.inl rfl | exact Or.inr rfl | refine And.intro ?_ ?_)) :
    PSs X (.Assign [.Name n pos'] e pos :: rest) (tS X.K X.mg fx G ex exb (do let ds ← x; k ds)) := pssI (pss_cons (ps_set C.nd hi hx he hs hf) (pss_ex hr)) fun D σ H ⟨Hf, s, h⟩ =>
  ⟨Hf, s, h.1, Mo.wp_mono (Mo.wp_bind h.2) (fun ds s1 w p vs Hf1 H1 e bg hp hf1 hn l hz => by
    have st1 := h.1.step e bg
    have n0 : fx.H0 p = none ∧ p ∉ fx.bag := ⟨(h.1.new0 hn).1, (h.1.new0 hn).2.1⟩
    exact ⟨ds, Hf1, s1, st1.setOw (h.1.owNe hn) hp hf1 n0.1 n0.2 l hz, Mo.wp_mono w (fun f s2 h2 => h2.up e.sub) fun e s' k => k⟩) fun e s' k => exs_ex hg k⟩
/-- the own list of slot i is a datum from here on -/
theorem dss_frz {rest : List Stmt} {ex : α → List Sl} {exb : β → List Sl} {ds : List D} {x : m (Fl α β)} (i : Nat) (hG : G[i]? = some (.ow ds)) (hr : PSs X rest (tS X.K X.mg fx (G.set i (.im (.lst ds))) ex exb x)) : PSs X rest (tS X.K X.mg fx G ex exb x) := pssI hr fun D σ H ⟨Hf, s, h⟩ => by
  obtain ⟨Hf', sb, st⟩ := h.1.freeze hG
  exact ⟨Hf', s, st, Mo.wp_mono h.2 (fun f s2 h2 => h2.up sb) fun e s' k => k⟩
def apd (ds : List D) (d : D) : Option (List D) := if ds.length < sizeLine then some (ds ++ [d]) else none
/-- x.append(e), x the frame's own -/
theorem dss_append {e : Expr} {rest : List Stmt} {ex : α → List Sl} {exb : β → List Sl} {x : m D} {ds : List D} {k : List D → m (Fl α β)} {n : Str} {np apos cpos : Pos} (i : Nat) (he : PE X e (tE X.K X.mg fx G x)) (hr : ∀ ds, PSs X rest (tS X.K X.mg fx (G.set i (.ow ds)) ex exb (k ds)))
    (hG : G[i]? = some (.ow ds) := by rfl) (hN : X.N[i]? = some n := by rfl) (hv : Vis X.env.scope n := by first | exact Or.inl rfl | exact Or.inr (Or.inl rfl) | exact Or.inr (Or.inr rfl)) (hd : (n == ("__debug__" : Str)) = false := by decide) (hcd : (n == ("__classdict__" : Str)) = false := by decide)
    (hst : starEach [e] X.env = [(false, eval e X.env)] := by rfl) (hbase : attributeBase (.Name n np) "append" X.env (eval (.Name n np) X.env) = eval (.Name n np) X.env := by rfl)
    (hfew : ((backTo cpos (starEach [e] X.env)).all (fun x => !x.1) && (backToKw cpos (keywordEach [] X.env)).all (fun x => x.1.isSome) && decide ([e].length + ([] : List Keyword).length + (if ([] : List Keyword).isEmpty then 0 else 1) < 30)) = true := by rfl)
    (hline : (apos.endLine == cpos.line) = true := by rfl) (hplain : (backTo cpos (starEach [] X.env)).any (·.1) = false := by rfl)
    (hs : swapsWith (.Call (.Attribute (.Name n np) "append" apos) [e] [] cpos) none pos.line X.env = pure false := by rfl) (hg : GxOk fx G := by first | exact True.intro | repeat' (first | exact True.intro | exact Or.inl rfl | exact Or.inr rfl | refine And.intro ?_ ?_)) :
    PSs X (.Expr (.Call (.Attribute (.Name n np) "append" apos) [e] [] cpos) pos :: rest) (tS X.K X.mg fx G ex exb (do let d ← x; let ds ← ask (apd ds d); k ds)) :=
  pssI (pss_cons (ps_expr (pe_bm PySem.F.plainAttrs_list PySem.F.slot_list_append PySem.F.type_list_append mt_append (pe_var hN hv hd hcd) (pa_cons he pa_nil hst) hbase hfew hline hst hplain) hs) (pss_ex hr)) fun D σ H ⟨Hf, s, h⟩ => by
    obtain ⟨p, vs, ep, hp, hf, h0, nb, l, hz⟩ := h.1.sl i _ hG
    refine ⟨.ref p, ep, .inl ⟨rfl, _, .inl (.inl hp)⟩, ?_⟩
    refine ((h.bind hg).mono fun v H1 ⟨d, Hf1, s1, sb, r, h1⟩ => ?_).to
    obtain ⟨p1, vs1, ep1, hp1, hf1, _, _, l1, hz1⟩ := h1.1.sl i _ hG
    have eq : p1 = p := by rw [ep] at ep1; cases ep1; rfl
    subst eq
    have k' := Mo.wp_lift (Mo.wp_bind h1.2)
    by_cases c : ds.length < sizeLine
    · have e1 : apd ds d = some (ds ++ [d]) := if_pos c
      rw [e1] at k'
      refine ⟨p1, vs1, v, rfl, rfl, hp1, by rw [← l1.len]; exact c, ds ++ [d], Hf1, s1, h1.1.updOw hG ep (l1.app (.cons r .nil)) (by rw [List.length_append, List.length_singleton]; exact c), k'⟩
    · have e1 : apd ds d = none := if_neg c
      rw [e1] at k'
      exact k'.elim
end
end DL
namespace DL
open PySem L2
/-! ### items and slices -/
theorem IsL.atI {K : PySem.W.Frag} {mg : Str → Option Value} {H : Hp} {ds : List D} {vs : List V} {i : Int} {d : D} (l : IsL K mg H ds vs) (e : L2.atI ds i = some d) : ∃ v, L2.atI vs i = some v ∧ Is K mg H d v := by
  unfold L2.atI at e ⊢
  rw [← l.len]
  cases q : ixN ds.length i with
  | none => rw [q] at e; cases e
  | some j =>
    rw [q] at e
    exact l.get e
def ixD : D → D → Option D
  | .lst ds, .int i => L2.atI ds i
  | .tup ds, .int i => L2.atI ds i
  | .str s, .int i => (L2.atI s i).map fun c => .str [c]
  | .scr is, .int i => (L2.atI is i).map .int
  | _, _ => none
def cutL {α : Type} (xs : List α) (lo hi : Option Int) : List α := (xs.drop (HT.sIx xs.length 0 lo)).take (HT.sIx xs.length xs.length hi - HT.sIx xs.length 0 lo)
theorem cutL_len {α : Type} (xs : List α) (lo hi : Option Int) : (cutL xs lo hi).length ≤ xs.length := by
  unfold cutL
  rw [List.length_take, List.length_drop]
  omega
def sliceD : D → Option Int → Option Int → Option D
  | .lst ds, lo, hi => some (.lst (cutL ds lo hi))
  | .tup ds, lo, hi => some (.tup (cutL ds lo hi))
  | .str s, lo, hi => some (.str (cutL s lo hi))
  | .scr is, lo, hi => some (.lst ((cutL is lo hi).map .int))
  | _, _, _ => none
section
variable {X : Cx}
theorem oix : IxR X (rD2 X.K X.mg ixD) := by
  intro value slice pins s σ H x y v u Q I rx ry h hs
  obtain ⟨Hf, dx, dy, d, sb, ix, iy, e, q⟩ := h
  unfold ixD at e
  split at e
  · obtain ⟨z1, p1, v1, rfl, h1, l1⟩ := ix
    cases iy
    obtain ⟨w, hw, iw⟩ := l1.atI e
    exact ix_list value slice pins s σ H _ _ v u Q I rx ry ⟨_, _, _, _, rfl, rfl, .inl (.inl (sb _ _ h1)), hw, q _ Hf H (.refl sb) iw⟩ hs
  · obtain ⟨z1, p1, v1, rfl, h1, l1⟩ := ix
    cases iy
    obtain ⟨w, hw, iw⟩ := l1.atI e
    exact ix_tup value slice pins s σ H _ _ v u Q I rx ry ⟨_, _, _, _, rfl, rfl, sb.sqt h1, hw, q _ Hf H (.refl sb) iw⟩ hs
  · rename_i z i
    obtain ⟨rfl, hz⟩ := ix
    cases iy
    cases e1 : L2.atI z i with
    | none => rw [e1] at e; cases e
    | some c =>
      rw [e1] at e
      cases e
      exact ix_str value slice pins s σ H _ _ v u Q I rx ry ⟨_, _, c, rfl, rfl, by rw [str_len]; exact hz, by rw [str_tl]; exact e1, q _ Hf H (.refl sb) ⟨rfl, by show 1 ≤ sizeLine; decide⟩⟩ hs
  · rename_i z i
    obtain ⟨z1, p1, rfl, h1⟩ := ix
    cases iy
    cases e1 : L2.atI z i with
    | none => rw [e1] at e; cases e
    | some c =>
      rw [e1] at e
      cases e
      refine ix_list value slice pins s σ H _ _ v u Q I rx ry ⟨_, _, _, _, rfl, rfl, sb.sql h1.sq, ?_, q _ Hf H (.refl sb) (is_int _)⟩ hs
      unfold L2.atI at e1 ⊢
      rw [List.length_map]
      cases q2 : ixN z.length i with
      | none => rw [q2] at e1; cases e1
      | some j =>
        rw [q2] at e1
        have e1' : z[j]? = some c := e1
        show (z.map V.int)[j]? = _
        rw [List.getElem?_map, e1']
        rfl
  · cases e
theorem isL_ints {K : PySem.W.Frag} {mg : Str → Option Value} {H : Hp} : ∀ z : List Int, IsL K mg H (z.map .int) (z.map V.int)
  | [] => rfl
  | c :: z => ⟨_, _, rfl, is_int _, isL_ints z⟩
theorem osl : SlR X (fun x lo hi H Q => ∃ Hf dx d, Sub Hf H ∧ Is X.K X.mg Hf dx x ∧ sliceD dx lo hi = some d ∧ ∀ u Hf' H', Ste [] Hf H Hf' H' → Is X.K X.mg Hf' d u → Q u H') := by
  intro pins s σ H x v vl vu lo hi sl Q I rx hs pl pu h
  obtain ⟨Hf, dx, d, sb, ix, e, q⟩ := h
  unfold sliceD at e
  split at e
  · cases e
    obtain ⟨z1, p1, v1, rfl, h1, l1⟩ := ix
    refine sl_list pins s σ H _ v vl vu lo hi sl Q I rx hs pl pu ⟨_, _, rfl, .inl (.inl (sb _ _ h1)), fun p hp => q _ _ _ (.new sb hp) ?_⟩
    refine ⟨Nat.le_trans (cutL_len _ _ _) z1, p, _, rfl, upd_same, ?_⟩
    have l2 := l1.mono (Ste.new (bag := []) (o := .lst (cutV v1 lo hi)) sb hp).sub
    unfold cutL cutV
    rw [l1.len]
    exact (l2.drop _).take _
  · cases e
    obtain ⟨z1, p1, v1, rfl, h1, l1⟩ := ix
    refine sl_tupA pins s σ H _ v vl vu lo hi sl Q I rx hs pl pu ⟨_, _, rfl, sb.sqt h1, fun z => ?_, fun z p hp => q _ _ _ (.new sb hp) ?_⟩
    · refine q _ _ _ (.refl sb) ⟨Nat.le_trans (cutL_len _ _ _) z1, p1, v1, rfl, h1, ?_⟩
      unfold cutL
      rw [l1.len, z.1, z.2, List.drop_zero, Nat.sub_zero, ← l1.len, List.take_length]
      exact l1
    · refine ⟨Nat.le_trans (cutL_len _ _ _) z1, p, _, rfl, .inl (.inl upd_same), ?_⟩
      have l2 := l1.mono (Ste.new (bag := []) (o := .tup (cutV v1 lo hi)) sb hp).sub
      unfold cutL cutV
      rw [l1.len]
      exact (l2.drop _).take _
  · cases e
    obtain ⟨rfl, hz⟩ := ix
    refine sl_str pins s σ H _ v vl vu lo hi sl Q I rx hs pl pu ⟨_, rfl, by rw [str_len]; exact hz, q _ Hf H (.refl sb) ?_⟩
    refine ⟨?_, Nat.le_trans (cutL_len _ _ _) hz⟩
    unfold cutS cutL
    rw [str_tl, str_len]
  · cases e
    obtain ⟨z1, p1, rfl, h1⟩ := ix
    refine sl_list pins s σ H _ v vl vu lo hi sl Q I rx hs pl pu ⟨_, _, rfl, sb.sql h1.sq, fun p hp => q _ _ _ (.new sb hp) ?_⟩
    refine ⟨by rw [List.length_map]; exact Nat.le_trans (cutL_len _ _ _) z1, p, _, rfl, upd_same, ?_⟩
    have e2 : ∀ (z : List Int) (lo hi : Option Int), cutV (z.map V.int) lo hi = (cutL z lo hi).map V.int := fun z lo hi => by
      unfold cutL cutV
      rw [List.length_map, List.map_take, List.map_drop]
    rw [e2]
    exact isL_ints _
  · cases e
end
section
variable {X : Cx} {fx : Fx} {m : Type → Type} [Mo m] {G : List Sl} {a b e : Expr} {lo hi : Option Expr} {pos p2 : Pos} {x y : m D} {tl th : m (Option Int)}
theorem de_ix (ha : PE X a (tE X.K X.mg fx G x)) (hb : PE X b (tE X.K X.mg fx G y)) (hs : PlainIx b := by exact fun _ _ => rfl) : PE X (.Subscript a b pos) (tE X.K X.mg fx G (do let u ← x; let v ← y; ask (ixD u v))) := peI (pe_ix oix ha hb hs) fun σ H Q ⟨Hf, s, h⟩ =>
  (h.bind.mono fun v1 H1 ⟨d1, Hf1, s1, sb1, r1, h1⟩ => (h1.bind.mono fun v2 H2 ⟨d2, Hf2, s2, sb2, r2, h2⟩ => by
    obtain ⟨d, e, q⟩ := h2.ask
    exact ⟨Hf2, d1, d2, d, h2.1.top, r1.mono sb2, r2, e, q⟩).to).to
theorem poI {o : Option Expr} {t t' : TO} (h : PO X o t) (w : ∀ σ H Q, t' σ H Q → t σ H Q) : PO X o t' := ⟨fun pins s σ H Q I q => h.run pins s σ H Q I (w _ _ _ q)⟩
abbrev tOp' (K : PySem.W.Frag) (mg : Str → Option Value) (fx : Fx) (G : List Sl) (x : m (Option Int)) : TO := tG K mg fx G (fun _ a b => b = a) x
theorem do_none : PO X none (tOp' X.K X.mg fx G (pure none : m (Option Int))) := poI po_none fun σ H Q ⟨Hf, s, h⟩ => h.pure rfl
theorem do_some (he : PE X e (tE X.K X.mg fx G x)) : PO X (some e) (tOp' X.K X.mg fx G (do let d ← x; let i ← ask (intOf d); pure (some i))) := poI (po_some he) fun σ H Q ⟨Hf, s, h⟩ =>
  (h.bind.mono fun v1 H1 ⟨d1, Hf1, s1, sb1, r1, h1⟩ => by
    have k := Mo.wp_lift (Mo.wp_bind h1.2)
    cases d1 with
    | int i => exact ⟨i, r1, (Mo.wp_pure k) _ Hf1 H1 (.refl h1.1.top) h1.1.bag rfl⟩
    | _ => exact k.elim).to
theorem de_sl (he : PE X e (tE X.K X.mg fx G x)) (hl : PO X lo (tOp' X.K X.mg fx G tl)) (hu : PO X hi (tOp' X.K X.mg fx G th)) : PE X (.Subscript e (.Slice lo hi none p2) pos) (tE X.K X.mg fx G (do let d ← x; let l ← tl; let u ← th; ask (sliceD d l u))) :=
  peI (pe_slice osl he hl hu) fun σ H Q ⟨Hf, s, h⟩ =>
  (h.bind.mono fun v1 H1 ⟨d1, Hf1, s1, sb1, r1, h1⟩ => (h1.bind.mono fun v2 H2 ⟨d2, Hf2, s2, sb2, r2, h2⟩ => (h2.bind.mono fun v3 H3 ⟨d3, Hf3, s3, sb3, r3, h3⟩ => by
    subst r2 r3
    obtain ⟨d, e, q⟩ := h3.ask
    exact ⟨Hf3, d1, d, h3.1.top, (r1.mono sb2).mono sb3, e, q⟩).to).to).to
end
/-! ### built-in functions -/
def lenD : List D → Option D
  | [.lst ds] => some (.int ds.length)
  | [.tup ds] => some (.int ds.length)
  | [.str s] => some (.int s.length)
  | [.scr s] => some (.int s.length)
  | _ => none
def listD : List D → Option (List D)
  | [.lst ds] => some ds
  | [.tup ds] => some ds
  | [.str s] => some (chrs s)
  | _ => none
def tupleD : List D → Option D
  | [.lst ds] => some (.tup ds)
  | [.tup ds] => some (.tup ds)
  | _ => none
def intD : List D → Option D
  | [.int i] => some (.int i)
  | [.bl b] => some (.int (if b then 1 else 0))
  | _ => none
def absD : List D → Option D
  | [.int i] => some (.int (if i < 0 then -i else i))
  | _ => none
section
variable {X : Cx}
theorem oc_len : CallR X (.builtin "len") (rDs X.K X.mg lenD) := by
  intro pins s σ H xs us Q I r h
  obtain ⟨Hf, ds, d, sb, l, e, q⟩ := h
  unfold lenD at e
  split at e
  · cases e
    obtain ⟨v, r1, rfl, ⟨z1, p1, v1, rfl, h1, l1⟩, rfl⟩ := l
    exact call_len_seq pins s σ H _ us Q I r ⟨_, _, rfl, .inl (.inl (.inl (sb _ _ h1))), by rw [← l1.len]; exact q _ Hf H (.refl sb) (is_int _)⟩
  · cases e
    obtain ⟨v, r1, rfl, ⟨z1, p1, v1, rfl, h1, l1⟩, rfl⟩ := l
    exact call_len_seq pins s σ H _ us Q I r ⟨_, _, rfl, .inr (sb.sqt h1), by rw [← l1.len]; exact q _ Hf H (.refl sb) (is_int _)⟩
  · cases e
    obtain ⟨v, r1, rfl, ⟨rfl, hz⟩, rfl⟩ := l
    exact call_len_str pins s σ H _ us Q I r ⟨_, rfl, by rw [str_len]; exact hz, by rw [str_len]; exact q _ Hf H (.refl sb) (is_int _)⟩
  · cases e
    obtain ⟨v, r1, rfl, ⟨z1, p1, rfl, h1⟩, rfl⟩ := l
    exact call_len_seq pins s σ H _ us Q I r ⟨_, _, rfl, .inl (sb.sql h1.sq), by rw [List.length_map]; exact q _ Hf H (.refl sb) (is_int _)⟩
  · cases e
theorem oc_tuple : CallR X (.type "tuple") (rDs X.K X.mg tupleD) := by
  intro pins s σ H xs us Q I r h
  obtain ⟨Hf, ds, d, sb, l, e, q⟩ := h
  unfold tupleD at e
  split at e
  · cases e
    obtain ⟨v, r1, rfl, ⟨z1, p1, v1, rfl, h1, l1⟩, rfl⟩ := l
    refine call_tuple_of pins s σ H _ us Q I r ⟨_, _, rfl, .inl ⟨.inl (.inl (sb _ _ h1)), fun p hp => q _ _ _ (.new sb hp) ?_⟩⟩
    exact ⟨z1, p, _, rfl, .inl (.inl upd_same), l1.mono (Ste.new (bag := []) sb hp).sub⟩
  · cases e
    obtain ⟨v, r1, rfl, ⟨z1, p1, v1, rfl, h1, l1⟩, rfl⟩ := l
    exact call_tuple_of pins s σ H _ us Q I r ⟨_, _, rfl, .inr ⟨sb.sqt h1, q _ _ _ (.refl sb) ⟨z1, p1, v1, rfl, h1, l1⟩⟩⟩
  · cases e
theorem oc_int : CallR X (.type "int") (rDs X.K X.mg intD) := by
  intro pins s σ H xs us Q I r h
  obtain ⟨Hf, ds, d, sb, l, e, q⟩ := h
  unfold intD at e
  split at e
  · cases e
    obtain ⟨v, r1, rfl, rfl, rfl⟩ := l
    exact call_int1 pins s σ H _ us Q I r (.inl ⟨_, rfl, q _ Hf H (.refl sb) (is_int _)⟩)
  · cases e
    obtain ⟨v, r1, rfl, rfl, rfl⟩ := l
    exact call_int1 pins s σ H _ us Q I r (.inr ⟨_, rfl, q _ Hf H (.refl sb) (is_int _)⟩)
  · cases e
theorem oc_abs : CallR X (.builtin "abs") (rDs X.K X.mg absD) := by
  intro pins s σ H xs us Q I r h
  obtain ⟨Hf, ds, d, sb, l, e, q⟩ := h
  unfold absD at e
  split at e
  · cases e
    obtain ⟨v, r1, rfl, rfl, rfl⟩ := l
    exact call_abs pins s σ H _ us Q I r ⟨_, rfl, q _ Hf H (.refl sb) (is_int _)⟩
  · cases e
end
/-! ### join -/
def joinN (S : List Nat) : List (List Nat) → List Nat
  | [] => []
  | [p] => p
  | p :: q :: r => p ++ (S ++ joinN S (q :: r))
def strsOf : List D → Option (List (List Nat))
  | [] => some []
  | .str s :: r => (strsOf r).map (s :: ·)
  | _ :: _ => none
def joinD (a b : D) : Option D := match a, sqOf b with
  | .str S, some ds => match strsOf ds with
    | some ps => if (ps.map (·.length)).sum + ps.length * S.length ≤ 16777216 then some (.str (joinN S ps)) else none
    | none => none
  | _, _ => none
theorem joinN_eq (S : List Nat) : ∀ ps, joinN S ps = TL.joinL S ps
  | [] => rfl
  | [_] => rfl
  | p :: q :: r => by rw [joinN, TL.joinL, joinN_eq S (q :: r)]
theorem joinN_len (S : List Nat) : ∀ ps : List (List Nat), (joinN S ps).length ≤ (ps.map (·.length)).sum + ps.length * S.length
  | [] => by simp [joinN]
  | [p] => by simp [joinN]
  | p :: q :: r => by
    have := joinN_len S (q :: r)
    rw [joinN, List.length_append, List.length_append, List.map_cons, List.sum_cons, List.length_cons, Nat.add_mul]
    omega
theorem isL_strs {K : PySem.W.Frag} {mg : Str → Option Value} {H : Hp} : ∀ {ds : List D} {vs : List V} {ps : List (List Nat)}, IsL K mg H ds vs → strsOf ds = some ps → vs = ps.map fun p => .str ⟨p.toArray⟩
  | [], _, _, h, e => by cases h; cases e; rfl
  | .str s :: ds, _, _, h, e => by
    obtain ⟨v, r, rfl, ⟨rfl, _⟩, l⟩ := h
    unfold strsOf at e
    cases q : strsOf ds with
    | none => rw [q] at e; cases e
    | some ps => rw [q] at e; cases e; rw [isL_strs l q]; rfl
  | .non :: _, _, _, _, e => by cases e
  | .bl _ :: _, _, _, _, e => by cases e
  | .int _ :: _, _, _, _, e => by cases e
  | .tup _ :: _, _, _, _, e => by cases e
  | .lst _ :: _, _, _, _, e => by cases e
  | .dic _ _ :: _, _, _, _, e => by cases e
  | .ins _ _ _ :: _, _, _, _, e => by cases e
  | .scr _ :: _, _, _, _, e => by cases e
  | .xc _ _ _ _ :: _, _, _, _, e => by cases e
section
variable {X : Cx} {fx : Fx} {m : Type → Type} [Mo m] {G : List Sl} {o e : Expr} {apos pos : Pos} {x y : m D}
theorem de_join (ho : PE X o (tE X.K X.mg fx G x)) (he : PE X e (tE X.K X.mg fx G y)) (hs : starEach [e] X.env = [(false, eval e X.env)] := by rfl) (hbase : attributeBase o "join" X.env (eval o X.env) = eval o X.env := by rfl) (hline : (apos.endLine == pos.line) = true := by rfl) :
    PE X (.Call (.Attribute o "join" apos) [e] [] pos) (tE X.K X.mg fx G (do let u ← x; let _ ← ask (strOf u); let v ← y; ask (joinD u v))) := peI (pe_join ho he hs hbase hline) fun σ H Q ⟨Hf, s, h⟩ =>
  (h.bind.mono fun v1 H1 ⟨d1, Hf1, s1, sb1, r1, h1⟩ => by
    have k := Mo.wp_lift (Mo.wp_bind h1.2)
    cases d1 with
    | str S =>
      obtain ⟨rfl, hz1⟩ := r1
      refine ⟨⟨_, rfl⟩, ?_⟩
      have h2 : tX X.K X.mg fx G (fun H d v => Is X.K X.mg H d v) (do let v ← y; ask (joinD (.str S) v) : m D) Hf1 s1 σ H1 Q := ⟨h1.1, k⟩
      refine (h2.bind.mono fun v2 H2 ⟨d2, Hf2, s2, sb2, r2, h3⟩ => ?_).to
      obtain ⟨d, e, q⟩ := h3.ask
      unfold joinD at e
      cases e2 : sqOf d2 with
      | none => rw [e2] at e; cases e
      | some ds =>
        rw [e2] at e
        cases e3 : strsOf ds with
        | none => simp only [e3] at e; cases e
        | some ps =>
          simp only [e3] at e
          split at e
          · rename_i hz
            cases e
            have fin : Q (.str (Txt.join ⟨S.toArray⟩ (ps.map fun p => (⟨p.toArray⟩ : Str)))) H2 := by
              refine q _ Hf2 H2 (.refl h3.1.top) ⟨?_, Nat.le_trans (joinN_len S ps) (by rw [sizeLine_eq]; exact hz)⟩
              rw [TL.join_eq]
              congr 1
              have e4 := TL.tl_join ⟨S.toArray⟩ (ps.map fun p => (⟨p.toArray⟩ : Str))
              refine TL.ext_tl ?_
              refine (e4.trans ?_).trans (str_tl (joinN S ps)).symm
              rw [joinN_eq, List.map_map]
              have e5 : (ps.map (TL.tl ∘ fun p => (⟨p.toArray⟩ : Str))) = ps := by
                conv => rhs; rw [← List.map_id ps]
                exact List.map_congr_left fun p _ => str_tl p
              rw [e5]
            have hz' : ((ps.map fun p => (⟨p.toArray⟩ : Str)).map (·.length)).sum + (ps.map fun p => (⟨p.toArray⟩ : Str)).length * (⟨S.toArray⟩ : Str).length ≤ 16777216 := by
              rw [List.map_map, List.length_map, str_len]
              have e5 : (ps.map ((fun x : Str => x.length) ∘ fun p => (⟨p.toArray⟩ : Str))) = ps.map (·.length) := List.map_congr_left fun p _ => str_len p
              rw [e5]
              exact hz
            have em : (ps.map fun p => V.str ⟨p.toArray⟩) = (ps.map fun p => (⟨p.toArray⟩ : Str)).map V.str := by rw [List.map_map]; rfl
            cases d2 with
            | lst es =>
              cases e2
              obtain ⟨z1, p1, w1, rfl, t1, l1⟩ := r2
              have ew := isL_strs l1 e3
              subst ew
              exact ⟨_, p1, _, rfl, rfl, .inl (.inl (.inl (by rw [← em]; exact h3.1.top _ _ t1))), hz', fin⟩
            | tup es =>
              cases e2
              obtain ⟨z1, p1, w1, rfl, t1, l1⟩ := r2
              have ew := isL_strs l1 e3
              subst ew
              exact ⟨_, p1, _, rfl, rfl, .inr (by rw [← em]; exact h3.1.top.sqt t1), hz', fin⟩
            | _ => cases e2
          · cases e
    | _ => exact k.elim).to
end
end DL
namespace DL
open PySem L2
/-! ### times -/
theorem foldl_app (x : Array Nat) : ∀ (n : Nat) (acc : Array Nat), (List.replicate n x).foldl (· ++ ·) acc = acc ++ (List.replicate n x.toList).flatten.toArray
  | 0, acc => by simp
  | n + 1, acc => by
    rw [List.replicate_succ, List.foldl_cons, foldl_app x n, List.replicate_succ, List.flatten_cons]
    apply Array.ext'
    simp
theorem mulS_eq (a : List Nat) (k : Int) (h0 : 0 ≤ k) : Txt.mul ⟨a.toArray⟩ k = ⟨(List.replicate k.toNat a).flatten.toArray⟩ := by
  unfold Txt.mul
  by_cases h1 : k < 1
  · have : k = 0 := by omega
    subst this
    rfl
  · rw [if_neg h1]
    by_cases h2 : (k == 1 || (⟨a.toArray⟩ : Str).length == 0) = true
    · rw [if_pos h2]
      rw [str_len] at h2
      by_cases h3 : k = 1
      · subst h3
        simp
      · have : a.length = 0 := by simpa [h3] using h2
        have : a = [] := List.length_eq_zero_iff.mp this
        subst this
        simp
    · rw [if_neg h2, foldl_app]
      simp
theorem rep_len {α : Type} (a : List α) (n : Nat) : (List.replicate n a).flatten.length = a.length * n := by
  simp [Nat.mul_comm]
theorem isL_rep {K : PySem.W.Frag} {mg : Str → Option Value} {H : Hp} {ds : List D} {vs : List V} (l : IsL K mg H ds vs) : ∀ n : Nat, IsL K mg H (List.replicate n ds).flatten (List.replicate n vs).flatten
  | 0 => rfl
  | n + 1 => by
    rw [List.replicate_succ, List.replicate_succ, List.flatten_cons, List.flatten_cons]
    exact l.app (isL_rep l n)
section
variable {X : Cx}
theorem od_mul : OpR X (binaryOp .Mult) (rD2 X.K X.mg mulD) := by
  intro pins s σ H x y v u Q I rx ry h
  obtain ⟨Hf, dx, dy, d, sb, ix, iy, e, q⟩ := h
  unfold mulD at e
  split at e
  · split at e
    · rename_i i j hc
      cases e; cases ix; cases iy
      exact op_mulW pins s σ H _ _ v u Q I rx ry ⟨_, _, rfl, rfl, hc, q _ Hf H (.refl sb) (is_int _)⟩
    · cases e
  · split at e
    · rename_i a k hc
      cases e
      obtain ⟨rfl, hz⟩ := ix
      cases iy
      obtain ⟨t, rfl⟩ := rx
      obtain ⟨t2, rfl⟩ := ry
      have hl : (⟨a.toArray⟩ : Str).length = a.length := str_len a
      refine SB.mul ⟨?_, fun h1 _ => ?_, fun h1 _ => ?_⟩ fun t' k' => ?_
      · rw [Bool.or_eq_false_iff]
        exact ⟨decide_eq_false (by omega), decide_eq_false (by omega)⟩
      · rw [hl]
        have h2 : ((a.length * k.toNat : Nat) : Int) ≤ 1000000 := by omega
        rw [Int.natCast_mul, Int.toNat_of_nonneg hc.1] at h2
        have := Int.le_ediv_of_mul_le (a := (a.length : Int)) (b := 2 ^ 63 - 1) (c := k) (by omega) (by omega)
        omega
      · unfold Builtin.Str.tooLong
        rw [hl, sizeLine_eq]
        exact decide_eq_false (by omega)
      · rw [mulS_eq a k hc.1]
        refine ⟨.str _, H, I.tok k', ⟨t', rfl⟩, q _ Hf H (.refl sb) ⟨rfl, ?_⟩⟩
        rw [rep_len, sizeLine_eq]
        omega
    · cases e
  · split at e
    · rename_i a k hc
      cases e
      obtain ⟨z1, p1, v1, rfl, h1, l1⟩ := ix
      cases iy
      refine op_rep pins s σ H _ _ v u Q I rx ry ⟨_, _, _, rfl, rfl, sb _ _ h1, by omega, by omega, ?_, fun p hp => q _ _ _ (.new sb hp) ⟨?_, p, _, rfl, upd_same, ?_⟩⟩
      · rw [← l1.len, sizeLine_eq]; omega
      · rw [rep_len, sizeLine_eq]; omega
      · have l2 := l1.mono (Ste.new (bag := []) (o := .lst (List.replicate k.toNat v1).flatten) sb hp).sub
        exact isL_rep l2 _
    · cases e
  · cases e
end
end DL
namespace DL
open PySem L2
section
variable {X : Cx}
theorem isNone_is {K : PySem.W.Frag} {mg : Str → Option Value} {H : Hp} {d : D} {v : V} {b : Bool} (i : Is K mg H d v) (e : isNone d = some b) : decide (v = .non) = b := by
  cases d with
  | non => cases i; cases e; rfl
  | bl c => cases i; cases e; rfl
  | int c => cases i; cases e; rfl
  | str c => obtain ⟨rfl, _⟩ := i; cases e; rfl
  | tup ds => obtain ⟨_, a, vs, rfl, _⟩ := i; cases e; rfl
  | lst ds => obtain ⟨_, a, vs, rfl, _⟩ := i; cases e; rfl
  | dic _ _ => obtain ⟨a, vs, rfl, _⟩ := i; cases e; rfl
  | ins _ _ _ => obtain ⟨a, c, dd, vs, rfl, _⟩ := i; cases e; rfl
  | scr _ => obtain ⟨_, a, rfl, _⟩ := i; cases e; rfl
  | xc _ _ _ _ => obtain ⟨rfl, _⟩ := i; cases e; rfl
theorem od_is : OpR X (compareOp .Is) (rD2 X.K X.mg isD) := by
  intro pins s σ H x y v u Q I rx ry h
  obtain ⟨Hf, dx, dy, d, sb, ix, iy, e, q⟩ := h
  unfold isD at e
  split at e
  · cases iy
    cases e1 : isNone dx with
    | none => rw [e1] at e; cases e
    | some b =>
      rw [e1] at e; cases e
      have e2 := isNone_is ix e1
      exact op_isN pins s σ H _ _ v u Q I rx ry ⟨rfl, by rw [e2]; exact q _ Hf H (.refl sb) (is_bl _)⟩
  · cases e; cases ix; cases iy
    exact op_isBl pins s σ H _ _ v u Q I rx ry ⟨_, _, rfl, rfl, q _ Hf H (.refl sb) (is_bl _)⟩
  · cases e
theorem in_core (hu : X.A.units + 65 < cLine) {pins : List (Addr × Obj)} {s : Shared} {σ : L2.St} {H : Hp} {x y : V} {v u : Value} (I : Inv X pins σ H s) (rx : RelV x v) (ry : RelV y u) {Hf : Hp} {dx dy : D} {b : Bool} (sb : Sub Hf H) (ix : Is X.K X.mg Hf dx x) (iy : Is X.K X.mg Hf dy y) (e : inP dx dy = some b) :
    (∀ Q : VK, Q (.bl b) H → wpAny (model X.prog X.w) X.A (compareOp .In v u) (EP X pins σ Q) X.xe s) ∧ (∀ Q : VK, Q (.bl (!b)) H → wpAny (model X.prog X.w) X.A (compareOp .NotIn v u) (EP X pins σ Q) X.xe s) := by
  unfold inP at e
  split at e
  · obtain ⟨rfl, _⟩ := ix
    obtain ⟨rfl, _⟩ := iy
    cases e
    refine ⟨fun Q q => op_in_sign pins s σ H _ _ v u Q I rx ry ⟨_, _, rfl, rfl, by rw [str_tl]; exact q⟩, fun Q q => op_notIn_sign pins s σ H _ _ v u Q I rx ry ⟨_, _, rfl, rfl, by rw [str_tl]; exact q⟩⟩
  · rename_i ds
    split at e
    · rename_i p ys e1 e2
      split at e
      · rename_i hc
        cases e
        rw [Bool.and_eq_true] at hc
        refine ⟨fun Q q => op_inD hu pins s σ H _ _ v u Q I rx ry ⟨p, ys, (ix.mono sb).dp e1, (iy.mono sb).dp e2, hc.1, hc.2, q⟩, fun Q q => op_notInD hu pins s σ H _ _ v u Q I rx ry ⟨p, ys, (ix.mono sb).dp e1, (iy.mono sb).dp e2, hc.1, hc.2, q⟩⟩
      · cases e
    · cases e
  · rename_i ds
    split at e
    · rename_i p ys e1 e2
      split at e
      · rename_i hc
        cases e
        rw [Bool.and_eq_true] at hc
        obtain ⟨as, r1⟩ := Dp.reads I p x v ((ix.mono sb).dp e1) rx
        obtain ⟨bs, r2⟩ := Dp.reads I _ y u ((iy.mono sb).dp e2) ry
        have cl : PyData.canLayAll0 ys = true := by
          have := SeqAt.canLay_of_shaped hc.2
          simpa [PyData.canLay0] using this
        exact ⟨fun Q q => SeqAt.in_tuple_reads r2 r1 cl (SeqAt.canLay_of_shaped hc.1) (PyProof.Rows.room_in_shaped hc.1 hu) ⟨.bl _, H, I, rfl, q⟩,
          fun Q q => SeqAt.notIn_tuple_reads r2 r1 cl (SeqAt.canLay_of_shaped hc.1) (PyProof.Rows.room_in_shaped hc.1 hu) ⟨.bl _, H, I, rfl, q⟩⟩
      · cases e
    · cases e
  · cases e
theorem od_in (hu : X.A.units + 65 < cLine) : OpR X (compareOp .In) (rD2 X.K X.mg inD) := by
  intro pins s σ H x y v u Q I rx ry h
  obtain ⟨Hf, dx, dy, d, sb, ix, iy, e, q⟩ := h
  unfold inD at e
  cases e1 : inP dx dy with
  | none => rw [e1] at e; cases e
  | some b => rw [e1] at e; cases e; exact (in_core hu I rx ry sb ix iy e1).1 Q (q _ Hf H (.refl sb) (is_bl _))
theorem od_notIn (hu : X.A.units + 65 < cLine) : OpR X (compareOp .NotIn) (rD2 X.K X.mg notInD) := by
  intro pins s σ H x y v u Q I rx ry h
  obtain ⟨Hf, dx, dy, d, sb, ix, iy, e, q⟩ := h
  unfold notInD at e
  cases e1 : inP dx dy with
  | none => rw [e1] at e; cases e
  | some b => rw [e1] at e; cases e; exact (in_core hu I rx ry sb ix iy e1).2 Q (q _ Hf H (.refl sb) (is_bl _))
end
/-! ### isinstance -/
def tyD : D → Option String
  | .non => some "NoneType"
  | .bl _ => some "bool"
  | .int _ => some "int"
  | .str _ => some "str"
  | .tup _ => some "tuple"
  | .lst _ => some "list"
  | .scr _ => some "list"
  | .xc _ _ _ _ => none
  | .dic _ _ => some "dict"
  | .ins _ _ _ => none
def isiD (T : String) (d : D) : Option D := match tyD d with
  | some a => (kitB a T).map .bl
  | none => none
theorem tyD_is {K : PySem.W.Frag} {mg : Str → Option Value} {Hf H : Hp} (sb : Sub Hf H) {d : D} {v : V} {T : String} (i : Is K mg Hf d v) (e : tyD d = some T) : TyX K H v (.type T) := by
  cases d with
  | non => cases i; cases e; exact .base .non
  | bl c => cases i; cases e; exact .base (.bl _)
  | int c => cases i; cases e; exact .base (.int _)
  | str c => obtain ⟨rfl, _⟩ := i; cases e; exact .base (.str _)
  | tup ds =>
    obtain ⟨_, a, vs, rfl, h, _⟩ := i
    cases e
    rcases sb.sqt h with (h | ⟨o, h⟩) | h
    · exact .base (.tup h)
    · exact .fTuple h
    · obtain ⟨o, its, n, h1, h2, h3⟩ := h
      exact .kTuple h1 h2
  | lst ds =>
    obtain ⟨_, a, vs, rfl, h, _⟩ := i
    cases e
    exact .base (.lst (sb _ _ h))
  | dic _ _ =>
    obtain ⟨a, vs, rfl, h, _⟩ := i
    cases e
    rcases sb.rd h with h | ⟨o, h⟩
    · exact .base (.dK h)
    · exact .fDict h
  | ins _ _ _ => cases e
  | xc _ _ _ _ => cases e
  | scr _ =>
    obtain ⟨_, a, rfl, h⟩ := i
    cases e
    rcases sb.sql h.sq with (h | ⟨o, h⟩) | h
    · exact .base (.lst h)
    · exact .base (.frz h)
    · obtain ⟨o, its, n, h1, h2, h3⟩ := h
      exact .kList h1 h2
section
variable {X : Cx} {fx : Fx} {m : Type → Type} [Mo m] {G : List Sl} {e : Expr} {p p2 pos : Pos} {x : m D}
theorem de_isi (T : String) {n : Str} (he : PE X e (tE X.K X.mg fx G x)) (hg : Gl X "isinstance") (hm : X.mg "isinstance" = none) (hg2 : Gl X n) (hm2 : X.mg n = none) (hv2 : bootBuiltins n = some (.type T))
    (hn : n ≠ "__name__" := by decide) (hdb : (n == ("__debug__" : Str)) = false := by decide) (hs : starEach [e, .Name n p2] X.env = (false, eval e X.env) :: starEach [.Name n p2] X.env := by rfl) (hs2 : starEach [.Name n p2] X.env = (false, eval (.Name n p2) X.env) :: starEach [] X.env := by rfl) (hpl : (backTo pos (starEach [.Name n p2] X.env)).any (·.1) = false := by rfl) :
    PE X (.Call (.Name "isinstance" p) [e, .Name n p2] [] pos) (tE X.K X.mg fx G (do let d ← x; ask (isiD T d))) :=
  peI (pe_callB call_isi hg hm rfl (pa_cons he (pa_cons (pe_bltn (v := .ty T) hg2 hm2 hv2 rfl hn hdb) pa_nil hs2) hs) (by decide) (by decide) hs hpl) fun σ H Q ⟨Hf, s, h⟩ =>
  (h.bind.mono fun v1 H1 ⟨d1, Hf1, s1, sb1, r1, h1⟩ => by
    obtain ⟨d, e, q⟩ := h1.ask
    unfold isiD at e
    cases e1 : tyD d1 with
    | none => rw [e1] at e; cases e
    | some a =>
      simp only [e1] at e
      cases e2 : kitB a T with
      | none => rw [e2] at e; cases e
      | some b =>
        rw [e2] at e
        cases e
        exact ⟨v1, .ty T, _, _, b, rfl, .ty T, tyD_is h1.1.top r1 e1, kit_ty e2, q _ Hf1 H1 (.refl h1.1.top) (is_bl _)⟩).to
end
/-! ### all, any -/
/-! ### repr -/
end DL
namespace DL
open PySem L2
/-! ### lists of the frame's own, changed -/
def setI (ds : List D) (k d : D) : Option (List D) := match k with
  | .int i => (ixN ds.length i).map fun j => ds.set j d
  | _ => none
section
variable {X : Cx} {fx : Fx} {m : Type → Type} [Mo m] {G : List Sl} {α β : Type} {kk : Nat} {e o c : Expr} {rest : List Stmt} {ex : α → List Sl} {exb : β → List Sl} {x y : m D} {ds : List D} {n : Str} {np apos cpos pos : Pos}
/-- x[c] = e -/
theorem dss_setItem {k : List D → m (Fl α β)} (i : Nat) (he : PE X e (tE X.K X.mg fx G x)) (hc : PE X c (tE X.K X.mg fx G y)) (hr : ∀ ds, PSs X rest (tS X.K X.mg fx (G.set i (.ow ds)) ex exb (k ds)))
    (hG : G[i]? = some (.ow ds) := by rfl) (hN : X.N[i]? = some n := by rfl) (hv : Vis X.env.scope n := by first | exact Or.inl rfl | exact Or.inr (Or.inl rfl) | exact Or.inr (Or.inr rfl)) (hd : (n == ("__debug__" : Str)) = false := by decide) (hcd : (n == ("__classdict__" : Str)) = false := by decide)
    (ha : ∀ v, assign (.Subscript (.Name n np) c apos) X.env v = (do
      let ov ← holding [v] (eval (.Name n np) X.env)
      let iv ← holding [v, ov] (eval c X.env)
      standAt apos
      holding [v, ov, iv] (setItem ov iv v)
      release [v, ov, iv] []) := by intro _; rfl)
    (hs : swapsWithSole [.Subscript (.Name n np) c apos] e pos.line X.env = pure false := by rfl) (hw : swappedStores [.Subscript (.Name n np) c apos] e X.env = pure none := by rfl)
    (h1 : (assignEach [.Subscript (.Name n np) c apos] X.env).map (·.2) = [assign (.Subscript (.Name n np) c apos) X.env] := by rfl) (hg : GxOk fx G := by first | exact True.intro | repeat' (first | exact True.intro | exact Or.inl rfl | exact Or.inr rfl | refine And.intro ?_ ?_)) :
    PSs X (.Assign [.Subscript (.Name n np) c apos] e pos :: rest) (tS X.K X.mg fx G ex exb (do let d ← x; let j ← y; let ds ← ask (setI ds j d); k ds)) :=
  pssI (pss_cons (ps_asg he (pg_sub (pe_var hN hv hd hcd) hc set_list ha) hs hw h1) (pss_ex hr)) fun D σ H ⟨Hf, s, h⟩ =>
    ((h.bind hg).mono fun v H1 ⟨d, Hf1, s1, sb, r, h1⟩ => by
      obtain ⟨p, vs, ep, _⟩ := h1.1.sl i _ hG
      refine ⟨.ref p, ep, ((h1.bind hg).mono fun w H2 ⟨j, Hf2, s2, sb2, r2, h2⟩ => ?_).to⟩
      obtain ⟨p1, vs1, ep1, hp1, hf1, _, _, l1, hz1⟩ := h2.1.sl i _ hG
      have eq : p1 = p := by rw [ep] at ep1; cases ep1; rfl
      subst eq
      have k' := Mo.wp_lift (Mo.wp_bind h2.2)
      unfold setI at k'
      cases j with
      | int t =>
        cases r2
        cases q : ixN ds.length t with
        | none => simp only [q] at k'; exact k'.elim
        | some z =>
          simp only [q] at k'
          refine ⟨p1, vs1, t, z, rfl, rfl, hp1, by rw [← l1.len]; exact q, _, Hf2, s2, h2.1.updOw hG ep (l1.set (r.mono sb2) z) (by rw [List.length_set]; exact hz1), k'⟩
      | _ => exact k'.elim).to
end
/-! ### the answer is a new list -/
end DL
namespace DL
open PySem L2
/-! ### the bag -/
section
variable {X : Cx} {fx : Fx} {G : List Sl} {α β : Type} {kk : Nat} {e : Expr} {rest : List Stmt} {ex : α → List Sl} {exb : β → List Sl} {pos p2 np apos : Pos} {n : Str} {j : Nat}
/-- the bag's object is changed -/
theorem StS.bagUpd {K : PySem.W.Frag} {mg : Str → Option Value} {Hf H : Hp} {σ : L2.St} {s s' : S} {b : Addr} {o : HO} (st : StS K mg fx Hf H σ G s) (hb : b ∈ fx.bag) (bg : BagAt fx.bag (upd H b o) s') : StS K mg fx Hf (upd H b o) σ G s' := by
  have hf := (st.bagf b hb).1
  refine ⟨⟨st.ste.sub, fun a u q => ?_, fun a u q n => ?_, fun a n => ?_, st.ste.fresh⟩, bg, fun c hc => ⟨(st.bagg c hc).1, ?_, (st.bagg c hc).2.2⟩, st.len, fun i x ex => ?_, st.dis⟩
  · have ne : a ≠ b := fun z => by rw [z, hf] at q; cases q
    rw [upd_ne ne]; exact st.top a u q
  · have ne : a ≠ b := fun z => n (List.mem_append_right _ (z ▸ hb))
    rw [upd_ne ne]; exact st.ste.keep a u q n
  · by_cases c : a = b
    · rw [c, upd_same]; simp
    · rw [upd_ne c]; exact st.ste.dom a n
  · by_cases q : c = b
    · rw [q, upd_same]; simp
    · rw [upd_ne q]; exact (st.bagg c hc).2.1
  · exact (st.sl i x ex).upd fun q ox e z => by
      obtain ⟨q2, e2, _, _, nb, _⟩ := (st.sl i x ex).ref ox
      rw [e] at e2
      cases e2
      exact nb (z ▸ hb)
end
/-! ### a def whose answer is a new list -/
/-! ### a bag is made -/
section
variable {K : PySem.W.Frag} {mg : Str → Option Value} {fx : Fx}
def noBg : Sl → Bool
  | .bg => false
  | _ => true
end
end DL
namespace DL
open PySem L2 PyProof.Rows PySem.Spec
/-! ### the end -/
section
variable {P : Program} {w : World} {K : PySem.W.Frag} {mg mb : Str → Option Value} {k : Nat} {fa a : Addr} {fd : FuncData} {x : Str} {g : List D → R D} {s1 : Shared} {vs : List Value} {ns : List Int}
/-- the module's facts, behind what is tracked -/
theorem mod_hid {H : Hp} (KX : K.In s1.heap) (hns : s1.heap.Ns mainGlobals mg) (hb : s1.heap.Ns builtinsNs mb) (hbb : ∀ x : Str, x ≠ "__name__" → mb x = bootBuiltins x) (hlim : s1.heap.NoLimit)
    (hd : ∀ (b : Addr) (o : Obj) (es : Array DictEntry) (ep : Nat), s1.heap.get? b = some o → o.data = .dict es ep → H b = none) (hk : ∀ b o, K.lookup b = some o → H b = none) : Mod K mg (hidT s1.heap H) := by
  have nsK : ∀ {b : Addr} {m : Str → Option Value}, s1.heap.Ns b m → (hidT s1.heap H).Ns b m := fun {b m} ⟨o, es, ep, e, d, r⟩ => ⟨o, es, ep, hidT_get e (hd _ _ _ _ e d), d, r⟩
  exact ⟨fun b o e => hidT_get (KX b o e) (hk b o e), nsK hns, ⟨mb, nsK hb, hbb⟩, let ⟨mc, h1, h2⟩ := hlim; ⟨mc, nsK h1, h2⟩⟩
/-- the law's def, called on a script that the heap H tells -/
theorem call_at {H : Hp} (KX : K.In s1.heap) (hns : s1.heap.Ns mainGlobals mg) (hb : s1.heap.Ns builtinsNs mb) (hbb : ∀ x : Str, x ≠ "__name__" → mb x = bootBuiltins x) (hlim : s1.heap.NoLimit) (hgn : s1.gens = #[])
    (hd : ∀ (b : Addr) (o : Obj) (es : Array DictEntry) (ep : Nat), s1.heap.get? b = some o → o.data = .dict es ep → H b = none) (hk : ∀ b o, K.lookup b = some o → H b = none) (hf : ∀ b u, H b = some u → ∃ o xs, u = .frz o (.lst xs)) (hok : HOk P w H s1.heap) (hr : Room k callerA)
    (F : ∀ base : Heap, K.In base → base.Ns mainGlobals mg → FnG P w K mg base k fa fd [x] (spR K mg false 1 g)) (hbind : ∀ (s : Shared) (u : Value), BindsTo s fd ⟨[u], []⟩ [(x, u)])
    (hS : ScL K H a (ns.map V.int)) (hl : ns.length ≤ sizeLine) (hg : g [.scr ns] = .ok (.bl true)) :
    codeAny (model P w) callerA (.call (.ref fa) ⟨[.ref a], []⟩) (fun r s' => r = .ok (.ret (.bool true)) ∧ OldK s1.heap s'.heap ∧ s'.os = s1.os ∧ AllBare s'.gens) s1 := by
  have hM := mod_hid (H := H) KX hns hb hbb hlim hd hk
  have e0 : Env0 P w K mg (hidT s1.heap H) callerA [] s1 H := ⟨rfl, hM, fun b o e => of_hidT e, Nat.le_of_eq (hidT_size _ _), trivial, fun b hb => absurd (show b ∈ ([] : List Addr) from hb) (by simp), hok, .of_eq hgn⟩
  have hsp : spR K mg false 1 g [.ref a] H (fun v _ => v = .bl true) (fun _ _ _ => False) := by
    refine ⟨rfl, H, [.scr ns], .refl H, ⟨_, _, rfl, ⟨hl, a, rfl, hS⟩, rfl⟩, ?_⟩
    rw [hg]
    exact fun v Hf' H' _ e => e
  refine codeAny_mono ((F _ hM.kin hM.glob).run callerA [] s1 H ⟨[.ref a], []⟩ [.ref a] [.ref a] _ _ rfl hr e0 (hbind s1 (.ref a)) (.cons rfl .nil) hsp) fun r s' h => ?_
  cases r with
  | error e =>
    exact (cxm_false (show CXm P w mg [] H s1 (fun _ _ _ => False) e s' from h)).elim
  | ok fl =>
    cases fl with
    | next => exact False.elim h
    | brk => exact False.elim h
    | cont => exact False.elim h
    | ret u =>
      obtain ⟨v, H', os, bare, un, hok', r', q⟩ := h
      have q' : v = .bl true := q
      subst q'
      obtain rfl : u = Value.bool true := r'
      refine ⟨rfl, OldK.of_keep fun b o e => ?_, os, bare⟩
      cases q : H b with
      | none => exact un.keep b o e q (by intro z; exact absurd (show b ∈ ([] : List Addr) from z) (by simp)) (by simp)
      | some u =>
        obtain ⟨ob, xs, rfl⟩ := hf b u q
        have z2 := un.frzs b ob _ q
        obtain ⟨e1, _⟩ := hok b _ q
        obtain ⟨e2, _⟩ := hok' b _ z2
        rw [e] at e1; cases e1
        exact e2
/-- the script that one knows as a list object -/
def scrH (a : Addr) (o : Obj) (xs : List V) : Hp := fun b => if b = a then some (.frz o (.lst xs)) else none
theorem scrH_at {a : Addr} {o : Obj} {xs : List V} : scrH a o xs a = some (.frz o (.lst xs)) := if_pos rfl
theorem scrH_ne {a b : Addr} {o : Obj} {xs : List V} (h : b ≠ a) : scrH a o xs b = none := if_neg h
theorem scrH_inv {a b : Addr} {o : Obj} {xs : List V} {u : HO} (h : scrH a o xs b = some u) : b = a ∧ u = .frz o (.lst xs) := by
  by_cases q : b = a
  · subst q
    rw [scrH_at] at h
    exact ⟨rfl, (Option.some.inj h).symm⟩
  · rw [scrH_ne q] at h
    cases h
theorem law_callG (KX : K.In s1.heap) (hns : s1.heap.Ns mainGlobals mg) (hb : s1.heap.Ns builtinsNs mb) (hbb : ∀ x : Str, x ≠ "__name__" → mb x = bootBuiltins x) (hlim : s1.heap.NoLimit) (hgn : s1.gens = #[])
    (ha : s1.heap.get? a = some { cls := .type "list", data := .seq vs.toArray }) (hi : IntsAre vs ns) (hl : ns.length ≤ sizeLine) (hr : Room k callerA)
    (F : ∀ base : Heap, K.In base → base.Ns mainGlobals mg → FnG P w K mg base k fa fd [x] (spR K mg false 1 g)) (hbind : ∀ (s : Shared) (u : Value), BindsTo s fd ⟨[u], []⟩ [(x, u)]) (hg : g [.scr ns] = .ok (.bl true)) :
    codeAny (model P w) callerA (.call (.ref fa) ⟨[.ref a], []⟩) (fun r s' => r = .ok (.ret (.bool true)) ∧ OldK s1.heap s'.heap ∧ s'.os = s1.os ∧ AllBare s'.gens) s1 := by
  have rv := vals_ints hi
  cases hk : K.lookup a with
  | some o =>
    have e := KX a o hk
    rw [ha] at e
    cases e
    refine call_at (H := fun _ => none) KX hns hb hbb hlim hgn (fun _ _ _ _ _ _ => rfl) (fun _ _ _ => rfl) (fun b u z => nomatch z) (fun b u z => nomatch z) hr F hbind (.inr ⟨_, vs.toArray, _, hk, rfl, rfl, rfl, ?_, by simpa using rv⟩) hl hg
    rw [List.size_toArray, hi.length]
    exact hl
  | none =>
    refine call_at (H := scrH a { cls := .type "list", data := .seq vs.toArray } (ns.map V.int)) KX hns hb hbb hlim hgn (fun b o es ep e d => ?_) (fun b o e => ?_) (fun b u z => ⟨_, _, (scrH_inv z).2⟩) (fun b u z => ?_) hr F hbind (.inl ⟨_, scrH_at⟩) hl hg
    · refine scrH_ne fun q => ?_
      subst q
      rw [ha] at e; cases e
      have d' : Data.seq vs.toArray _ = Data.dict es ep := d
      cases d'
    · refine scrH_ne fun q => ?_
      subst q
      rw [hk] at e; cases e
    · obtain ⟨rfl, rfl⟩ := scrH_inv z
      exact ⟨ha, by rw [List.length_map]; exact hl, vs, _, rv, ha⟩
end
end DL
namespace DL
open PySem L2
section
variable {X : Cx} {tg l : Expr} {tl : TE}
section
variable {X : Cx} {tg l : Expr} {tl : TE}
/-- an iterator over a list or a tuple is made -/
theorem iter_sq {tg : Expr} {pins : List (Addr × Obj)} {σ : L2.St} {H1 : Hp} {s1 : Shared} {R : It → Hp → Prop} {a : Addr} (I : L2.Inv X pins σ H1 s1) (hq : ((∃ xs, SqL X.K H1 a xs) ∧ R (Itl X.K a) H1) ∨ ((∃ xs, SqT X.K H1 a xs) ∧ R (Itt X.K a) H1)) :
    wpAny (model X.prog X.w) X.A (pyIter (.ref a)) (PIE X pins σ tg R) X.xe s1 :=
  hq.elim (fun ⟨⟨_, is⟩, q⟩ => let ⟨_, _, lies, _⟩ := I.list is
      wpAny_pyIter_list lies.isList (pi_one (tk := s1.toks) I _ (turn_list a _) ⟨_, Heap.get?_push_size _ rfl, rfl, rfl⟩ q))
    fun ⟨⟨_, is⟩, q⟩ => let ⟨its, _, lies, _⟩ := I.tuple is
      wpAny_pyIter_tuple (show s1.heap.IsTuple a its.toArray from lies) (pi_one (tk := s1.toks) I _ (turn_tuple a _) ⟨_, Heap.get?_push_size _ rfl, rfl, rfl⟩ q)
end
section
variable {X : Cx} {tg l : Expr} {tl : TE}
/-- a list, a tuple or a text is walked -/
theorem iter_any {pins : List (Addr × Obj)} {σ : L2.St} {H1 : Hp} {s1 : Shared} {R : It → Hp → Prop} {x : V} {v : Value} (I : L2.Inv X pins σ H1 s1) (rel : RelV x v)
    (h : (∃ z : Str, x = .str z ∧ R (Its z) H1) ∨ ∃ a, x = .ref a ∧ (((∃ xs, SqL X.K H1 a xs) ∧ R (Itl X.K a) H1) ∨ ((∃ xs, SqT X.K H1 a xs) ∧ R (Itt X.K a) H1))) :
    wpAny (model X.prog X.w) X.A (pyIter v) (PIE X pins σ tg R) X.xe s1 := by
  rcases h with ⟨z, rfl, q⟩ | ⟨a, rfl, q⟩
  · obtain ⟨t, rfl⟩ := rel
    by_cases narrow : z.cps.all (· < 128) = true
    · exact wpAny_pyIter_ascii narrow (pi_one (tk := s1.toks) I _ (turn_str _ z t "str_ascii_iterator" (.inl rfl)) ⟨_, Heap.get?_push_size _ rfl, rfl, rfl⟩ q)
    · exact wpAny_pyIter_wide (Bool.eq_false_iff.mpr narrow) (pi_one (tk := s1.toks) I _ (turn_str _ z t "str_iterator" (.inr rfl)) ⟨_, Heap.get?_push_size _ rfl, rfl, rfl⟩ q)
  · cases rel
    exact iter_sq I q
theorem pi_any (hl : PE X l tl) : PI X tg l (fun σ H R => tl σ H fun x H1 => (∃ z : Str, x = .str z ∧ R (Its z) H1) ∨ ∃ a, x = .ref a ∧ (((∃ xs, SqL X.K H1 a xs) ∧ R (Itl X.K a) H1) ∨ ((∃ xs, SqT X.K H1 a xs) ∧ R (Itt X.K a) H1))) where
  run pins s σ H R I h := wpAny_mono (hl.run pins s σ H _ I h) (fun v s1 ⟨x, H1, I1, rel, q⟩ => iter_any I1 rel q) fun _ _ z => z
end
end
section
variable {X : Cx} {fx : Fx} {m : Type → Type} [Mo m] {G : List Sl} {tg l c a b : Expr} {x y : m D} {t : m Bool} {pos : Pos} {kk : Nat}
def itD : D → Option (List D)
  | .lst ds => some ds
  | .tup ds => some ds
  | .str s => some (chrs s)
  | .scr is => some (is.map .int)
  | _ => none
theorem yl_scr {K : PySem.W.Frag} {mg : Str → Option Value} {Hf : Hp} {is : List Int} {a : Addr} (hz : is.length ≤ sizeLine) (h : SqL K Hf a (is.map V.int)) : Yl K mg (Itl K a) Hf (is.map .int) := ⟨by simpa using hz, fun Hf2 H s1 s2 i => by
  have hq : SqL K H a (is.map V.int) := s2.sql (s1.sql h)
  have l : IsL K mg Hf (is.map .int) (is.map V.int) := isL_ints is
  refine ⟨fun d hd => ?_, fun hl => ⟨_, hq, by rw [← l.len]; exact hl⟩⟩
  obtain ⟨v, hv, iv⟩ := l.get hd
  exact ⟨⟨_, v, hq, hv⟩, fun x H' ⟨e, f⟩ => by
    subst e
    have := f _ hq
    rw [hv] at this
    cases this
    exact ⟨Hf2, .refl s2, iv.mono s1⟩⟩⟩
theorem di_any (h : PE X l (tE X.K X.mg fx G x)) : PI X tg l (tI X.K X.mg fx G (do let d ← x; ask (itD d))) := piI (pi_any h) fun σ H Q ⟨Hf, s, h⟩ =>
  (h.bind.mono fun v H1 ⟨d, Hf1, s1, sb, r, h1⟩ => by
    obtain ⟨ds, e, q⟩ := h1.ask
    cases d with
    | lst es =>
      cases e
      obtain ⟨hz, a, vs, rfl, t, il⟩ := r
      exact .inr ⟨a, rfl, .inl ⟨⟨vs, .inl (.inl (h1.1.top _ _ t))⟩, q _ Hf1 H1 (.refl h1.1.top) (yl_list hz t il)⟩⟩
    | tup es =>
      cases e
      obtain ⟨hz, a, vs, rfl, t, il⟩ := r
      exact .inr ⟨a, rfl, .inr ⟨⟨vs, h1.1.top.sqt t⟩, q _ Hf1 H1 (.refl h1.1.top) (yl_tup hz t il)⟩⟩
    | str z =>
      cases e
      exact .inl ⟨_, r.1, q _ Hf1 H1 (.refl h1.1.top) (yl_str z r.2)⟩
    | scr is =>
      cases e
      obtain ⟨hz, a, rfl, t⟩ := r
      exact .inr ⟨a, rfl, .inl ⟨⟨_, h1.1.top.sql t.sq⟩, q _ Hf1 H1 (.refl h1.1.top) (yl_scr hz t.sq)⟩⟩
    | _ => cases e).to
/-! ### an own list, read -/
mutual
/-- data that no change of a list reaches -/
def imm : D → Bool
  | .non => true
  | .bl _ => true
  | .int _ => true
  | .str _ => true
  | .tup ds => immL ds
  | .ins _ _ ds => immL ds
  | _ => false
def immL : List D → Bool
  | [] => true
  | d :: ds => imm d && immL ds
end
def flatD (d : D) : Option D := if imm d = true then some d else none
section
variable {K : PySem.W.Frag} {mg : Str → Option Value} {H H' : Hp}
theorem Rd.off {a : Addr} {u : HO} (hh : ∀ a, H' a = H a ∨ ∃ vs, H a = some (.lst vs)) (h : Rd H a u) (hu : ∀ vs, u ≠ .lst vs) : Rd H' a u := by
  rcases h with h | ⟨o, h⟩
  · rcases hh a with e | ⟨vs, e⟩
    · exact .inl (e.trans h)
    · rw [h] at e; cases e; exact absurd rfl (hu vs)
  · rcases hh a with e | ⟨vs, e⟩
    · exact .inr ⟨o, e.trans h⟩
    · rw [h] at e; cases e
mutual
theorem Is.off (hh : ∀ a, H' a = H a ∨ ∃ vs, H a = some (.lst vs)) : ∀ {d : D} {v : V}, imm d = true → Is K mg H d v → Is K mg H' d v
  | .non, _, _, h => h
  | .bl _, _, _, h => h
  | .int _, _, _, h => h
  | .str _, _, _, h => h
  | .tup ds, _, m, h => by
    obtain ⟨z, a, vs, e, t, l⟩ := h
    refine ⟨z, a, vs, e, ?_, IsL.off hh (ds := ds) (by simpa [imm] using m) l⟩
    rcases t with t | t
    · exact .inl (Rd.off hh t fun vs z => by cases z)
    · exact .inr t
  | .ins c ns ds, _, m, h => by
    obtain ⟨a, C, dx, vs, e, q, t, n, l⟩ := h
    refine ⟨a, C, dx, vs, e, q, ?_, n, IsL.off hh (ds := ds) (by simpa [imm] using m) l⟩
    rcases hh a with z | ⟨us, z⟩
    · exact z.trans t
    · rw [t] at z; cases z
  | .lst _, _, m, _ => by simp [imm] at m
  | .dic _ _, _, m, _ => by simp [imm] at m
  | .scr _, _, m, _ => by simp [imm] at m
  | .xc _ _ _ _, _, m, _ => by simp [imm] at m
theorem IsL.off (hh : ∀ a, H' a = H a ∨ ∃ vs, H a = some (.lst vs)) : ∀ {ds : List D} {vs : List V}, immL ds = true → IsL K mg H ds vs → IsL K mg H' ds vs
  | [], _, _, h => h
  | d :: ds, vs, m, h => by
    have m' : imm d = true ∧ immL ds = true := by simpa [immL] using m
    obtain ⟨v, r, e, i, l⟩ := h
    exact ⟨v, r, e, Is.off hh m'.1 i, IsL.off hh m'.2 l⟩
end
end
open Classical in
/-- the frozen heap without the lists that it has gained -/
noncomputable def offH (Hf Hf2 : Hp) : Hp := fun a => if ∃ vs, Hf2 a = some (.lst vs) then Hf a else Hf2 a
theorem offH_or {Hf Hf2 : Hp} (a : Addr) : offH Hf Hf2 a = Hf2 a ∨ ∃ vs, Hf2 a = some (.lst vs) := by
  by_cases c : ∃ vs, Hf2 a = some (.lst vs)
  · exact .inr c
  · exact .inl (if_neg c)
theorem Ste.off {bag : List Addr} {Hf Hf1 H Hf2 H2 : Hp} (sb : Sub Hf Hf1) (nw : ∀ a o, Hf1 a = some o → Hf a = some o ∨ ∃ vs, o = .lst vs) (e : Ste bag Hf1 H Hf2 H2) : Ste bag Hf H (offH Hf Hf2) H2 := by
  have s2 : Sub Hf Hf2 := sb.trans e.sub
  refine ⟨fun a o z => ?_, fun a o z => ?_, e.keep, e.dom, fun a o z => ?_⟩
  · unfold offH
    by_cases c : ∃ vs, Hf2 a = some (.lst vs)
    · rw [if_pos c]; exact z
    · rw [if_neg c]; exact s2 a o z
  · unfold offH at z
    by_cases c : ∃ vs, Hf2 a = some (.lst vs)
    · rw [if_pos c] at z; exact e.top a o (s2 a o z)
    · rw [if_neg c] at z; exact e.top a o z
  · unfold offH at z
    by_cases c : ∃ vs, Hf2 a = some (.lst vs)
    · rw [if_pos c] at z; exact .inl z
    · rw [if_neg c] at z
      rcases e.fresh a o z with h | h
      · rcases nw a o h with h | ⟨vs, h⟩
        · exact .inl h
        · exact absurd ⟨vs, h ▸ z⟩ c
      · exact .inr h
theorem Ste.forget {bag : List Addr} {Hf Hf1 H Hf' H' : Hp} (sb : Sub Hf Hf1) (e : Ste bag Hf1 H Hf' H') : Ste bag Hf H Hf H' := ⟨.refl _, (sb.trans e.sub).trans e.top, e.keep, e.dom, fun _ _ q => .inl q⟩
theorem dt_thaw {ds : List D} (i : Nat) (h : PT X c (tT X.K X.mg fx (G.set i (.im (.lst ds))) t)) (hG : G[i]? = some (.ow ds) := by rfl) : PT X c (tT X.K X.mg fx G (Mo.noex t)) := ptI h fun σ H Q ⟨Hf, s, st, w⟩ => by
  obtain ⟨Hf', sb, st'⟩ := st.freeze hG
  exact ⟨Hf', s, st', Mo.wp_mono (Mo.wp_noex w) (fun a s' k b Hf2 H2 e bg r => k b Hf H2 (e.forget sb) bg r) fun _ _ f => f.elim⟩
theorem de_thaw {e : Expr} {ds : List D} (i : Nat) (h : PE X e (tE X.K X.mg fx (G.set i (.im (.lst ds))) x)) (hG : G[i]? = some (.ow ds) := by rfl) : PE X e (tE X.K X.mg fx G (do let d ← Mo.noex x; ask (flatD d))) := peI h fun σ H Q ⟨Hf, s, st, w⟩ => by
  obtain ⟨Hf', sb, nw, st'⟩ := st.freeze2 hG
  refine ⟨Hf', s, st', Mo.wp_mono (Mo.wp_noex (Mo.wp_bind w)) (fun a s' k b Hf2 H2 e bg r => ?_) fun _ _ f => f.elim⟩
  have k' := Mo.wp_lift k
  unfold flatD at k'
  by_cases q : imm a = true
  · rw [if_pos q] at k'
    exact k' b (offH Hf Hf2) H2 (e.off sb nw) bg (r.off offH_or q)
  · rw [if_neg q] at k'; exact k'.elim
def negD : D → Option D
  | .int i => some (.int (-i))
  | _ => none
theorem de_neg (ha : PE X a (tE X.K X.mg fx G x)) : PE X (.UnaryOp .USub a pos) (tE X.K X.mg fx G (do let d ← x; ask (negD d))) := peI (pe_un un_neg ha) fun σ H Q ⟨Hf, s, h⟩ =>
  (h.bind.mono fun v H1 ⟨d, Hf1, s1, sb, r, h1⟩ => by
    obtain ⟨e, q0, q⟩ := h1.ask
    cases d with
    | int i =>
      cases q0
      cases r
      exact ⟨_, rfl, q _ Hf1 H1 (.refl h1.1.top) (is_int _)⟩
    | _ => cases q0).to
end
/-! ### a, b = x, y -/
section
variable {X : Cx} {fx : Fx} {m : Type → Type} [Mo m] {G : List Sl} {α β : Type} {kk : Nat} {a b : Expr} {rest : List Stmt} {ex : α → List Sl} {exb : β → List Sl} {pos px py pt pt2 : Pos} {n1 n2 : Str} {kt k2 : Nat}
theorem dss_parEE {x y : m D} {k : D → D → m (Fl α β)} (C : Cok X fx kk) (i j : Nat) (ha : PE X a (tE X.K X.mg fx G x)) (hb : PE X b (tE X.K X.mg fx G y)) (hr : ∀ d e, PSs X rest (tS X.K X.mg fx ((G.set i (.im d)).set j (.im e)) ex exb (k d e)))
    (hij : i ≠ j := by decide) (hi : X.N[i]? = some n1 := by rfl) (hj : X.N[j]? = some n2 := by rfl) (hx : X.env.scope.names.lookup n1 = some .local := by rfl) (hy : X.env.scope.names.lookup n2 = some .local := by rfl)
    (hw : swappedStores [.Tuple [.Name n1 px, .Name n2 py] kt pt] (.Tuple [a, b] k2 pt2) X.env = pure (some [n1, n2]) := by rfl)
    (hs : swapsWithSole [.Tuple [.Name n1 px, .Name n2 py] kt pt] (.Tuple [a, b] k2 pt2) pos.line X.env = pure false := by rfl)
    (hsa : starEach [a, b] X.env = (false, eval a X.env) :: starEach [b] X.env := by rfl) (hsb : starEach [b] X.env = (false, eval b X.env) :: starEach [] X.env := by rfl) (hg : GxOk fx G := by first | exact True.intro | repeat' (first | exact True.intro | exact Or.inl rfl | exact Or.inr rfl | refine And.intro ?_ ?_)) :
    PSs X (.Assign [.Tuple [.Name n1 px, .Name n2 py] kt pt] (.Tuple [a, b] k2 pt2) pos :: rest) (tS X.K X.mg fx G ex exb (do let d ← x; let e ← y; k d e)) :=
  pssI (pss_cons (ps_par C.calm C.nd hi hj hij hx hy (pa_cons ha (pa_cons hb pa_nil hsb) hsa) hw hs) (pss_ex (ι := D × D) fun r => hr r.1 r.2)) fun De σ H ⟨Hf, s, h⟩ =>
    ((h.bind hg).mono fun v H1 ⟨d, Hf1, s1, sb, r, h1⟩ => ((h1.bind hg).mono fun v2 H2 ⟨e, Hf2, s2, sb2, r2, h2⟩ => ⟨v, v2, rfl, (d, e), Hf2, s2, (h2.1.set (r.mono sb2)).set r2, h2.2⟩).to).to
end
end DL
namespace DL
open PySem L2
theorem hu65 {k : Nat} {A : Around} (r : Room k A) : A.units + 65 < cLine := by have := r.un; omega
/-- a global constant is a datum -/
def GlobIs (K : PySem.W.Frag) (mg : Str → Option Value) (n : Str) (d : D) : Prop := ∃ u v, mg n = some u ∧ RelV v u ∧ Is K mg (fun _ => none) d v
theorem de_globI {X : Cx} {fx : Fx} {m : Type → Type} [Mo m] {G : List Sl} {n : Str} {d : D} {pos : Pos} (hg : Gl X n) (h : GlobIs X.K X.mg n d) (hd : (n == ("__debug__" : Str)) = false := by decide) : PE X (.Name n pos) (tE X.K X.mg fx G (pure d : m D)) := by
  obtain ⟨u, v, hm, r, i⟩ := h
  exact de_glob hg hm r i hd
theorem globS {K : PySem.W.Frag} {mg : Str → Option Value} {n : Str} {t : Str} {tk : Tok} {l : List Nat} (h : mg n = some (.str t tk)) (ht : t = ⟨l.toArray⟩) (hl : l.length ≤ 1000) : GlobIs K mg n (.str l) :=
  ⟨_, .str t, h, ⟨tk, rfl⟩, by rw [Is]; exact ⟨by rw [ht], Nat.le_of_lt (small1000 hl)⟩⟩
theorem globI {K : PySem.W.Frag} {mg : Str → Option Value} {n : Str} {i : Int} {tk : Tok} (h : mg n = some (.int i tk)) : GlobIs K mg n (.int i) := ⟨_, .int i, h, ⟨tk, rfl⟩, is_int _⟩
section
variable {X : Cx}
def powC : D → D → Option D
  | .int i, .int j => if 0 ≤ j ∧ j ≤ 100 ∧ i.natAbs < 2 ^ 64 then some (.int (i ^ j.toNat)) else none
  | _, _ => none
theorem od_powC : OpR X (binaryOp .Pow) (rD2 X.K X.mg powC) := by
  intro pins s σ H x y v u Q I rx ry h
  obtain ⟨Hf, dx, dy, d, sb, ix, iy, e, q⟩ := h
  unfold powC at e
  split at e
  · split at e
    · rename_i hc
      cases e; cases ix; cases iy
      exact op_pow pins s σ H _ _ v u Q I rx ry ⟨_, _, rfl, rfl, ⟨hc.1, by omega, hc.2.2⟩, q _ Hf H (.refl sb) (is_int _)⟩
    · cases e
  · cases e
end
/-! arguments -/
def apR1 (f : D → R D) : List D → R D
  | [a] => f a
  | _ => .stuck
def apR2 (f : D → D → R D) : List D → R D
  | [a, b] => f a b
  | _ => .stuck
def apM1 (f : D → M D) : List D → M D
  | [a] => f a
  | _ => fun _ => .stuck
theorem apR1_len (f) : ∀ ds : List D, apR1 f ds ≠ .stuck → ds.length = 1 := fun ds h => by
  unfold apR1 at h
  split at h <;> first | rfl | exact absurd rfl h
theorem apR2_len (f) : ∀ ds : List D, apR2 f ds ≠ .stuck → ds.length = 2 := fun ds h => by
  unfold apR2 at h
  split at h <;> first | rfl | exact absurd rfl h
theorem apM1_len (f) : ∀ (ds : List D) s, apM1 f ds s ≠ .stuck → ds.length = 1 := fun ds s h => by
  rcases ds with _ | ⟨a, ds⟩
  · exact absurd rfl h
  · rcases ds with _ | ⟨_, ds⟩
    · rfl
    · exact absurd rfl h
end DL
/-! ### the built-in bases of own error classes -/
namespace PySem
namespace OwnX
open PySem.W PySem.Calls PyProof.Rows PySem.HandSPX Builtin Builtin.ObjectAttr
inductive XB where
  | ve | le | oe | re
def XB.tail : XB → List Value
  | .ve => [.type "ValueError", .type "Exception", .type "BaseException", .type "object"]
  | .le => [.type "LookupError", .type "Exception", .type "BaseException", .type "object"]
  | .oe => [.type "OverflowError", .type "ArithmeticError", .type "Exception", .type "BaseException", .type "object"]
  | .re => [.type "RuntimeError", .type "Exception", .type "BaseException", .type "object"]
def XB.nw : XB → String
  | .ve => "ValueError.__new__"
  | .le => "LookupError.__new__"
  | .oe => "OverflowError.__new__"
  | .re => "RuntimeError.__new__"
def XB.nm : XB → String
  | .ve => "ValueError"
  | .le => "LookupError"
  | .oe => "OverflowError"
  | .re => "RuntimeError"
def XB.it : XB → String
  | .ve => "ValueError.__init__"
  | .le => "LookupError.__init__"
  | .oe => "OverflowError.__init__"
  | .re => "RuntimeError.__init__"
theorem XB.base : ∀ b : XB, ExcBaseFacts b.nm b.nw b.it b.tail
  | .ve => F.excBase_ValueError
  | .le => F.excBase_LookupError
  | .oe => F.excBase_OverflowError
  | .re => F.excBase_RuntimeError
theorem XB.pass : ∀ (b : XB) (self : Value), refuseLoop self "__setattr__" b.tail = pure ()
  | .ve, self => F.store_ValueError.passes self
  | .le, self => F.store_LookupError.passes self
  | .oe, self => F.store_OverflowError.passes self
  | .re, self => F.store_RuntimeError.passes self
/-- own classes ahead of a base's row -/
def overB (b : XB) : List Value → Bool
  | .ref _ :: r => overB b r
  | l => l == b.tail
theorem overB_ind {b : XB} {P : List Value → Prop} (h0 : P b.tail) (h1 : ∀ c r, P r → P (.ref c :: r)) : ∀ l, overB b l = true → P l := by
  intro l
  induction l with
  | nil => intro e; rw [beq_iff_eq.mp (show (([] : List Value) == b.tail) = true from e)]; exact h0
  | cons a r ih =>
    cases a with
    | ref c => exact fun e => h1 c r (ih e)
    | _ => intro e; rw [beq_iff_eq.mp (show (_ == b.tail) = true from e)]; exact h0
theorem overB_pass {b : XB} (self : Value) (l : List Value) (h : overB b l = true) : refuseLoop self "__setattr__" l = pure () :=
  overB_ind (P := fun l => refuseLoop self "__setattr__" l = pure ()) (b.pass self) (fun c r q => by rw [refuseLoop_ref]; exact q) l h
theorem overB_has {b : XB} (X : String) (l : List Value) (h : overB b l = true) : l.contains (.type X) = b.tail.contains (.type X) :=
  overB_ind (P := fun l => l.contains (.type X) = b.tail.contains (.type X)) rfl (fun c r q => by rw [List.contains_cons, q]; rfl) l h
theorem overB_obj {b : XB} (l : List Value) (h : overB b l = true) : l.contains (.type "object") = true :=
  (overB_has "object" l h).trans (by cases b <;> decide +kernel)
theorem overB_ne {b : XB} (l : List Value) (h : overB b l = true) : l.isEmpty = false :=
  overB_ind (P := fun l => l.isEmpty = false) (by cases b <;> rfl) (fun _ _ _ => rfl) l h
/-- a field set on such an error that has no dict yet -/
theorem osaB {b : XB} {prog : Program} {w : World} {A : Around} {R : Result → Shared → Prop} {s : Shared} {K : Frag} {f : Str} {tk : Tok} {v : Value} {x C : Addr} {fv : Array Value} {cd : ClassData}
    (X : K.In s.heap) (hx : s.heap.get? x = some { cls := .ref C, data := .fields fv }) (hcd : clsIn K C = some cd) (hm : overB b cd.mro = true) (hh : cd.hasDict = true) (hn : findIn K (.ref C) f = some none)
    (fin : ∀ h' tk' dx, (∀ a o, a ≠ x → s.heap.get? a = some o → h'.get? a = some o) → s.heap.objs.size ≤ dx → dx ≠ x → h'.get? x = some { cls := .ref C, dict := some dx, data := .fields fv } →
      h'.Ns1 dx (fun y => if y = f then some v else none) → R (.ok (.ret .none)) { s with heap := h', toks := tk' }) :
    codeAny (model prog w) A (.call (.builtin "object.__setattr__") ⟨[.ref x, .str f tk, v], []⟩) R s := by
  obtain ⟨hp, g, dr, t, os⟩ := s
  have I : InstAt hp x { cls := .ref C, data := .fields fv } C none := ⟨hx, rfl, rfl, trivial⟩
  have lt : x < hp.objs.size := Heap.lt_size hx
  have io : Looks (model prog w) hp (isInstance (.ref x) (.type "object")) true :=
    I.type.andThen (looks_mroIn X (by unfold mroIn; rw [hcd, Option.bind_some, if_neg (by rw [overB_ne _ hm]; decide), overB_obj _ hm]))
  have SF := F.store_object
  refine codeAny_call_builtin SF.slot.plain SF.entry
    (@check_slot (model prog w) _ _ ⟨hp, g, dr, t, os⟩ "object.__setattr__" "object" "__setattr__" (.ref x) [.str f tk, v] [] _ SF.kind SF.split io (SF.args (.ref x) (.str f tk) v) ?_)
  have lm : Looks (model prog w) hp (mroOf (.ref C)) cd.mro := (looks_clsIn X hcd).andThen .now
  have ls : Looks (model prog w) hp (storeTaker? none) none := .now
  have lc : Looks (model prog w) hp (classData C) cd := looks_clsIn X hcd
  rw [osa_eq, refuse_eq]
  refine wpAny_bind (wpAny_bind (I.type.at (wpAny_bind (lm.at ?_))))
  rw [overB_pass _ _ hm]
  refine wpAny_pure (wpAny_bind (I.type.at (wpAny_bind ((looks_findIn X hn).at (wpAny_bind (ls.at ?_))))))
  show wpAny _ _ (storeInOwnDict (.ref x) (.ref C) (.str f tk) f v false) _ _ _
  cases cd with
  | mk nm bs mro ns qn hd sn sb ab col del =>
  cases (show hd = true from hh)
  unfold storeInOwnDict ownDictForStores
  repeat (first
    | with_reducible refine store_in_new ?_ ?_
    | with_reducible refine wpAny_loadPart_at hx ?_
    | with_reducible refine lc.at ?_
    | wp_step)
  · exact ⟨_, #[], _, (Heap.get?_update_ne _ _ _ _ (Nat.ne_of_gt lt)).trans (Heap.get?_push_at rfl rfl), rfl, fun e he => absurd he (by simp), fun _ => rfl⟩
  · intro h' tk' hn' hs
    have hx1 : (hp.push { cls := .type "dict", data := .dict #[] }).get? x = some { cls := .ref C, data := .fields fv } := Heap.get?_push_of_some _ hx
    refine fin h' tk' hp.objs.size (fun a o ha ho => ?_) (Nat.le_refl _) (Nat.ne_of_gt lt) ?_ hn'
    · rw [hs.2 a (Nat.ne_of_lt (Heap.lt_size ho)), Heap.get?_update_ne _ _ _ _ ha]
      exact Heap.get?_push_of_some _ ho
    · rw [hs.2 x (Nat.ne_of_lt lt)]
      exact Heap.get?_update_self _ hx1 rfl
end OwnX
end PySem
namespace PySem
namespace OwnX
open PySem.W PySem.Calls PyProof.Rows PySem.HandSPX
/-! ### the text of __init__ -/
def iA (f : Str) (p1 p2 : Pos) : Arguments := { posonlyargs := [], args := [{ arg := "self", annotation := none, pos := p1 }, { arg := f, annotation := none, pos := p2 }], vararg := none, kwonlyargs := [], kw_defaults := [], kwarg := none, defaults := [] }
def iB (f : Str) (q1 q2 q3 q4 : Pos) : List Stmt := [.Assign [.Attribute (.Name "self" q1) f q2] (.Name f q3) q4]
def iS (f : Str) : Scope := { kind := .function, names := [(PySem.Str.ofString "self", .local), (f, .local)], isGenerator := false, isCoroutine := false, more := [] }
theorem lookup_s (f : Str) : (iS f).names.lookup ("self" : Str) = some .local := by
  show List.lookup ("self" : Str) [(PySem.Str.ofString "self", NameKind.local), (f, .local)] = _
  simp [List.lookup]
theorem lookup_f {f : Str} (h : (f == ("self" : Str)) = false) : (iS f).names.lookup f = some .local := by
  have h' : (f == PySem.Str.ofString "self") = false := h
  show List.lookup f [(PySem.Str.ofString "self", NameKind.local), (f, .local)] = _
  simp [List.lookup, h']
theorem kinds2 {f : Str} (h : (f == ("self" : Str)) = false) {u v : Value} : ([(("self" : Str), u), (f, v)].all fun y => (iS f).names.lookup y.1 == some .local || (iS f).names.lookup y.1 == some .cell) = true := by
  simp only [List.all_cons, List.all_nil, lookup_s, lookup_f h]
  rfl
theorem kind_f {f : Str} (h : (f == ("self" : Str)) = false) {name : Str} {L a : Addr} {cd : Value} : (envOfC name (iS f) L a cd).kindOf f = some .local := lookup_f h
theorem kind_s {f : Str} {name : Str} {L a : Addr} {cd : Value} : (envOfC name (iS f) L a cd).kindOf ("self" : Str) = some .local := lookup_s f
theorem binds2_f {f : Str} (h : (f == ("self" : Str)) = false) {name : Str} {L a : Addr} {cd u v : Value} : bindL (envOfC name (iS f) L a cd).kindOf [(("self" : Str), u), (f, v)] (fun _ => none) f = some v := by
  simp [bindL, kind_f h, kind_s]
theorem binds2_s {f : Str} (h : (f == ("self" : Str)) = false) {name : Str} {L a : Addr} {cd u v : Value} : bindL (envOfC name (iS f) L a cd).kindOf [(("self" : Str), u), (f, v)] (fun _ => none) ("self" : Str) = some u := by
  have hne : ¬ (("self" : Str) = f) := fun z => by rw [← z] at h; simp at h
  simp [bindL, kind_f h, kind_s, hne]
/-- what the written part says of Low, at C, and of its __init__, at fI -/
structure OwnTxt (K : Frag) (mg : Str → Option Value) (cn f qn : Str) (C fI : Addr) : Prop where
  fs : (f == ("self" : Str)) = false
  fb : (f == ("__debug__" : Str)) = false
  bind : ∀ (doc pm : Value) (an : Option Addr) (cdv ct u v : Value) (p1 p2 q1 q2 q3 q4 : Pos), bindArgs (fnOf "__init__" qn (iA f p1 p2) (iB f q1 q2 q3 q4) (iS f) .none .none doc pm an cdv ct) ⟨[u, v], []⟩ = pure [(("self" : Str), u), (f, v)]
  gC : mg cn = some (.ref C)
  cls : ∃ (b : XB) (nm q : Str) (N : Addr) (bs bm : List Value) (sn : List Str) (sub : List Value) (ab : Bool) (col : Option Bool) (dd : Option Addr) (k0 k1 k2 k3 k5 : Option Value), K.lookup C = some (excClassObj nm q C N bs bm true sn sub ab col dd k0 k1 k2 k3 k5 b.nw) ∧ overB b bm = true
  sa : findIn K (.ref C) "__setattr__" = some (some (.builtin "object.__setattr__"))
  ga : findIn K (.ref C) "__getattribute__" = some (some (.builtin "BaseException.__getattribute__"))
  gg : findIn K (.ref C) "__getattr__" = some none
  noN : findIn K (.ref C) f = some none
  iC : findIn K (.ref C) "__init__" = some (some (.ref fI))
  tC : typeIn K (.ref fI) = some (.type "function")
  kC : keepIn K (.ref C) = true
  exC : subIn K (.ref C) (.type "BaseException") = some true
  tyC : typeIn K (.ref C) = some (.type "type")
  hdC : hasDictIn K C = true
  te : exmOne K (.ref C) (.ref C) = some true
  fn : ∃ (oc : Value) (od : Option Addr) (doc pm : Value) (an : Option Addr) (cdv ct : Value) (osl : Array (Option Value)) (p1 p2 q1 q2 q3 q4 : Pos),
    K.lookup fI = some ⟨oc, od, .func (fnOf "__init__" qn (iA f p1 p2) (iB f q1 q2 q3 q4) (iS f) .none .none doc pm an cdv ct), osl⟩ ∧ codeIn K cdv qn = true
theorem one_size (v : Value) : [v].length ≤ sizeLine := by
  rw [sizeLine_eq]
  exact (by decide : 1 ≤ 16777216)
theorem ldC {M : Model} {s : Shared} {name : Str} {scope : Scope} {L a : Addr} {cd : Value} {m : Str → Option Value} {x : Str} {pos : Pos} {v : Value} {Q : Value → Shared → Prop} {A : Around} {E : Value → Shared → Prop} (hn : s.heap.Ns L m) (hv : m x = some v) (h : Q v s)
    (hk : scope.kind = .function := by rfl) (hl : (envOfC name scope L a cd).kindOf x = some .local := by rfl) (hd : (x == ("__debug__" : Str)) = false := by decide) :
    wpAny M A (eval (.Name x pos) (envOfC name scope L a cd)) Q E s := wpAny_Name (wpAny_loadName_local hk hl hn hv h) hd
/-- what __init__ leaves of a fresh exception at x -/
structure InitEnd (f : Str) (h h' : Heap) (x C dx t1 : Addr) (v : Value) : Prop where
  keep : ∀ b o, b ≠ x → h.get? b = some o → h'.get? b = some o
  obj : h'.get? x = some { cls := .ref C, dict := some dx, data := .fields #[.ref t1, .none, .none, .none, .bool false, .none] }
  dbig : h.objs.size ≤ dx
  dne : dx ≠ x
  ns : h'.Ns1 dx (fun y => if y = f then some v else none)
/-- a made Low -/
structure OwnMade (f : Str) (h h' : Heap) (e C d : Addr) (v : Value) : Prop where
  keep : ∀ b o, h.get? b = some o → h'.get? b = some o
  new : h.objs.size ≤ e
  obj : ∃ oe vs, h'.get? e = some oe ∧ oe.cls = .ref C ∧ oe.dict = some d ∧ oe.data = .fields vs ∧ vs[1]? = some .none ∧ vs[2]? = some .none ∧ 4 < vs.size
  dbig : h.objs.size ≤ d
  dne : d ≠ e
  ns : h'.Ns1 d (fun y => if y = f then some v else none)
section
variable {prog : Program} {w : World} {A : Around} {E : Value → Shared → Prop} {R : Result → Shared → Prop} {s : Shared} {K : Frag} {mg : Str → Option Value} {cn f qn : Str} {C fI : Addr}
theorem low_init (T : OwnTxt K mg cn f qn C fI) {x t0 : Addr} {v : Value} (X : K.In s.heap) (hlim : s.heap.NoLimit) (hx : s.heap.get? x = some (excO C t0)) (hnx : K.lookup x = none) (hroom : A.depth < recursionLimit)
    (hq : ∀ h' tk dx, InitEnd f s.heap h' x C dx t0 v → R (.ok (.ret .none)) { s with heap := h', toks := tk }) :
    codeAny (model prog w) A (.call (.ref fI) ⟨[.ref x, v], []⟩) R s := by
  obtain ⟨oc, od, doc, pm, an, cdv, ct, osl, p1, p2, q1, q2, q3, q4, ho, hcd⟩ := T.fn
  obtain ⟨b, nm, q, N, bs, bm, sn, sub, ab, col, dd, k0, k1, k2, k3, k5, hC, hbm⟩ := T.cls
  have hcl : clsIn K C = some { name := nm, bases := bs, mro := .ref C :: bm, ns := N, qualname := q, hasDict := true, slotNames := sn, subclasses := sub, abstract := ab, collection := col, hasDel := false } := by unfold clsIn; rw [hC] <;> rfl
  refine Att.call_fn (binds := [(("self" : Str), .ref x), (f, v)]) X hlim ho hcd hroom (BindsTo.of_eq (T.bind ..)) (kinds2 T.fs) (fun s₁ IC => ?_) rfl rfl rfl
  obtain ⟨h₁, tk₁, rfl⟩ := IC.toInCall.same
  have k : ∀ b o, s.heap.get? b = some o → h₁.get? b = some o := IC.toInCall.keep
  have hn := IC.toInCall.ns
  have hxL : s.heap.objs.size ≠ x := Nat.ne_of_gt (Heap.lt_size hx)
  have X₁ : K.In h₁ := X.keeps k
  have hx₁ := k _ _ hx
  -- self.by = by
  show wpAny _ _ (execs _ _) _ _ _
  refine wpAny_execs_cons (plainObj_wpAny_Assign_Attribute ?_)
  refine ldC (v := v) hn (binds2_f T.fs) (ldC (v := .ref x) hn (binds2_s T.fs) ?_) rfl (kind_f T.fs) T.fb
  refine set_plain X₁ (ox := excO C t0) (od := none) ⟨hx₁, rfl, rfl, trivial⟩ T.sa ?_
  refine osaB (b := b) X₁ hx₁ hcl (show overB b (.ref C :: bm) = true from hbm) rfl T.noN (fun h₃ tk₃ dx k₃ dn dne hx₃ hn₃ => ?_)
  show wpAny _ _ (execs _ _) _ _ _
  have z : s.heap.objs.size < h₁.objs.size := hn.lt
  exact wpAny_execs_nil (hq h₃ tk₃ dx ⟨fun b o hb e => k₃ b o hb (k b o e), hx₃, Nat.le_of_lt (Nat.lt_of_lt_of_le z dn), dne, hn₃⟩)
theorem low_made (T : OwnTxt K mg cn f qn C fI) {v : Value} (X : K.In s.heap) (hlim : s.heap.NoLimit) (hroom : A.depth + 1 < recursionLimit)
    (hq : ∀ h' tk e d, OwnMade f s.heap h' e C d v → R (.ok (.ret (.ref e))) { s with heap := h', toks := tk }) :
    codeAny (model prog w) A (.call (.ref C) ⟨[v], []⟩) R s := by
  obtain ⟨b, nm, q, N, bs, bm, sn, sub, ab, col, dd, k0, k1, k2, k3, k5, hC, hbm⟩ := T.cls
  obtain ⟨hp, g, dr, tk, os⟩ := s
  have k : ∀ b o, hp.get? b = some o → ((hp.push (kdv_tup [v])).push (excO C hp.objs.size)).get? b = some o := fun b o e => Heap.get?_push_of_some _ (Heap.get?_push_of_some _ e)
  have hget : ((hp.push (kdv_tup [v])).push (excO C hp.objs.size)).get? (hp.objs.size + 1) = some (excO C hp.objs.size) := by heap_get
  have hnx : K.lookup (hp.objs.size + 1) = none := by
    cases e : K.lookup (hp.objs.size + 1) with
    | none => rfl
    | some o =>
      have z : hp.get? (hp.objs.size + 1) = some o := X _ _ e
      exact absurd (Nat.lt_of_succ_lt (Heap.lt_size z)) (Nat.lt_irrefl _)
  refine call_own b.base (fun X => overB_has X bm hbm) (X _ _ hC) (looks_findIn X T.iC) (fun self => bind_fn X self T.tC) (one_size v) ?_
  refine low_init (s := ⟨(hp.push (kdv_tup [v])).push (excO C hp.objs.size), g, dr, tk, os⟩) T (X.keeps k) (hlim.keeps k) hget hnx ?_ fun h' tk' dx ⟨k', hx, dn, dne, hns⟩ => ?_
  · show A.depth + 1 < recursionLimit
    exact hroom
  · have old : ∀ b o, hp.get? b = some o → h'.get? b = some o := fun b o e => k' b o (Nat.ne_of_lt (Nat.lt_succ_of_lt (Heap.lt_size e))) (k b o e)
    have z : hp.objs.size + 1 + 1 ≤ dx := by
      first
        | (simpa only [Heap.size_push] using dn)
        | exact dn
        | (have q := dn; rw [Heap.size_push, Heap.size_push] at q; exact q)
    exact ⟨rfl, hq h' tk' (hp.objs.size + 1) dx ⟨old, Nat.le_succ _, ⟨_, _, hx, rfl, rfl, rfl, rfl, rfl, (by decide : 4 < 6)⟩, Nat.le_trans (Nat.le_trans (Nat.le_succ _) (Nat.le_succ _)) z, dne, hns⟩⟩
end
end OwnX
end PySem
namespace L2
open PySem PySem.Spec PyProof.Rows
theorem relO_low {v : V} {v' : Value} (r : RelV v v') (g f : Str) : RelO (List.lookup f [(g, v)]) (if f = g then some v' else none) := by
  by_cases hw : f = g
  · subst hw
    rw [if_pos rfl]
    have q : List.lookup f [(f, v)] = some v := by simp [List.lookup]
    rw [q]
    exact r
  · rw [if_neg hw]
    have qw : (f == g) = false := by simpa using hw
    have q2 : List.lookup f [(g, v)] = none := by simp [List.lookup, qw]
    rw [q2]
    trivial
section
variable {X : Cx} {cn f qn : Str} {C fI : Addr}
/-- Low(e) -/
def tMkLow (f : Str) (C : Addr) (ta : TA) : St → Hp → XK → Prop := fun σ H Q => ta σ H fun vs H1 => ∃ v, vs = [v] ∧ ∀ d, H1 d = none → Q (.ref C) (some d) (upd H1 d (.xd [(f, v)]))
theorem pmk_low {a : Expr} {ta : TA} {p pos : Pos} {k : Nat} (T : PySem.OwnX.OwnTxt X.K X.mg cn f qn C fI) (hr : Room k X.A) (ha : PA X [a] ta) (hdb : (cn == ("__debug__" : Str)) = false := by decide) (hg : Gl X cn := by rfl)
    (he : starEach (a :: []) X.env = (false, eval a X.env) :: starEach [] X.env := by rfl) (hpl : (backTo pos (starEach [] X.env)).any (·.1) = false := by rfl) :
    L2N.PMk X (.Call (.Name cn p) [a] [] pos) (tMkLow f C ta) := by
  intro pins s σ H Q I h
  refine wpAny_Call_Name_kw (ld_glob I hg T.gC ?_ (hd := hdb))
  refine PySem.W.callWith_K (h₀ := X.base) I.ok.mod.kin T.kC (thn (ha.run pos pins s σ H _ I h) fun us s1 hh => ?_) he hpl
  obtain ⟨vs, H1, I1, r1, v, ev, q1⟩ := hh
  subst ev
  refine ⟨I1.kIn, ?_⟩
  cases r1 with
  | cons rv rn =>
    rename_i v' us'
    cases rn
    show wpAny _ _ (call (.ref C) [v']) _ _ _
    have hlim := I1.nolimit
    obtain ⟨hp, g, dr, tk, os⟩ := s1
    refine wpAny_call (PySem.OwnX.low_made T I1.kIn hlim (by have := hr.dp; omega) fun h' tk' e d M => ?_)
    show L2N.MkP X pins σ Q (.ref e) ⟨h', g, dr, tk', os⟩
    obtain ⟨oe, fv, hoe, hc, hd, hdat, h1, h2, h4⟩ := M.obj
    have hns := M.ns
    obtain ⟨G', g1, g2⟩ := restrict h' fun b => decide (b ≠ e)
    have gk : ∀ b, b ≠ e → G'.get? b = h'.get? b := fun b hb => g1 b (decide_eq_true hb)
    have ge : G'.get? e = none := g2 e (by simp)
    have old : ∀ b o, hp.get? b = some o → G'.get? b = some o := fun b o q => (gk b (Nat.ne_of_lt (Nat.lt_of_lt_of_le (Heap.lt_size q) M.new))).trans (M.keep b o q)
    have ob : ObjOk X.prog X.w (upd H1 d (.xd [(f, v)])) G' d (.xd [(f, v)]) :=
      ⟨_, hns.at (fun o q => (gk d M.dne).trans q), fun f => relO_low rv _ f⟩
    have J : Inv X pins σ (upd H1 d (.xd [(f, v)])) ⟨G', g, dr, tk', os⟩ := I1.laid (t' := tk') old M.dbig ob
    refine ⟨e, oe, fv, ⟨G', g, dr, tk', os⟩, _, .ref C, some d, rfl, J, fun b o q => ?_, ge, hoe, ⟨hc, hd, fun vs z => by rw [hdat] at z; cases z; exact h2⟩, hdat, h1, ?_, rfl, I1.bare, raises_own T.exC T.tyC, q1 d (I1.hok.fresh M.dbig)⟩
    · by_cases hb : b = e
      · have q' : G'.get? b = some o := q
        rw [hb, ge] at q'; cases q'
      · exact (gk b hb).symm.trans q
    · rw [upd_ne (Ne.symm M.dne)]
      exact I1.hok.fresh M.new
/-- raise Low(e) -/
def tRaiseLow (f : Str) (C : Addr) (W : WX) (ta : TA) : TS := fun _ σ H => tMkLow f C ta σ H fun cls d H' => W cls d σ H'
theorem ps_raiseLow {a : Expr} {ta : TA} {W : WX} {p pos pos2 : Pos} {k : Nat} (hc : X.calm = true) (T : PySem.OwnX.OwnTxt X.K X.mg cn f qn C fI) (hr : Room k X.A) (tk : L2N.Takes X W) (ha : PA X [a] ta) (hdb : (cn == ("__debug__" : Str)) = false := by decide) (hg : Gl X cn := by rfl)
    (he : starEach (a :: []) X.env = (false, eval a X.env) :: starEach [] X.env := by rfl) (hpl : (backTo pos (starEach [] X.env)).any (·.1) = false := by rfl) :
    PS X (.Raise (some (.Call (.Name cn p) [a] [] pos)) none pos2) (tRaiseLow f C W ta) := L2N.ps_raise hc tk (pmk_low T hr ha hdb hg he hpl)
/-- low.by, low the exception that the suite holds (at a; its class cls, its dict d) -/
def tByLow (f : Str) (C : Addr) (a : Addr) (cls : Value) (d : Option Addr) (te : TE) : TE := fun σ H Q => te σ H fun x H1 => x = .ref a ∧ cls = .ref C ∧ ∃ (dd : Addr) (v : V), d = some dd ∧ H1 dd = some (.xd [(f, v)]) ∧ Q v H1
theorem pe_byLow {a : Addr} {oe : Obj} {cls : Value} {d : Option Addr} {pn : List (Addr × Obj)} {e : Expr} {te : TE} {pos : Pos} (T : PySem.OwnX.OwnTxt X.K X.mg cn f qn C fI) (hz : Zc cls d oe) (hf : ∃ vs, oe.data = .fields vs) (he : PE (X.suite a ((a, oe) :: pn)) e te)
    (hb : attributeBase e f X.env (eval e X.env) = eval e X.env := by rfl) :
    PE (X.suite a ((a, oe) :: pn)) (.Attribute e f pos) (tByLow f C a cls d te) := by
  refine ⟨fun pins s σ H Q I h => ?_⟩
  refine attr_of hb (thn (he.run pins s σ H _ I h) fun u s1 hh => ?_)
  obtain ⟨x, H1, I1, rx, ex, ec, dd, v, ed, ea, q⟩ := hh
  subst ex
  obtain rfl : u = Value.ref a := rx
  subst ec
  subst ed
  obtain ⟨ha, _⟩ := I1.pin (a, oe) (List.mem_append_left _ List.mem_cons_self)
  obtain ⟨vs, hd⟩ := hf
  have hx : ObjOk X.prog X.w H1 s1.heap dd (.xd [(f, v)]) := I1.hok dd _ ea
  obtain ⟨mA, hns, hr⟩ := hx
  obtain ⟨od, ho, hl⟩ := lookIn_ns hns
  have l : List.lookup f [(f, v)] = some v := by simp [List.lookup]
  obtain ⟨u, hu, ru⟩ := RelO.some_of (v := v) (o := mA f) (by rw [← l]; exact hr f)
  have J : PySem.W.InstAt s1.heap a oe C (some od) := ⟨ha, hz.1, by unfold PySem.W.notCls; rw [hd] <;> rfl, by rw [hz.2]; exact ho⟩
  exact HandSPX.exc_get I1.kIn J T.ga T.gg T.exC (PySem.W.findObj_own T.hdC T.noN rfl (by rw [hl, hu])) (handed_of ru) ⟨v, H1, I1.tok _, ru, q⟩
end
end L2
/-! ### a tuple, backwards -/
namespace DL
open PySem PySem.Spec PyProof.Rows L2 HT
/-! rules -/
end DL
namespace DL
open PySem L2
/-! ### a, b = x, y: one a datum, one an own list -/
/-! ### raise of an own error -/
section
variable {X : Cx} {fx : Fx} {m : Type → Type} [Mo m] {G : List Sl} {α β : Type} {kk : Nat} {a : Expr} {rest : List Stmt} {ex : α → List Sl} {exb : β → List Sl} {p pos pos2 : Pos} {cn f qn : Str} {C fI : Addr}
def raiseX {m : Type → Type} [Mo m] {γ : Type} (c f : Str) (d : D) : m γ := Mo.lift (R.ex ⟨c, f, d⟩)
theorem dss_raise {x : m D} (Ck : Cok X fx kk) (T : PySem.OwnX.OwnTxt X.K X.mg cn f qn C fI) (ha : PE X a (tE X.K X.mg fx G x)) (hdb : (cn == ("__debug__" : Str)) = false := by decide) (hg : Gl X cn := by rfl)
    (he : starEach (a :: []) X.env = (false, eval a X.env) :: starEach [] X.env := by rfl) (hpl : (backTo pos (starEach [] X.env)).any (·.1) = false := by rfl) (hx : GxOk fx G := by first | exact True.intro | repeat' (first | exact True.intro | exact Or.inl rfl | exact Or.inr rfl | refine And.intro ?_ ?_)) :
    PSs X (.Raise (some (.Call (.Name cn p) [a] [] pos)) none pos2 :: rest) (tS X.K X.mg fx G ex exb (do let d ← x; raiseX cn f d : m (Fl α β))) :=
  pssI (pss_cons (ps_raiseLow Ck.calm T Ck.rm Ck.tk.new (pa_cons ha pa_nil he) hdb hg he hpl) pss_never) fun De σ H ⟨Hf, s, h⟩ =>
    ((h.bind hx).mono fun v H1 ⟨d, Hf1, s1, sb, r, h1⟩ => by
      refine ⟨v, rfl, fun p hp => ?_⟩
      have w := Mo.wp_lift h1.2
      have e1 : Ste fx.bag Hf1 H1 (upd Hf1 p (.xd [(f, v)])) (upd H1 p (.xd [(f, v)])) := .new h1.1.top hp
      have nb := (h1.1.new0 hp).2.1
      have st2 := h1.1.step e1 (h1.1.bag.upd nb)
      exact exs_ex hx w _ _ _ _ st2 ⟨C, p, v, T.gC, rfl, rfl, upd_same, r.mono e1.sub⟩).to
end
/-- an error of the class at S is what «except S» names -/
theorem exm_self {K : PySem.W.Frag} {S : Addr} (h1 : PySem.W.subIn K (.ref S) (.type "BaseException") = some true) (h2 : PySem.W.isClsIn K S = true) (h3 : PySem.W.typeIn K (.ref S) = some (.type "type")) (h4 : PySem.W.subIn K (.ref S) (.ref S) = some true) :
    PySem.W.exmOne K (.ref S) (.ref S) = some true := by
  have e1 : (PySem.W.subIn K (.ref S) (.type "BaseException") == some true) = true := by rw [h1] <;> rfl
  have e2 : ((PySem.W.clsIn K S).isSome && PySem.W.typeIn K (.ref S) == some (.type "type")) = true := by
    have h2' : (PySem.W.clsIn K S).isSome = true := h2
    rw [h2', h3] <;> rfl
  show (if (PySem.W.subIn K (.ref S) (.type "BaseException") == some true) = true then (if ((PySem.W.clsIn K S).isSome && PySem.W.typeIn K (.ref S) == some (.type "type")) = true then PySem.W.subIn K (.ref S) (.ref S) else none) else none) = some true
  rw [if_pos e1, if_pos e2]
  exact h4
theorem exm_sub {K : PySem.W.Frag} {S Y : Addr} {b : Bool} (h1 : PySem.W.subIn K (.ref S) (.type "BaseException") = some true) (h2 : PySem.W.isClsIn K S = true) (h3 : PySem.W.typeIn K (.ref S) = some (.type "type")) (h4 : PySem.W.subIn K (.ref Y) (.ref S) = some b) :
    PySem.W.exmOne K (.ref Y) (.ref S) = some b := by
  have e1 : (PySem.W.subIn K (.ref S) (.type "BaseException") == some true) = true := by rw [h1] <;> rfl
  have e2 : ((PySem.W.clsIn K S).isSome && PySem.W.typeIn K (.ref S) == some (.type "type")) = true := by
    have h2' : (PySem.W.clsIn K S).isSome = true := h2
    rw [h2', h3] <;> rfl
  show (if (PySem.W.subIn K (.ref S) (.type "BaseException") == some true) = true then (if ((PySem.W.clsIn K S).isSome && PySem.W.typeIn K (.ref S) == some (.type "type")) = true then PySem.W.subIn K (.ref Y) (.ref S) else none) else none) = some b
  rw [if_pos e1, if_pos e2]
  exact h4
theorem kit_subT {K : PySem.W.Frag} {S : Addr} {T : String} {b : Bool} (h1 : PySem.W.kitMeta T = true) (h2 : PySem.W.subIn K (.ref S) (.type T) = some b) : PySem.W.kitOne K (.ref S) (.type T) = some b := by
  show (if (Value.ref S == Value.type T) = true then some true else (if PySem.W.kitMeta T = true then PySem.W.subIn K (.ref S) (.type T) else none)) = some b
  rw [if_neg (by intro z; cases z), if_pos h1]
  exact h2
theorem kit_subO {K : PySem.W.Frag} {S : Addr} {t : Value} {b : Bool} (h2 : PySem.W.isClsIn K S = true) (h3 : PySem.W.typeIn K (.ref S) = some (.type "type")) (h5 : PySem.W.subIn K (.ref S) (.ref S) = some true) (h4 : PySem.W.subIn K t (.ref S) = some b) : PySem.W.kitOne K t (.ref S) = some b := by
  have e2 : ((PySem.W.clsIn K S).isSome && PySem.W.typeIn K (.ref S) == some (.type "type")) = true := by
    have h2' : (PySem.W.clsIn K S).isSome = true := h2
    rw [h2', h3] <;> rfl
  show (if (t == .ref S) = true then some true else (if ((PySem.W.clsIn K S).isSome && PySem.W.typeIn K (.ref S) == some (.type "type")) = true then PySem.W.subIn K t (.ref S) else none)) = some b
  by_cases c : (t == .ref S) = true
  · have e : t = .ref S := eq_of_beq c
    subst e
    rw [if_pos c, ← h4, h5]
  · rw [if_neg c, if_pos e2]
    exact h4
end DL
namespace DL
open PySem L2
/-! ### try, except -/
abbrev Fx.tried (fx : Fx) (W : WX) (B : Hp) (g : List Sl) : Fx := { fx with Hf0 := B, W := W, gx := some g }
section
variable {K : PySem.W.Frag} {mg : Str → Option Value} {fx : Fx} {Hf H : Hp} {σ : L2.St} {G : List Sl} {s : S}
theorem StS.tried (st : StS K mg fx Hf H σ G s) (W : WX) (g : List Sl) : StS K mg (fx.tried W Hf g) Hf H σ G s := ⟨⟨.refl _, st.top, st.ste.keep, st.ste.dom, fun _ _ e => .inl e⟩, st.bag, st.bagg, st.len, fun i x e => by
  have so := st.sl i x e
  cases x with
  | un => trivial
  | im d => exact so
  | ow ds => exact so
  | od ks ds => exact so
  | ob ns ds => exact so
  | bg => exact so, st.dis⟩
theorem Ste.back {bag : List Addr} {Hf0 H0 Hf H Hf' H' : Hp} (a : Ste bag Hf0 H0 Hf H) (b : Ste bag Hf H0 Hf' H') : Ste bag Hf0 H0 Hf' H' := ⟨a.sub.trans b.sub, b.top, b.keep, b.dom, fun x o e => by
  rcases b.fresh x o e with h | h
  · exact a.fresh x o h
  · exact .inr h⟩
theorem StS.back {Hf1 H1 : Hp} {σ1 : L2.St} {G1 : List Sl} {s1 : S} {W : WX} {g : List Sl} (st : StS K mg fx Hf H σ G s) (st1 : StS K mg (fx.tried W Hf g) Hf1 H1 σ1 G1 s1) : StS K mg fx Hf1 H1 σ1 G1 s1 := ⟨st.ste.back st1.ste, st1.bag, st1.bagg, st1.len, fun i x e => by
  have so := st1.sl i x e
  cases x with
  | un => trivial
  | im d => exact so
  | ow ds => exact so
  | od ks ds => exact so
  | ob ns ds => exact so
  | bg => exact so, st1.dis⟩
/-- a forgotten slot is emptied -/
theorem StS.empty (st : StS K mg fx Hf H σ G s) {i : Nat} (hi : G[i]? = some .un) : StS K mg fx Hf H (σ.set i none) G s := by
  refine ⟨st.ste, st.bag, st.bagg, by simpa using st.len, fun j x e => ?_, fun j k x y p hjk ex ey ox oy e1 e2 => ?_⟩
  · by_cases q : i = j
    · subst q
      rw [hi] at e
      cases e
      trivial
    · rw [List.getElem?_set_ne q]
      exact st.sl j x e
  · have nj : i ≠ j := fun z => by subst z; rw [hi] at ex; cases ex; cases ox
    have nk : i ≠ k := fun z => by subst z; rw [hi] at ey; cases ey; cases oy
    rw [List.getElem?_set_ne nj] at e1
    rw [List.getElem?_set_ne nk] at e2
    exact st.dis j k x y p hjk ex ey ox oy e1 e2
end
theorem unNox {K : PySem.W.Frag} {mg : Str → Option Value} {fx : Fx} {Hf H : Hp} {σ : L2.St} {G : List Sl} {s : S} (st : StS K mg fx.nox Hf H σ G s) : StS K mg fx Hf H σ G s := ⟨st.ste, st.bag, st.bagg, st.len, fun i x e => by
  have so := st.sl i x e
  cases x with
  | un => trivial
  | im d => exact so
  | ow ds => exact so
  | od ks ds => exact so
  | ob ns ds => exact so
  | bg => exact so, st.dis⟩
/-- the errors that may come, and which of them a clause names -/
def Known (K : PySem.W.Frag) (mg : Str → Option Value) (L : List (Str × Str)) (c : Str) (C : Addr) : Prop := ∀ q ∈ L, ∀ C', mg q.1 = some (.ref C') → PySem.W.exmOne K (.ref C') (.ref C) = some (decide (q.1 = c))
section
variable {X : Cx} {fx : Fx} {m : Type → Type} [Mo m] {G G' : List Sl} {α β ε : Type} {kk : Nat} {body suite rest : List Stmt} {b0 : Stmt} {exA : ε → List Sl} {ex : α → List Sl} {exb : β → List Sl} {xb : m (Fl ε β)} {xs : D → m (Fl ε β)} {k : ε → m (Fl α β)} {x n : Str} {np pos pos' : Pos} {C : Addr} {L : List (Str × Str)} {f0 : Str}
/-- the caught error's field -/
theorem de_exf {fx : Fx} {G : List Sl} {cn f qn : Str} {C fI a dd : Addr} {oe : Obj} {pn : List (Addr × Obj)} {d : D} {n : Str} {p pos : Pos} (T : PySem.OwnX.OwnTxt X.K X.mg cn f qn C fI) (hz : Zc (.ref C) (some dd) oe) (hf : ∃ vs, oe.data = .fields vs) (i : Nat) (hG : G[i]? = some (.im (.xc a dd f d)) := by rfl)
    (hN : X.N[i]? = some n := by rfl) (hv : Vis X.env.scope n := by first | exact Or.inl rfl | exact Or.inr (Or.inl rfl) | exact Or.inr (Or.inr rfl)) (hd : (n == ("__debug__" : Str)) = false := by decide) (hcd : (n == ("__classdict__" : Str)) = false := by decide)
    (hb : attributeBase (.Name n p) f X.env (eval (.Name n p) X.env) = eval (.Name n p) X.env := by rfl) :
    PE (X.suite a ((a, oe) :: pn)) (.Attribute (.Name n p) f pos) (tE (X.suite a ((a, oe) :: pn)).K (X.suite a ((a, oe) :: pn)).mg fx G (pure d : m D)) :=
  peI (pe_byLow T hz hf (pe_var (X := X.suite a ((a, oe) :: pn)) hN hv hd hcd) hb) fun σ H Q ⟨Hf, s, h⟩ => by
    obtain ⟨v, ev, e, u, hu, iu⟩ := h.1.sl i _ hG
    subst e
    exact ⟨.ref a, ev, rfl, rfl, dd, u, rfl, h.1.top _ _ hu, h.pure iu⟩
end
end DL
namespace DL
open PySem L2
/-! ### text methods -/
theorem spl_len (S : List Nat) : ∀ (l : List Nat) (k : Nat) (acc : List Nat), (∀ p ∈ TL.spl S k acc l, p.length ≤ acc.length + l.length) ∧ (TL.spl S k acc l).length ≤ l.length + 1
  | [], k, acc => by
    rw [TL.spl_nil]
    simp
  | c :: r, 0, acc => by
    by_cases h : TL.pre S (c :: r) = true
    · rw [TL.spl_hit h]
      obtain ⟨h1, h2⟩ := spl_len S r (S.length - 1) []
      refine ⟨fun p hp => ?_, by rw [List.length_cons, List.length_cons]; omega⟩
      rcases List.mem_cons.mp hp with rfl | hp
      · omega
      · have := h1 p hp
        rw [List.length_nil] at this
        rw [List.length_cons]
        omega
    · rw [TL.spl_miss (by simpa using h)]
      obtain ⟨h1, h2⟩ := spl_len S r 0 (acc ++ [c])
      refine ⟨fun p hp => ?_, by rw [List.length_cons]; omega⟩
      have := h1 p hp
      rw [List.length_append, List.length_singleton] at this
      rw [List.length_cons]
      omega
  | c :: r, k + 1, acc => by
    have e : TL.spl S (k + 1) acc (c :: r) = TL.spl S k acc r := rfl
    rw [e]
    obtain ⟨h1, h2⟩ := spl_len S r k acc
    refine ⟨fun p hp => ?_, by rw [List.length_cons]; omega⟩
    have := h1 p hp
    rw [List.length_cons]
    omega
def splitD (a b : D) : Option (List D) := match a, b with
  | .str z, .str [c] => if c < 256 ∧ z.length ≤ 1000000 then some ((TL.spl [c] 0 [] z).map .str) else none
  | _, _ => none
theorem isL_strsV {K : PySem.W.Frag} {mg : Str → Option Value} {H : Hp} : ∀ {ps : List (List Nat)}, (∀ p ∈ ps, p.length ≤ sizeLine) → IsL K mg H (ps.map .str) (ps.map fun p => V.str ⟨p.toArray⟩)
  | [], _ => rfl
  | p :: ps, h => ⟨_, _, rfl, ⟨rfl, h p (.head _)⟩, isL_strsV fun q m => h q (.tail _ m)⟩
section
variable {X : Cx} {fx : Fx} {m : Type → Type} [Mo m] {G : List Sl} {o e : Expr} {apos pos : Pos} {x y : m D}
theorem df_split (ho : PE X o (tE X.K X.mg fx G x)) (he : PE X e (tE X.K X.mg fx G y)) (hs : starEach [e] X.env = [(false, eval e X.env)] := by rfl) (hbase : attributeBase o "split" X.env (eval o X.env) = eval o X.env := by rfl) (hline : (apos.endLine == pos.line) = true := by rfl) :
    PE X (.Call (.Attribute o "split" apos) [e] [] pos) (tF X.K X.mg fx G (do let u ← x; let _ ← ask (strOf u); let v ← y; ask (splitD u v))) := peI (pe_split ho he hs hbase hline) fun σ H Q ⟨Hf, s, st, w⟩ =>
  ⟨Hf, s, st, Mo.wp_mono (Mo.wp_bind w) (fun d1 s1 k v1 Hf1 H1 e1 bg1 r1 => by
    have k' := Mo.wp_lift (Mo.wp_bind k)
    have st1 := st.step e1 bg1
    cases d1 with
    | str z =>
      obtain ⟨rfl, hz1⟩ := r1
      refine ⟨⟨_, rfl⟩, Hf1, s1, st1, Mo.wp_mono (Mo.wp_bind k') (fun d2 s2 k2 v2 Hf2 H2 e2 bg2 r2 => ?_) fun e s' k => k⟩
      have k3 := Mo.wp_lift k2
      cases hsp : splitD (.str z) d2 with
      | none => rw [hsp] at k3; exact k3.elim
      | some ds =>
        rw [hsp] at k3
        unfold splitD at hsp
        split at hsp
        · rename_i z' c hz'
          cases hz'
          split at hsp
          · rename_i hc
            cases hsp
            obtain ⟨rfl, _⟩ := r2
            have hsz : sizeLine = 16777216 := sizeLine_eq
            have hk : (⟨#[c]⟩ : Str).cps.all (· < 256) = true := by simpa using hc.1
            have es := TL.split_spl ⟨z.toArray⟩ ⟨#[c]⟩ (by simp [TL.tl]) (TL.kind_ok hk)
            have es' : Txt.split ⟨z.toArray⟩ ⟨#[c]⟩ = (TL.spl [c] 0 [] z).map fun p => (⟨p.toArray⟩ : Str) := by
              have e3 : (TL.spl (TL.tl ⟨#[c]⟩) 0 [] (TL.tl ⟨z.toArray⟩)) = TL.spl [c] 0 [] z := by simp [TL.tl]
              rw [e3] at es
              rw [← es, List.map_map]
              conv => lhs; rw [← List.map_id (Txt.split ⟨z.toArray⟩ ⟨#[c]⟩)]
              exact List.map_congr_left fun p _ => (TL.mk_tl p).symm
            obtain ⟨h1, h2⟩ := spl_len [c] z 0 []
            refine ⟨⟨z.toArray⟩, ⟨#[c]⟩, rfl, rfl, rfl, by rw [str_len]; omega, fun p hp => ?_⟩
            rw [es', List.map_map]
            have hn : H p = none := by
              cases q : H p with
              | none => rfl
              | some o => exact absurd hp ((e1.trans e2).dom p (by rw [q]; simp))
            have st2 := st1.step e2 bg2
            have n2 := st2.new0 hp
            exact k3 p _ Hf2 _ ((e1.trans e2).upd hn n2.2.2) (bg2.upd n2.2.1) upd_same n2.2.2 hn (isL_strsV fun q m => by have := h1 q m; simp at this; omega) (by rw [List.length_map]; omega)
          · cases hsp
        · cases hsp
    | _ => exact k'.elim) fun e s' k => k⟩
/-- a text method of one text that answers at once -/
def strM (g : List Nat → List Nat → D) (a b : D) : Option D := match a, b with
  | .str x, .str y => some (g x y)
  | _, _ => none
theorem de_starts (ho : PE X o (tE X.K X.mg fx G x)) (he : PE X e (tE X.K X.mg fx G y)) (hs : starEach [e] X.env = [(false, eval e X.env)] := by rfl) (hbase : attributeBase o "startswith" X.env (eval o X.env) = eval o X.env := by rfl) (hline : (apos.endLine == pos.line) = true := by rfl) :
    PE X (.Call (.Attribute o "startswith" apos) [e] [] pos) (tE X.K X.mg fx G (do let u ← x; let _ ← ask (strOf u); let v ← y; ask (strM (fun a b => .bl (Txt.startswith ⟨a.toArray⟩ ⟨b.toArray⟩)) u v))) :=
  peI (pe_m1 PySem.F.slot_str_startswith PySem.F.type_str_startswith mt_startswith ho he hs hbase hline) fun σ H Q ⟨Hf, s, h⟩ =>
  (h.bind.mono fun v1 H1 ⟨d1, Hf1, s1, sb1, r1, h1⟩ => by
    have k := Mo.wp_lift (Mo.wp_bind h1.2)
    cases d1 with
    | str S =>
      obtain ⟨rfl, hz1⟩ := r1
      refine ⟨⟨_, rfl⟩, ?_⟩
      have h2 : tX X.K X.mg fx G (fun H d v => Is X.K X.mg H d v) (do let v ← y; ask (strM (fun a b => .bl (Txt.startswith ⟨a.toArray⟩ ⟨b.toArray⟩)) (.str S) v) : m D) Hf1 s1 σ H1 Q := ⟨h1.1, k⟩
      refine (h2.bind.mono fun v2 H2 ⟨d2, Hf2, s2, sb2, r2, h3⟩ => ?_).to
      obtain ⟨d, e, q⟩ := h3.ask
      cases d2 with
      | str T =>
        cases e
        obtain ⟨rfl, _⟩ := r2
        exact ⟨_, _, rfl, rfl, q _ Hf2 H2 (.refl h3.1.top) (is_bl _)⟩
      | _ => cases e
    | _ => exact k.elim).to
end
end DL
/-! ### try with several clauses, each with a name or without -/
namespace DL
open PySem PySem.Spec PyProof.Rows L2
abbrev Clause := Value × Option Nat × (Addr → Value → Option Addr → TS)
/-- the ends of a suite whose name is let go -/
def goneE (i : Nat) (De : Ends) : Ends := { nx := fun σ' H' => De.nx (σ'.set i none) H', rt := De.rt, bk := fun σ' H' => De.bk (σ'.set i none) H', ct := fun σ' H' => De.ct (σ'.set i none) H' }
def wCl (De : Ends) (σ : L2.St) (H : Hp) (cls : Value) (d : Option Addr) (a : Addr) : Option Nat × (Addr → Value → Option Addr → TS) → Prop
  | (some i, ts) => ts a cls d (goneE i De) (σ.set i (some (.ref a))) H
  | (none, ts) => ts a cls d De σ H
def wCls (K : PySem.W.Frag) (Wout : WX) (De : Ends) : List Clause → WX
  | [] => Wout
  | (c, p) :: r => fun cls d σ H => ∃ b, PySem.W.exmOne K cls c = some b ∧ (b = true → ∀ a, H a = none → wCl De σ H cls d a p) ∧ (b = false → wCls K Wout De r cls d σ H)
inductive HdC (X : Cx) : List ExceptHandler → List Clause → Prop
  | nil : HdC X [] []
  | named {x n : Str} {i : Nat} {c : Value} {ts : Addr → Value → Option Addr → TS} {b0 : Stmt} {suite : List Stmt} {np pos : Pos} {hds : List ExceptHandler} {l : List Clause} (hc : Names X x c) (hi : X.N[i]? = some n) (hln : X.env.kindOf n = some .local)
      (hsu : ∀ (a : Addr) (oe : Obj) (cls : Value) (d : Option Addr) (pn : List (Addr × Obj)), Zc cls d oe → (∃ vs, oe.data = .fields vs) → (Cool X.mg cls → L2N.Zn cls d oe) → PSs (X.suite a ((a, oe) :: pn)) (b0 :: suite) (ts a cls d)) (r : HdC X hds l) :
      HdC X (.ExceptHandler (some (.Name x np)) (some n) (b0 :: suite) pos :: hds) ((c, some i, ts) :: l)
  | plain {x : Str} {c : Value} {ts : Addr → Value → Option Addr → TS} {b0 : Stmt} {suite : List Stmt} {np pos : Pos} {hds : List ExceptHandler} {l : List Clause} (hc : Names X x c)
      (hsu : ∀ (a : Addr) (oe : Obj) (cls : Value) (d : Option Addr) (pn : List (Addr × Obj)), Zc cls d oe → (∃ vs, oe.data = .fields vs) → (Cool X.mg cls → L2N.Zn cls d oe) → PSs (X.suite a ((a, oe) :: pn)) (b0 :: suite) (ts a cls d)) (r : HdC X hds l) :
      HdC X (.ExceptHandler (some (.Name x np)) none (b0 :: suite) pos :: hds) ((c, none, ts) :: l)
section
variable {X : Cx} {body : List Stmt} {h0 : ExceptHandler} {hds : List ExceptHandler} {l : List Clause} {pos : Pos} {tb : WX → TS} {Wout : WX}
theorem xez_t {X : Cx} {W : WX} {u : Value} {s' : Shared} (x : L2N.XE X W u s') : XEZ L2N.Zn X (fun cls d σ H => W cls d σ H ∧ True) u s' := by
  obtain ⟨a, B, sI, pins', σ', H', cls, d, e, J, nb, up, sky, na, os, ag, w⟩ := x
  exact ⟨a, B, sI, pins', σ', H', cls, d, e, J, nb, up, sky, na, os, ag, w, trivial⟩
theorem xez_f {X : Cx} {W : WX} {u : Value} {s' : Shared} (x : XEZ L2N.Zn X (fun cls d σ H => W cls d σ H ∧ True) u s') : L2N.XE X W u s' := by
  obtain ⟨a, B, sI, pins', σ', H', cls, d, e, J, nb, up, sky, na, os, ag, w, _⟩ := x
  exact ⟨a, B, sI, pins', σ', H', cls, d, e, J, nb, up, sky, na, os, ag, w⟩
section
/-- the exception at a has landed before the clauses; sI is what the body left behind, s the state as it is now -/
structure Stood (X : Cx) (pins : List (Addr × Obj)) (Z : Obj → Prop) (σ : L2.St) (H : Hp) (a : Addr) (B : Heap) (sI s : Shared) : Prop where
  left : L2.Inv X pins σ H sI
  apart : ∀ b o, sI.heap.get? b = some o → b ∉ frs X.stack → B.get? b = some o
  since : sI.heap.UpToSlots s.heap
  fly : HandSPX.FlyingZ B (X.env :: X.outer) a Z s.heap
  free : H a = none
  os : s.os = sI.os
  bare : AllBare s.gens
section
variable {X : Cx} {pins : List (Addr × Obj)} {Z : Obj → Prop} {σ : L2.St} {H : Hp} {a : Addr} {B : Heap} {sI s : Shared}
namespace Stood
/-- the def's state holds, too -/
theorem inv (S : Stood X pins Z σ H a B sI s) : L2.Inv X pins σ H s := S.left.landed S.apart S.fly.1 S.since S.os S.bare
/-- other places of the heap have changed -/
theorem moved (S : Stood X pins Z σ H a B sI s) {h : Heap} (f : HandSPX.FlyingZ B (X.env :: X.outer) a Z h) (up : s.heap.UpToSlots h) : Stood X pins Z σ H a B sI { s with heap := h } :=
  { left := S.left, apart := S.apart, since := S.since.trans up, fly := f, free := S.free, os := S.os, bare := S.bare }
/-- the record of the exception is no frame -/
theorem noFrame (S : Stood X pins Z σ H a B sI s) : a ∉ frs (X.env :: X.outer) := by
  intro isFrame
  obtain ⟨oe, vs, lies, _, rec⟩ := S.fly.there
  obtain ⟨-, o, lies', notRec⟩ := S.fly.2.2.1.mem isFrame
  cases lies.symm.trans lies'
  exact notRec vs rec
theorem notOwn (S : Stood X pins Z σ H a B sI s) (hf : X.env.frame = some X.env.locals) : a ≠ X.env.locals := by
  rintro rfl
  exact S.noFrame (List.mem_filterMap.mpr ⟨X.env, by simp, hf⟩)
theorem notOuter (S : Stood X pins Z σ H a B sI s) : a ∉ X.fs := by
  intro m
  obtain ⟨env, k, e⟩ := List.mem_filterMap.mp m
  exact S.noFrame (List.mem_filterMap.mpr ⟨env, by simp [k], e⟩)
/-- the clause's own context -/
theorem enter (S : Stood X pins Z σ H a B sI s) (hf : X.env.frame = some X.env.locals) :
    ∃ oe, Z oe ∧ (∃ vs, oe.data = .fields vs) ∧ s.heap.get? a = some oe ∧ L2.Inv (X.suite a ((a, oe) :: (X.pn ++ pins))) [] σ H s :=
  let ⟨oe, vs, lies, z, rec⟩ := S.fly.there
  ⟨oe, z, ⟨vs, rec⟩, lies, S.inv.suite lies rec S.free (S.notOwn hf) S.notOuter⟩
/-- a class is read by its name -/
theorem word (S : Stood X pins Z σ H a B sI s) (hf : X.env.frame = some X.env.locals) {x : Str} {c : Value} {np : Pos} (nm : Names X x c) {Q E : Value → Shared → Prop} (q : Q c s) :
    wpAny (model X.prog X.w) (X.A.mark (some (.ref a))) (eval (.Name x np) X.env) Q E s := by
  obtain ⟨oe, -, -, -, I⟩ := S.enter hf
  obtain ⟨gl, nd, own | ⟨noOwn, boot, ne⟩⟩ := nm
  · exact ld_glob I gl own q nd
  · exact ld_blt I gl noOwn boot q ne nd
/-- a clause asks whether the exception is one of its class -/
theorem asked {cls c : Value} {b : Bool} (S : Stood X pins Z σ H a B sI s) (hZ : ∀ o, Z o → o.cls = cls) (is : PySem.W.exmOne X.K cls c = some b) {A : Around} {Q : Bool → Shared → Prop} {E : Value → Shared → Prop} (q : Q b s) :
    wpAny (model X.prog X.w) A (excMatches (.ref a) c) Q E s := by
  obtain ⟨oe, vs, lies, z, rec⟩ := S.fly.there
  exact (PySem.W.exm_one S.inv.kIn (fun _ _ _ t keeps q' => wpAny_typeOf_ref (keeps _ _ lies) (by rwa [hZ oe z])) is).here q
/-- no clause is left: the exception goes on -/
theorem on (S : Stood X pins Z σ H a B sI s) (hf : X.env.frame = some X.env.locals) {De : Ends}
    (out : ∀ h, HandSPX.HeldZ B (X.env :: X.outer) a Z X.env.locals h → s.heap.UpToSlots h → X.xe (.ref a) { s with heap := h }) :
    wpAny (model X.prog X.w) X.A (handleBy (.ref a) X.env []) (SP X pins De) X.xe s := by
  have flies : wpAny (model X.prog X.w) X.A (setFlight (.ref a) X.env.frame) (fun _ s' => wpAny (model X.prog X.w) X.A (throw (.ref a) : Sem Flow) (SP X pins De) X.xe s') X.xe s := by
    rw [hf]
    exact HandSPX.setFlight_upZ S.fly fun h held up => wpAny_throw (out h held up)
  obtain ⟨-, -, -, oe, vs, T, -, -, lies, -, rec, tb, -⟩ := id S.fly
  apply wpAny_handleBy_nil
  simp only [PySem.passOn]
  refine wpAny_bind (wpAny_field lies rec tb ?_)
  have hasTb : (Value.ref T == Value.none) = false := rfl
  rw [hasTb]
  first
    | exact wpAny_bind (wpAny_pure (wpAny_bind flies))
    | exact wpAny_bind flies
end Stood
/-- two contexts whose states are alike end alike -/
theorem SP.carry {Y : Cx} {pins' : List (Addr × Obj)} {De : Ends} {f : Flow} {s' : Shared} (h : SP Y pins' De f s') (c : ∀ {σ : L2.St} {H : Hp}, L2.Inv Y pins' σ H s' → L2.Inv X pins σ H s') : SP X pins De f s' := by
  unfold SP at h ⊢
  split at h
  all_goals first
    | (obtain ⟨σ1, H1, I, q⟩ := h; exact ⟨σ1, H1, c I, q⟩)
    | (obtain ⟨v, σ1, H1, I, r, q⟩ := h; exact ⟨v, σ1, H1, c I, r, q⟩)
/-- an exception of a body comes before the clauses -/
theorem stand {Z : Value → Option Addr → Obj → Prop} {W : WX} {xe : Value → Shared → Prop} {hds : List ExceptHandler} {De : Ends} {u : Value} {s' : Shared} (hZ : ∀ cls d, PXN.Steady1 (Z cls d)) (hs : X.stack = X.env :: X.outer) (hf : X.env.frame = some X.env.locals) (ok : X.Ok)
    (xx : XEZ Z (X.tr (X.pn ++ pins) xe) W u s')
    (go : ∀ (a : Addr) (B : Heap) (sI s : Shared) (σ : L2.St) (H : Hp) (cls : Value) (d : Option Addr), Stood X pins (Z cls d) σ H a B sI s → W cls d σ H → wpAny (model X.prog X.w) X.A (handleBy (.ref a) X.env hds) (SP X pins De) X.xe s) :
    wpAny (model X.prog X.w) X.A (noteFrame u X.env) (fun _ s2 => wpAny (model X.prog X.w) X.A (setFlight u none) (fun _ s3 => wpAny (model X.prog X.w) X.A (handleBy u X.env hds) (SP X pins De) X.xe s3) X.xe s2) X.xe s' := by
  obtain ⟨a, B, sI, pins', σ, H, cls, d, rfl, I, apart, since, sky, free, os, bare, w⟩ := xx
  have sky' : L2.Sky B (X.env :: X.outer) a (Z cls d) X.env.locals s'.heap := hs ▸ sky
  exact L2N.Sky.land (hZ cls d) (by rw [ok.frames, hs]) hf sky' fun h f up => go a B sI _ σ H cls d ⟨I.ofTry ok, apart, since.trans up, f, free, os, bare⟩ w
end
end
section
variable {X : Cx} {pins : List (Addr × Obj)} {Z : Obj → Prop} {σ : L2.St} {H : Hp} {a : Addr} {B : Heap} {sI s : Shared} {De : Ends}
/-- the suite of a clause with a name runs, and the name goes -/
theorem suite_named {n : Str} {i : Nat} {pos' : Pos} {b0 : Stmt} {suite : List Stmt} {ts : TS} {R : Result → Shared → Prop} {E : Value → Shared → Prop} (S : Stood X pins Z σ H a B sI s) (ok : X.Ok) (hN : X.N.Nodup) (hf : X.env.frame = some X.env.locals) (hi : X.N[i]? = some n) (hln : X.env.kindOf n = some .local)
    (hsu : ∀ oe : Obj, Z oe → (∃ vs, oe.data = .fields vs) → PSs (X.suite a ((a, oe) :: (X.pn ++ pins))) (b0 :: suite) ts) (w : ts (goneE i De) (σ.set i (some (.ref a))) H)
    (hR : ∀ f s', (wpAny (model X.prog X.w) X.A (do bindName X.env n .none; unbindBehindTheSuite X.env n pos') (fun _ s7 => SP X pins De f s7) E s') → R (.ok f) s') :
    codeAny (model X.prog X.w) (X.A.mark (some (.ref a))) (.handlers (.ref a) [.ExceptHandler none (some n) (b0 :: suite) pos'] X.env) R s := by
  refine codeAny_handlers_suite_as (HandSPX.lands_againZ S.fly fun h f up => ?_)
  obtain ⟨oe, z, rec, -, I⟩ := (S.moved f up).enter hf
  refine store_ok (X := X.suite a ((a, oe) :: (X.pn ++ pins))) (v := .ref a) I hN hi (.inl hln) rfl (fun s5 I5 => ?_) (.inr hln)
  refine wpAny_mono ((hsu oe z rec).run [] s5 _ H _ I5 w) (fun fl s6 ends => hR fl s6 ?_) fun _ _ none => False.elim none
  have back : ∀ {σ6 : L2.St} {H6 : Hp} {Q : Shared → Prop}, L2.Inv (X.suite a ((a, oe) :: (X.pn ++ pins))) [] σ6 H6 s6 → (∀ s7, L2.Inv X pins (σ6.set i none) H6 s7 → Q s7) → wpAny (model X.prog X.w) X.A (do bindName X.env n .none; unbindBehindTheSuite X.env n pos') (fun _ s7 => Q s7) E s6 :=
    fun I6 q => gone_ok (I6.unsuite ok) hN hi hln q
  unfold SP at ends ⊢
  split at ends
  all_goals first
    | (obtain ⟨σ6, H6, I6, q⟩ := ends; exact back I6 fun _ I7 => ⟨_, _, I7, q⟩)
    | (obtain ⟨v, σ6, H6, I6, r, q⟩ := ends; exact back I6 fun _ I7 => ⟨v, _, _, I7, r, q⟩)
/-- the suite of a clause without a name runs -/
theorem suite_plain {pos' : Pos} {b0 : Stmt} {suite : List Stmt} {ts : TS} {R : Result → Shared → Prop} (S : Stood X pins Z σ H a B sI s) (ok : X.Ok) (hf : X.env.frame = some X.env.locals)
    (hsu : ∀ oe : Obj, Z oe → (∃ vs, oe.data = .fields vs) → PSs (X.suite a ((a, oe) :: (X.pn ++ pins))) (b0 :: suite) ts) (w : ts De σ H) (hR : ∀ f s', SP X pins De f s' → R (.ok f) s') :
    codeAny (model X.prog X.w) (X.A.mark (some (.ref a))) (.handlers (.ref a) [.ExceptHandler none none (b0 :: suite) pos'] X.env) R s := by
  refine codeAny_handlers_suite (HandSPX.lands_againZ S.fly fun h f up => ?_)
  obtain ⟨oe, z, rec, -, I⟩ := (S.moved f up).enter hf
  exact wpAny_mono ((hsu oe z rec).run [] _ σ H _ I w) (fun fl s6 ends => hR fl s6 (SP.carry ends fun I6 => I6.unsuite ok)) fun _ _ none => False.elim none
/-- one clause after the other -/
theorem clauses {Z : Value → Option Addr → Obj → Prop} {Wout : WX} {cls : Value} {d : Option Addr} (ok : X.Ok) (hf : X.env.frame = some X.env.locals) (hN : X.N.Nodup) (S : Stood X pins (Z cls d) σ H a B sI s) (hzc : ∀ o, Z cls d o → Zc cls d o) (cool : ∀ o, Z cls d o → Cool X.mg cls → L2N.Zn cls d o)
    (out : Wout cls d σ H → ∀ h, HandSPX.HeldZ B (X.env :: X.outer) a (Z cls d) X.env.locals h → s.heap.UpToSlots h → X.xe (.ref a) { s with heap := h }) :
    ∀ {hds : List ExceptHandler} {l : List Clause}, HdC X hds l → wCls X.K Wout De l cls d σ H → wpAny (model X.prog X.w) X.A (handleBy (.ref a) X.env hds) (SP X pins De) X.xe s := by
  intro hds l hh
  have clsOf : ∀ o, Z cls d o → o.cls = cls := fun o z => (hzc o z).1
  induction hh with
  | nil => exact fun w => S.on hf (out w)
  | named nm hi hln hsu _ ih =>
    rintro ⟨b, is, yes, no⟩
    refine wpAny_handleBy_cons (codeAny_handlers_test (S.word hf nm (S.asked clsOf is ?_))) nofun
    cases b
    · exact ih (no rfl)
    · exact suite_named (ts := _) S ok hN hf hi hln (fun oe z rec => hsu a oe cls d _ (hzc oe z) rec (cool oe z)) (yes rfl a S.free) fun f s' z => z
  | plain nm hsu _ ih =>
    rintro ⟨b, is, yes, no⟩
    refine wpAny_handleBy_cons (codeAny_handlers_test (S.word hf nm (S.asked clsOf is ?_))) nofun
    cases b
    · exact ih (no rfl)
    · exact suite_plain (ts := _) S ok hf (fun oe z rec => hsu a oe cls d _ (hzc oe z) rec (cool oe z)) (yes rfl a S.free) fun f s' z => z
end
section
variable {X : Cx} {body : List Stmt} {h0 : ExceptHandler} {hds : List ExceptHandler} {l : List Clause} {pos : Pos} {tb : WX → TS} {Wout : WX}
/-- an exception of the body, at the clauses -/
theorem catchM {Z : Value → Option Addr → Obj → Prop} {c0 : Value → Prop} (hZ : ∀ cls d, PXN.Steady1 (Z cls d)) (hzc : ∀ cls d o, Z cls d o → Zc cls d o) (hcool : ∀ cls d o, c0 cls → Z cls d o → Cool X.mg cls → L2N.Zn cls d o) (hs : X.stack = X.env :: X.outer) (hf : X.env.frame = some X.env.locals) (hN : X.N.Nodup)
    (tk : ∀ u s', XEZ Z X (fun cls d σ H => Wout cls d σ H ∧ c0 cls) u s' → X.xe u s') (hh : HdC X hds l) {pins : List (Addr × Obj)} {De : Ends} {xe : Value → Shared → Prop} (ok : X.Ok) {u : Value} {s' : Shared}
    (xx : XEZ Z (X.tr (X.pn ++ pins) xe) (fun cls d σ H => wCls X.K Wout De l cls d σ H ∧ c0 cls) u s') :
    wpAny (model X.prog X.w) X.A (noteFrame u X.env) (fun _ s2 => wpAny (model X.prog X.w) X.A (setFlight u none) (fun _ s3 => wpAny (model X.prog X.w) X.A (handleBy u X.env hds) (SP X pins De) X.xe s3) X.xe s2) X.xe s' :=
  stand hZ hs hf ok xx fun a B sI s σ H cls d S ⟨w, c⟩ => clauses ok hf hN S (hzc cls d) (fun o z => hcool cls d o c z)
    (fun out h held up => tk _ _ ⟨a, B, sI, pins, σ, H, cls, d, rfl, S.left, S.apart, S.since.trans up, .inr (.inr (hs ▸ held)), S.free, S.os, S.bare, out, c⟩) hh w
end
theorem ps_tryC (hs : X.stack = X.env :: X.outer) (hf : X.env.frame = some X.env.locals) (hN : X.N.Nodup) (tk : Takes X Wout)
    (hb : ∀ (W : WX) (pn : List (Addr × Obj)) (xe : Value → Shared → Prop), Takes (X.tr pn xe) W → PassesOwn (model X.prog X.w) X.A X.env xe → PSs (X.tr pn xe) body (tb W)) (hh : HdC X (h0 :: hds) l) :
    PS X (.Try body (h0 :: hds) [] [] pos) (fun De σ H => tb (wCls X.K Wout De l) De σ H) := by
  refine ⟨fun pins s σ H De I h => ?_⟩
  have ok := I.ok
  refine wpAny_Try_except ?_
  refine wpAny_mono ((hb (wCls X.K Wout De l) (X.pn ++ pins) (fun e s1 => wpAny (model X.prog X.w) X.A (noteFrame e X.env) (fun _ s2 => wpAny (model X.prog X.w) X.A (setFlight e none) (fun _ s3 =>
    wpAny (model X.prog X.w) X.A (handleBy e X.env (h0 :: hds)) (SP X pins De) X.xe s3) X.xe s2) X.xe s1) ⟨fun u s' xx => ?_, fun u s' xx => ?_⟩ PassesOwn.looking).run [] s σ H De (I.toTry _) h) (fun f s1 hsp => ?_) (fun e s1 he => he)
  · exact catchM (Z := Zc) (c0 := fun cls => ¬ Cool X.mg cls) (fun _ _ => zc_steady1) (fun _ _ _ z => z) (fun _ _ _ n _ c => absurd c n) hs hf hN (fun u s' x => tk.hot u s' x) hh ok xx
  · exact catchM (Z := L2N.Zn) (Wout := Wout) (c0 := fun _ => True) (fun _ _ => L2N.Zn.steady) (fun _ _ _ z => z.zc) (fun _ _ _ _ z _ => z) hs hf hN (fun u s' x => tk.new u s' (xez_f x)) hh ok (xez_t xx)
  · cases f with
    | next => obtain ⟨σ', H', J', q⟩ := hsp; exact wpAny_execs_nil ⟨σ', H', J'.ofTry ok, q⟩
    | brk => obtain ⟨σ', H', J', q⟩ := hsp; exact ⟨σ', H', J'.ofTry ok, q⟩
    | cont => obtain ⟨σ', H', J', q⟩ := hsp; exact ⟨σ', H', J'.ofTry ok, q⟩
    | ret u => obtain ⟨v, σ', H', J', r, q⟩ := hsp; exact ⟨v, σ', H', J'.ofTry ok, r, q⟩
end
end DL
namespace DL
open PySem L2
def pickC {m : Type → Type} [Mo m] {α β : Type} : List (Str × (D → m (Fl α β))) → Exn → m (Fl α β)
  | [], e => Mo.lift (.ex e)
  | (c, h) :: r, e => if e.c = c then Mo.noex (h e.d) else pickC r e
def tryFs {m : Type → Type} [Mo m] {α β : Type} (L : List (Str × Str)) (x : m (Fl α β)) (hs : List (Str × (D → m (Fl α β)))) : m (Fl α β) :=
  Mo.tryC x fun e => if (e.c, e.f) ∈ L then pickC hs e else Mo.lift .stuck
section
variable {X : Cx} {fx : Fx} {m : Type → Type} [Mo m] {G G' : List Sl} {α β ε : Type} {kk : Nat} {exA : ε → List Sl} {exb : β → List Sl} {L : List (Str × Str)}
/-- the clauses, read as data -/
inductive HdS (X : Cx) (fx : Fx) (L : List (Str × Str)) (G' : List Sl) {m : Type → Type} [Mo m] {ε β : Type} (exA : ε → List Sl) (exb : β → List Sl) : List ExceptHandler → List (Str × (D → m (Fl ε β))) → Prop
  | nil : HdS X fx L G' exA exb [] []
  | named {x n : Str} {C : Addr} {f0 : Str} {b0 : Stmt} {suite : List Stmt} {np pos : Pos} {hds : List ExceptHandler} {l : List (Str × (D → m (Fl ε β)))} {xs : D → m (Fl ε β)} (i : Nat) (hkn : Known X.K X.mg L x C) (hL0 : ∀ q ∈ L, q.1 = x → q.2 = f0) (hmg : X.mg x = some (.ref C)) (hun : ∀ a, (exA a)[i]? = some .un) (hunb : ∀ b, (exb b)[i]? = some .un)
      (hi : X.N[i]? = some n) (hln : X.env.kindOf n = some .local) (hg : Gl X x) (hdb : (x == ("__debug__" : Str)) = false)
      (hs : ∀ (a : Addr) (oe : Obj) (dd : Addr) (d : D) (pn : List (Addr × Obj)), Zc (.ref C) (some dd) oe → (∃ vs, oe.data = .fields vs) → (Cool X.mg (.ref C) → L2N.Zn (.ref C) (some dd) oe) → PSs (X.suite a ((a, oe) :: pn)) (b0 :: suite) (tS X.K X.mg fx.nox (G'.set i (.im (.xc a dd f0 d))) exA exb (xs d))) (r : HdS X fx L G' exA exb hds l) :
      HdS X fx L G' exA exb (.ExceptHandler (some (.Name x np)) (some n) (b0 :: suite) pos :: hds) ((x, xs) :: l)
  | plain {x : Str} {C : Addr} {b0 : Stmt} {suite : List Stmt} {np pos : Pos} {hds : List ExceptHandler} {l : List (Str × (D → m (Fl ε β)))} {xs : m (Fl ε β)} (hkn : Known X.K X.mg L x C) (hmg : X.mg x = some (.ref C)) (hg : Gl X x) (hdb : (x == ("__debug__" : Str)) = false)
      (hs : ∀ (a : Addr) (oe : Obj) (pn : List (Addr × Obj)), PSs (X.suite a ((a, oe) :: pn)) (b0 :: suite) (tS X.K X.mg fx.nox G' exA exb xs)) (r : HdS X fx L G' exA exb hds l) :
      HdS X fx L G' exA exb (.ExceptHandler (some (.Name x np)) none (b0 :: suite) pos :: hds) ((x, fun _ => xs) :: l)
theorem hdS_ok {hds : List ExceptHandler} {l : List (Str × (D → m (Fl ε β)))} (hx' : GxOk fx G') (h : HdS X fx L G' exA exb hds l) : ∃ cl : List Clause, HdC X hds cl ∧ ∀ {De : Ends} {Hf Hf1 H1 : Hp} {σ1 : L2.St} {s1 : S} {e : Exn} {cls : Value} {dd : Option Addr}, Sub Hf Hf1 → StS X.K X.mg fx Hf1 H1 σ1 G' s1 → (e.c, e.f) ∈ L → ExIs X.K X.mg Hf1 H1 e cls dd →
    Mo.wp (pickC l e) s1 (FP X.K X.mg fx Hf exA exb De) (EXS X.K X.mg fx) → wCls X.K fx.W De cl cls dd σ1 H1 := by
  induction h with
  | nil => exact ⟨[], .nil, fun {De Hf Hf1 H1 σ1 s1 e cls dd} sb st hL xi w => exs_ex hx' (Mo.wp_lift w) _ _ Hf1 H1 st xi⟩
  | @named x n C f0 b0 suite np pos hds l xs i hkn hL0 hmg hun hunb hi hln hg hdb hs r ih =>
    obtain ⟨cl, hcl, hw⟩ := ih
    refine ⟨(.ref C, some i, fun a cls d De σ H => ∃ p : Addr × DL.D, cls = .ref C ∧ d = some p.1 ∧ tS X.K X.mg fx.nox (G'.set i (.im (.xc a p.1 f0 p.2))) exA exb (xs p.2) De σ H) :: cl, .named ⟨hg, hdb, .inl hmg⟩ hi hln (fun a oe cls d pn hz hf hk => ⟨fun pins s σ H De I ⟨p, ec, ed, q⟩ => by
      subst ec ed
      exact (hs a oe p.1 p.2 pn hz hf hk).run pins s σ H De I q⟩) hcl, ?_⟩
    intro De Hf Hf1 H1 σ1 s1 e cls dd sb st hL xi w
    obtain ⟨C1, p, v, m1, e1, e2, hd, is1⟩ := id xi
    subst e1 e2
    refine ⟨decide (e.c = x), hkn _ hL C1 m1, fun hb a ha => ?_, fun hb => ?_⟩
    · have ec : e.c = x := of_decide_eq_true hb
      have w' : Mo.wp (if e.c = x then Mo.noex (xs e.d) else pickC l e) s1 _ _ := w
      rw [if_pos ec] at w'
      have eC : C1 = C := by rw [ec, hmg] at m1; cases m1; rfl
      subst eC
      have ef : e.f = f0 := hL0 _ hL ec
      rw [ef] at hd
      refine ⟨(p, e.d), rfl, rfl, Hf1, s1, StS.nox (st.set (v := .ref a) (d := .xc a p f0 e.d) ⟨rfl, v, hd, is1⟩), Mo.wp_mono (Mo.wp_noex w') (fun f s2 h2 => ?_) fun _ _ z => z.elim⟩
      cases f with
      | nx a' => exact fun Hf' H' σ' sb' st' => h2 Hf' H' _ (sb.trans sb') (StS.empty (unNox st') (hun a'))
      | rt d => exact fun v Hf' H' e bg r => h2 v Hf' H' e bg r
      | bk b => exact fun Hf' H' σ' sb' st' => h2 Hf' H' _ (sb.trans sb') (StS.empty (unNox st') (hunb b))
      | ct b => exact fun Hf' H' σ' sb' st' => h2 Hf' H' _ (sb.trans sb') (StS.empty (unNox st') (hunb b))
    · have ec : ¬ e.c = x := of_decide_eq_false hb
      have w' : Mo.wp (if e.c = x then Mo.noex (xs e.d) else pickC l e) s1 _ _ := w
      rw [if_neg ec] at w'
      exact hw sb st hL xi w'
  | @plain x C b0 suite np pos hds l xs hkn hmg hg hdb hs r ih =>
    obtain ⟨cl, hcl, hw⟩ := ih
    refine ⟨(.ref C, none, fun a cls d De σ H => tS X.K X.mg fx.nox G' exA exb xs De σ H) :: cl, .plain ⟨hg, hdb, .inl hmg⟩ (fun a oe cls d pn hz hf _ => hs a oe pn) hcl, ?_⟩
    intro De Hf Hf1 H1 σ1 s1 e cls dd sb st hL xi w
    obtain ⟨C1, p, v, m1, e1, e2, hd, is1⟩ := id xi
    subst e1 e2
    refine ⟨decide (e.c = x), hkn _ hL C1 m1, fun hb a ha => ?_, fun hb => ?_⟩
    · have ec : e.c = x := of_decide_eq_true hb
      have w' : Mo.wp (if e.c = x then Mo.noex xs else pickC l e) s1 _ _ := w
      rw [if_pos ec] at w'
      refine ⟨Hf1, s1, StS.nox st, Mo.wp_mono (Mo.wp_noex w') (fun f s2 h2 => ?_) fun _ _ z => z.elim⟩
      cases f with
      | nx a' => exact fun Hf' H' σ' sb' st' => h2 Hf' H' _ (sb.trans sb') (unNox st')
      | rt d => exact fun v Hf' H' e bg r => h2 v Hf' H' e bg r
      | bk b => exact fun Hf' H' σ' sb' st' => h2 Hf' H' _ (sb.trans sb') (unNox st')
      | ct b => exact fun Hf' H' σ' sb' st' => h2 Hf' H' _ (sb.trans sb') (unNox st')
    · have ec : ¬ e.c = x := of_decide_eq_false hb
      have w' : Mo.wp (if e.c = x then Mo.noex xs else pickC l e) s1 _ _ := w
      rw [if_neg ec] at w'
      exact hw sb st hL xi w'
variable {body rest : List Stmt} {h0 : ExceptHandler} {hds : List ExceptHandler} {ex : α → List Sl} {xb : m (Fl ε β)} {l : List (Str × (D → m (Fl ε β)))} {k : ε → m (Fl α β)} {pos : Pos}
theorem dss_tryC (Ck : Cok X fx kk) (hst : X.stack = X.env :: X.outer) (hfr : X.env.frame = some X.env.locals)
    (hb : ∀ W pn xe B, Cok (X.tr pn xe) (fx.tried W B G') kk → PSs (X.tr pn xe) body (tS X.K X.mg (fx.tried W B G') G exA exb xb)) (hh : HdS X fx L G' exA exb (h0 :: hds) l)
    (hr : ∀ a, PSs X rest (tS X.K X.mg fx (exA a) ex exb (k a)))
    (hx' : GxOk fx G' := by first | exact True.intro | repeat' (first | exact True.intro | exact Or.inl rfl | exact Or.inr rfl | refine And.intro ?_ ?_)) :
    PSs X (.Try body (h0 :: hds) [] [] pos :: rest) (tS X.K X.mg fx G ex exb (seqF (tryFs L xb l) k)) := by
  obtain ⟨cl, hcl, hw⟩ := hdS_ok hx' hh
  refine pssI (pss_cons (ps_tryC (tb := fun W D σ H => ∃ B, tS X.K X.mg (fx.tried W B G') G exA exb xb D σ H) (Wout := fx.W) hst hfr Ck.nd Ck.tk (fun W pn xe tk hp => pss_ex fun B => hb W pn xe B ⟨Ck.calm, fun _ => hp, tk, Ck.rm, Ck.nd, Ck.gd⟩) hcl) (pss_ex hr)) fun De σ H ⟨Hf, s, h⟩ => ?_
  obtain ⟨st, w⟩ := h.seq (exA := exA)
  refine ⟨Hf, Hf, s, st.tried _ _, Mo.wp_mono (Mo.wp_try w) (fun f s1 h1 => ?_) (fun e s1 h1 => ?_)⟩
  · cases f with
    | nx a => exact fun Hf' H' σ' sb st' => h1 Hf' H' σ' sb (st.back st')
    | rt d => exact fun v Hf' H' e bg r => h1 v Hf' H' (st.ste.back e) bg r
    | bk b => exact fun Hf' H' σ' sb st' => h1 Hf' H' σ' sb (st.back st')
    | ct b => exact fun Hf' H' σ' sb st' => h1 Hf' H' σ' sb (st.back st')
  · intro cls dd σ1 Hf1 H1 xs1 xi
    have st1 : StS X.K X.mg (fx.tried _ Hf G') Hf1 H1 σ1 G' s1 := xs1
    by_cases hL : (e.c, e.f) ∈ L
    · rw [if_pos hL] at h1
      exact hw st1.ste.sub (st.back st1) hL xi h1
    · rw [if_neg hL] at h1
      exact (Mo.wp_lift h1).elim
end
end DL
/-! ### isinstance of the caught error -/
namespace DL
open PySem PySem.Spec PyProof.Rows L2
def rIsX (K : PySem.W.Frag) (C a dd : Addr) (f : Str) : List V → Hp → VK → Prop := fun xs H Q => ∃ (c v : V) (cv : Value) (b : Bool), xs = [.ref a, c] ∧ ClsV c cv ∧ H dd = some (.xd [(f, v)]) ∧ PySem.W.kitOne K (.ref C) cv = some b ∧ Q (.bl b) H
theorem call_isX {X : Cx} {a C dd : Addr} {f : Str} {oe : Obj} {pn : List (Addr × Obj)} (E : ExcC X.K C) (hz : Zc (.ref C) (some dd) oe) (hf : ∃ vs, oe.data = .fields vs) : CallR (X.suite a ((a, oe) :: pn)) (.builtin "isinstance") (rIsX X.K C a dd f) := by
  intro pins s σ H xs us Q I r h
  obtain ⟨c, v, cv, b, rfl, hcv, hdd, e, q⟩ := h
  obtain ⟨u1, u2, rfl, r1, r2⟩ := vals2 r
  have e2 := hcv.eq r2
  subst e2
  cases (show u1 = Value.ref a from r1)
  obtain ⟨hget, _⟩ := I.pin (a, oe) (List.mem_append.mpr (.inl List.mem_cons_self))
  obtain ⟨vs, hv⟩ := hf
  have hx : ObjOk X.prog X.w H s.heap dd (.xd [(f, v)]) := I.hok dd _ hdd
  obtain ⟨mA, hns, hr⟩ := hx
  obtain ⟨od, ho, hl⟩ := lookIn_ns hns
  have J : PySem.W.InstAt s.heap a oe C (some od) := ⟨hget, hz.1, by unfold PySem.W.notCls; rw [hv] <;> rfl, by rw [hz.2]; exact ho⟩
  have hc : (PySem.W.clsIn X.K C).isSome = true := by
    obtain ⟨cd, hcd, _⟩ := PySem.W.any_some E.hd
    rw [hcd]
    rfl
  exact PySem.W.kia_one (PySem.W.kitx_exc hc E.hg E.hk E.hs E.ha E.hn E.ht E.hm) I.kIn J e (fun z => nomatch z) fun tk => ⟨.bl b, H, I.kept (t' := tk) fun _ _ z => z, rfl, q⟩
section
variable {X : Cx} {m : Type → Type} [Mo m]
theorem de_isiX {fx : Fx} {G : List Sl} {C a dd : Addr} {f : Str} {oe : Obj} {pn : List (Addr × Obj)} {d : D} {n t : Str} {T : String} {b : Bool} {p p1 p2 pos : Pos} (E : ExcC X.K C) (hz : Zc (.ref C) (some dd) oe) (hf : ∃ vs, oe.data = .fields vs) (i : Nat) (hk : PySem.W.kitOne X.K (.ref C) (.type T) = some b)
    (hg : Gl X "isinstance") (hm : X.mg "isinstance" = none) (hg2 : Gl X t) (hm2 : X.mg t = none) (hv2 : bootBuiltins t = some (.type T)) (hG : G[i]? = some (.im (.xc a dd f d)) := by rfl)
    (hN : X.N[i]? = some n := by rfl) (hv : Vis X.env.scope n := by first | exact Or.inl rfl | exact Or.inr (Or.inl rfl) | exact Or.inr (Or.inr rfl)) (hd : (n == ("__debug__" : Str)) = false := by decide) (hcd : (n == ("__classdict__" : Str)) = false := by decide)
    (hn : t ≠ "__name__" := by decide) (hdb : (t == ("__debug__" : Str)) = false := by decide)
    (hs : starEach [.Name n p1, .Name t p2] X.env = (false, eval (.Name n p1) X.env) :: starEach [.Name t p2] X.env := by rfl) (hs2 : starEach [.Name t p2] X.env = (false, eval (.Name t p2) X.env) :: starEach [] X.env := by rfl) (hpl : (backTo pos (starEach [.Name t p2] X.env)).any (·.1) = false := by rfl) :
    PE (X.suite a ((a, oe) :: pn)) (.Call (.Name "isinstance" p) [.Name n p1, .Name t p2] [] pos) (tE (X.suite a ((a, oe) :: pn)).K (X.suite a ((a, oe) :: pn)).mg fx G (pure (.bl b) : m D)) :=
  peI (pe_callB (X := X.suite a ((a, oe) :: pn)) (call_isX (f := f) E hz hf) hg hm rfl (pa_cons (pe_var (X := X.suite a ((a, oe) :: pn)) hN hv hd hcd) (pa_cons (pe_bltn (X := X.suite a ((a, oe) :: pn)) (v := .ty T) hg2 hm2 hv2 rfl hn hdb) pa_nil hs2) hs) (by decide) (by decide) hs hpl) fun σ H Q ⟨Hf, s, h⟩ => by
    obtain ⟨v, ev, e, u, hu, iu⟩ := h.1.sl i _ hG
    subst e
    exact ⟨.ref a, ev, .ty T, u, _, b, rfl, .ty T, h.1.top _ _ hu, hk, h.pure (is_bl _)⟩
end
end DL
/-! ### calls by their shape; classes: objects as data -/
namespace DL
open PySem PySem.Spec PyProof.Rows L2
theorem guards_make {A : Around} {C : Addr} {us : List Value} {kw : List (Str × Value)} (h : A.guards = some []) : (A.under (.builtin "type.__call__" ⟨.ref C :: us, kw⟩)).guards = some [] := by
  first | exact h | simp [Around.under, Code.weight, Code.isCreation, Code.isGuard, Code.isCaller, Code.frames, Code.isFrame, guardIds, h]
/-- a promise by a call's shape: values by position, then those by the names ks -/
def FnP (P : Program) (w : World) (K : PySem.W.Frag) (mg : Str → Option Value) (base : Heap) (k : Nat) (f : Addr) (ks : List Str) (sp : Sp) : Prop :=
  ∀ (A : Around) (outer : List Env) (s : Shared) (H : Hp) (us ws : List Value) (vs : List V) (Q : VK) (E : XK), A.guards = some [] → Room k A → Env0 P w K mg base A outer s H → ws.length = ks.length → Vals vs (us ++ ws) → sp vs H Q E →
    codeAny (model P w) A (.call (.ref f) ⟨us, ks.zip ws⟩) (CR (CXm P w mg) outer P w H s Q E) s
section
variable {P : Program} {w : World} {K : PySem.W.Frag} {mg : Str → Option Value} {base : Heap} {j k : Nat} {f : Addr} {fd : FuncData} {ps ks : List Str} {sp sp' : Sp}
theorem FnP.mono (F : FnP P w K mg base j f ks sp) (h : j ≤ k) : FnP P w K mg base k f ks sp := fun A outer s H us ws vs Q E hg hr => F A outer s H us ws vs Q E hg (hr.mono h)
theorem FnP.imp (F : FnP P w K mg base k f ks sp) (h : ∀ vs H Q E, sp' vs H Q E → sp vs H Q E) : FnP P w K mg base k f ks sp' := fun A outer s H us ws vs Q E hg hr e0 hw r hs => F A outer s H us ws vs Q E hg hr e0 hw r (h _ _ _ _ hs)
/-- by position -/
theorem FnG.pos (F : FnG P w K mg base k f fd ps sp) (hb : Binds K fd ps []) : FnP P w K mg base k f [] sp := fun A outer s H us ws vs Q E hg hr e0 hw r hs => by
  have e : ws = [] := List.length_eq_zero_iff.mp hw
  subst e
  rw [List.append_nil] at r
  have hl : (us ++ []).length = ps.length := by
    rw [List.append_nil, ← r.length]
    exact F.len _ _ _ _ hs
  have b := hb s us (e0.mod.kin.keeps fun b o e => (e0.bs b o e).1) hl
  rw [List.append_nil] at b
  exact F.run A outer s H ⟨us, []⟩ us vs Q E hg hr e0 b r hs
end
section
variable {X : Cx} {k : Nat} {f C : Addr} {ks : List Str} {sp : Sp} {E : L2.St → XK} {x m : Str} {p pos apos : Pos} {e o : Expr} {es : List Expr} {kws : List Keyword} {ta : TE} {t tk : TA}
/-- a class is called -/
theorem run_makeP {pins : List (Addr × Obj)} {σ : L2.St} {H : Hp} {s : Shared} {Q : VK} {us ws : List Value} {vs : List V} (M : Mk X.K C f) (F : FnP X.prog X.w X.K X.mg X.base k f ks sp) (hg : X.A.guards = some []) (hr : Room (k + 1) X.A)
    (hx : PassesAt (CXm X.prog X.w X.mg) X σ (E σ)) (I : L2.Inv X pins σ H s) (hw : ws.length = ks.length) (r : Vals vs (us ++ ws))
    (h : ∀ x dx, H x = none → H dx = none → dx ≠ x → sp (.ref x :: vs) (upd (upd H dx (.own x)) x (.ins C dx [])) (fun v H2 => v = .non ∧ Q (.ref x) H2) (E σ)) :
    wpAny (model X.prog X.w) X.A (call (.ref C) us (ks.zip ws)) (EP X pins σ Q) X.xe s := by
  have hq := h (s.heap.objs.size + 1) s.heap.objs.size (I.hok.fresh (Nat.le_succ _)) (I.hok.fresh (Nat.le_refl _)) (Nat.ne_of_lt (Nat.lt_succ_self _))
  have I2 := L2.Inv.made (C := C) I
  have r2 : Vals (V.ref (s.heap.objs.size + 1) :: vs) ((Value.ref (s.heap.objs.size + 1) :: us) ++ ws) := .cons rfl r
  refine wpAny_call (make_map (f := f) I.kIn M.makes M.init (beq_iff_eq.mp M.fn) (codeAny_mono (F _ X.stack _ _ (Value.ref (s.heap.objs.size + 1) :: us) ws _ _ (E σ) (guards_make hg) (hr.make C us (ks.zip ws))
    (I2.env0.make C us (ks.zip ws)) hw r2 hq) fun r s' hq' => ?_))
  cases r with
  | error e => exact hx pins _ _ e s' I2 hq'
  | ok fl =>
    cases fl with
    | ret u =>
      obtain ⟨v, H', I3, rv, ev, q3⟩ := I2.after hq'
      subst ev
      exact ⟨rv, ⟨V.ref (s.heap.objs.size + 1), H', I3, rfl, q3⟩⟩
    | next => exact False.elim hq'
    | brk => exact False.elim hq'
    | cont => exact False.elim hq'
end
theorem evalArgs_kw0 {M : Model} {A : Around} {E : Value → Shared → Prop} {s : Shared} {f : Value} {keywords : List (Option Str × Sem Value)} {Q : Args → Shared → Prop}
    (hall : keywords.all (·.1.isSome) = true)
    (h : wpAny M A (spliced []) (fun vs s₁ => wpAny M A (evalAll (keywords.map (·.2))) (fun ks s₂ => Q ⟨vs, (keywords.filterMap (·.1)).zip ks⟩ s₂) E s₁) E s) :
    wpAny M A (evalArgs f true [] keywords) Q E s := by
  unfold evalArgs
  show wpAny M A (spliced [] >>= _) Q E s
  refine wpAny_bind (wpAny_mono h (fun vs s₁ h₁ => ?_) fun _ _ x => x)
  refine wpAny_bind (wpAny_pure ?_)
  refine wpAny_holding ?_
  simp only [hall, if_true]
  refine wpAny_bind (wpAny_mono h₁ (fun ks s₂ h₂ => ?_) fun _ _ x => x)
  exact wpAny_bind (wpAny_pure (wpAny_pure h₂))
def ArgHd (env : Env) : List Expr → Prop
  | [] => True
  | e :: es => starEach (e :: es) env = (false, eval e env) :: starEach es env
/-- the arguments of a call, by position and by name -/
theorem args_run {X : Cx} {es : List Expr} {kws : List Keyword} {ks : List Str} {t tk : TA} {pos : Pos} {f : Value} {first : List Value} {pins : List (Addr × Obj)} {s : Shared} {σ : L2.St} {H : Hp} {Q : VK}
    (hkp : PySem.W.keepIn X.K f = true) (ha : PA X es t) (hk : PK X kws tk) (I : L2.Inv X pins σ H s)
    (h : t σ H fun vs H1 => tk σ H1 fun zs H2 => zs.length = ks.length ∧ ∀ s2 us ws, L2.Inv X pins σ H2 s2 → ws.length = ks.length → Vals (vs ++ zs) (us ++ ws) → wpAny (model X.prog X.w) X.A (call f (first ++ us) (ks.zip ws)) (EP X pins σ Q) X.xe s2)
    (he : ArgHd X.env es := by first | exact True.intro | exact rfl)
    (hks : (backToKw pos (keywordEach kws X.env)).filterMap (·.1) = ks := by rfl)
    (hall : (backToKw pos (keywordEach kws X.env)).all (·.1.isSome) = true := by rfl)
    (hpl : ((backTo pos (starEach es X.env)).any (·.1) || (backToKw pos (keywordEach kws X.env)).any (·.1.isNone)) = false := by rfl) :
    wpAny (model X.prog X.w) X.A (callWith pos f first (backTo pos (starEach es X.env)) (backToKw pos (keywordEach kws X.env))) (EP X pins σ Q) X.xe s := by
  have fin : ∀ {us : List Value} {vs : List V} {H1 : Hp} {s1 : Shared}, L2.Inv X pins σ H1 s1 → Vals vs us → (tk σ H1 fun zs H2 => zs.length = ks.length ∧ ∀ s2 us ws, L2.Inv X pins σ H2 s2 → ws.length = ks.length → Vals (vs ++ zs) (us ++ ws) → wpAny (model X.prog X.w) X.A (call f (first ++ us) (ks.zip ws)) (EP X pins σ Q) X.xe s2) →
      wpAny (model X.prog X.w) X.A (evalAll ((backToKw pos (keywordEach kws X.env)).map (·.2))) (fun ws s₂ => X.K.In s₂.heap ∧ wpAny (model X.prog X.w) X.A (call f (first ++ us) (((backToKw pos (keywordEach kws X.env)).filterMap (·.1)).zip ws)) (EP X pins σ Q) X.xe s₂) X.xe s1 := by
    intro us vs H1 s1 I1 r q
    refine thn (hk.run pos pins s1 σ H1 _ I1 q) fun ws s2 ⟨zs, H2, I2, rz, hz, q2⟩ => ⟨I2.kIn, ?_⟩
    rw [hks]
    exact q2 s2 us ws I2 (rz.length.symm.trans hz) (r.append rz)
  cases es with
  | nil => exact PySem.W.callWith_of hpl (PySem.W.keeps_K hkp) (evalArgs_kw0 hall (thn (ha.run pos pins s σ H _ I h) fun us s1 ⟨vs, H1, I1, r, q⟩ => fin I1 r q))
  | cons e es => exact PySem.W.callWith_of hpl (PySem.W.keeps_K hkp) (evalArgs_kw2 hall (thn (ha.run pos pins s σ H _ I h) fun us s1 ⟨vs, H1, I1, r, q⟩ => fin I1 r q) he)
/-! ### the making of an object -/
def runI : R (Fl (List D) Empty) → R (List D)
  | .ok (.nx es) => .ok es
  | .ok (.rt _) => .stuck
  | .ok (.bk b) => b.elim
  | .ok (.ct b) => b.elim
  | .ex e => .ex e
  | .stuck => .stuck
def spI (K : PySem.W.Frag) (mg : Str → Option Value) (ns : List Str) (L : Nat → Prop) (g : List D → R (List D)) : Sp := fun vs H Q E => L vs.length ∧ ∃ x C dx rest Hf ds, vs = .ref x :: rest ∧ Sub Hf H ∧ Hf x = none ∧ H x = some (.ins C dx []) ∧ Cls K C ∧ (∀ f ∈ ns, NoAttr K C f) ∧ IsL K mg Hf ds rest ∧ (match g ds with
  | .ok es => ∀ us Hf' H', Ste [x] Hf H Hf' H' → H' x = some (.ins C dx (ns.zip us)) → ns.length = us.length → IsL K mg Hf' es us → Hf' x = none → Q .non H'
  | .ex e => ∀ cls dd Hf' H', Ste [x] Hf H Hf' H' → ExIs K mg Hf' H' e cls dd → E cls dd H'
  | .stuck => False)
abbrev fxI (ns : List Str) (x : Addr) (H Hf : Hp) (E : XK) : Fx := ⟨[], H, Hf, fun cls d _ H' => E cls d H', none, false, [x], ns⟩
def GI (N : List Str) (ds : List D) : List Sl := .ob [] [] :: (ds.map Sl.im ++ List.replicate (N.length - ds.length - 1) .un)
def exI (N ns : List Str) (es : List D) : List Sl := .ob ns es :: (N.tail.map fun _ => .un)
section
variable {K : PySem.W.Frag} {mg : Str → Option Value}
theorem StS.initI {Hf H : Hp} {E : XK} {ds : List D} {vs : List V} {N : List Str} {s : S} {x C dx : Addr} (sb : Sub Hf H) (hf : Hf x = none) {ns : List Str} (hx : H x = some (.ins C dx [])) (c : Cls K C) (na : ∀ f ∈ ns, NoAttr K C f) (l : IsL K mg Hf ds vs) (hn : vs.length + 1 ≤ N.length) :
    StS K mg (fxI ns x H Hf E) Hf H (start N (.ref x :: vs)) (GI N ds) s := by
  refine ⟨.refl sb, trivial, fun b m => ?_, ?_, fun i y e => ?_, fun i j y z p ne ey ez oy oz e1 e2 => ?_⟩
  · have : b = x := by
      rcases List.mem_append.mp m with m | m
      · simpa using m
      · cases m
    subst this
    exact ⟨hf, by rw [hx]; simp, fun _ => by show H b ≠ none; rw [hx]; simp⟩
  · rw [start_len (by simpa using hn)]
    unfold GI
    have := l.len
    simp
    omega
  · cases i with
    | zero =>
      cases e
      exact ⟨x, C, dx, [], start_at rfl, hx, hf, ⟨by simp, [], hx⟩, by simp, ⟨c, na⟩, rfl, rfl⟩
    | succ i =>
      have e' : (ds.map Sl.im ++ List.replicate (N.length - ds.length - 1) .un)[i]? = some y := e
      have q := slOk_G0 (fx := fxI ns x H Hf E) (H := H) (N := N) l e'
      cases y with
      | un => trivial
      | im d =>
        obtain ⟨v, hv, hi⟩ := q
        refine ⟨v, ?_, hi⟩
        cases h : vs[i]? with
        | none => rw [h] at hv; cases hv
        | some w => rw [h] at hv; cases hv; exact start_at (by simpa using h)
      | ow ds => exact (isOw_im e' rfl).elim
      | od ks ds => exact (isOw_im e' rfl).elim
      | ob ns ds => exact (isOw_im e' rfl).elim
      | bg =>
        obtain ⟨b, r, e, _⟩ := q
        cases e
  · have z1 : i = 0 := by
      cases i with
      | zero => rfl
      | succ i => exact (isOw_im (n := N.length - ds.length - 1) (ds := ds) (i := i) ey oy).elim
    have z2 : j = 0 := by
      cases j with
      | zero => rfl
      | succ j => exact (isOw_im (n := N.length - ds.length - 1) (ds := ds) (i := j) ez oz).elim
    exact ne (z1.trans z2.symm)
end
theorem runI_read {K : PySem.W.Frag} {mg : Str → Option Value} {ns N : List Str} {o C dx : Addr} {H Hf : Hp} {E : XK} {Q : VK} {body : R (Fl (List D) Empty)} {s : S} (hx : H o = some (.ins C dx []))
    (q : match runI body with
      | .ok es => ∀ us Hf' H', Ste [o] Hf H Hf' H' → H' o = some (.ins C dx (ns.zip us)) → ns.length = us.length → IsL K mg Hf' es us → Hf' o = none → Q .non H'
      | .ex e => ∀ cls dd Hf' H', Ste [o] Hf H Hf' H' → ExIs K mg Hf' H' e cls dd → E cls dd H'
      | .stuck => False) :
    Mo.wp body s (FP K mg (fxI ns o H Hf E) Hf (exI N ns) Empty.elim { nx := fun _ H' => Q .non H', rt := Q }) (EXS K mg (fxI ns o H Hf E)) := by
  show R.wp body _ _ _
  cases body with
  | ok f =>
    cases f with
    | nx es =>
      refine fun Hf' H' σ' _ st => ?_
      obtain ⟨p, C', dx', us, ep, hp', hf', ⟨hm, f0, h00⟩, _, _, hl2, l2⟩ := st.sl 0 _ rfl
      have e1 : p = o := by simpa using hm
      subst e1
      have e2 : C' = C ∧ dx' = dx := by
        have z : H p = some (.ins C' dx' f0) := h00
        rw [hx] at z
        cases z
        exact ⟨rfl, rfl⟩
      obtain ⟨rfl, rfl⟩ := e2
      exact q us Hf' H' st.ste hp' hl2 l2 hf'
    | rt d => exact (show False from q).elim
    | bk b => exact b.elim
    | ct b => exact b.elim
  | ex e => exact fun cls dd σ' Hf' H' st x => q cls dd Hf' H' st.1 x
  | stuck => exact q
section
variable {X : Cx} {fx : Fx} {m : Type → Type} [Mo m] {G : List Sl} {α β : Type} {kk : Nat} {e : Expr} {rest : List Stmt} {ex : α → List Sl} {exb : β → List Sl} {pos pos' : Pos} {x : m D} {k : D → m (Fl α β)} {f n : Str} {np : Pos} {ns : List Str} {ds : List D}
theorem putF_new {f : Str} {y : V} : ∀ {ns : List Str} {vs : List V}, ns.length = vs.length → f ∉ ns → putF f y (ns.zip vs) = (ns ++ [f]).zip (vs ++ [y])
  | [], [], _, _ => rfl
  | g :: ns, v :: vs, hl, hn => by
    have h1 : g ≠ f := fun z => hn (by simp [z])
    show putF f y ((g, v) :: ns.zip vs) = (g, v) :: (ns ++ [f]).zip (vs ++ [y])
    unfold putF
    rw [if_neg h1, putF_new (by simpa using hl) fun z => hn (List.mem_cons_of_mem _ z)]
  | [], _ :: _, hl, _ => by simp at hl
  | _ :: _, [], hl, _ => by simp at hl
/-- self.f = e, in __init__ -/
theorem dss_fld (i : Nat) (he : PE X e (tE X.K X.mg fx G x)) (hr : ∀ d, PSs X rest (tS X.K X.mg fx (G.set i (.ob (ns ++ [f]) (ds ++ [d]))) ex exb (k d))) (hG : G[i]? = some (.ob ns ds) := by rfl) (hN : X.N[i]? = some n := by rfl) (hf : f ∉ ns := by decide +kernel) (hm : f ∈ fx.nas := by decide +kernel) (hz : ns.length < 1000 := by decide)
    (hv : Vis X.env.scope n := by first | exact Or.inl rfl | exact Or.inr (Or.inl rfl) | exact Or.inr (Or.inr rfl)) (hd : (n == ("__debug__" : Str)) = false := by decide) (hcd : (n == ("__classdict__" : Str)) = false := by decide)
    (hs : swapsWith e (some (.Attribute (.Name n np) f pos')) pos.line X.env = pure false := by rfl) (hg : GxOk fx G := by first | exact True.intro | repeat' (first | exact True.intro | exact Or.inl rfl | exact Or.inr rfl | refine And.intro ?_ ?_)) :
    PSs X (.Assign [.Attribute (.Name n np) f pos'] e pos :: rest) (tS X.K X.mg fx G ex exb (x >>= k)) := pssI (pss_cons (ps_fld (pe_var hN hv hd hcd) he hs) (pss_ex hr)) fun De σ H ⟨Hf, s, h⟩ =>
  ((h.bind hg).mono fun v H1 ⟨d, Hf1, s1, sb, r, h1⟩ => by
    obtain ⟨p, C, dx, vs, ep, hp, hf', h0, nb, ⟨c, na⟩, hl, l⟩ := h1.1.sl i _ hG
    refine ⟨.ref p, ep, p, C, dx, ns.zip vs, rfl, hp, c, na _ hm, ?_, d, Hf1, s1, ?_, h1.2⟩
    · rw [List.length_zip, ← hl, Nat.min_self]; exact hz
    · refine h1.1.updAt hG rfl ep rfl ⟨p, C, dx, vs ++ [v], rfl, ?_, hf', h0, nb, ⟨c, na⟩, by simp [hl], l.app (.cons r .nil)⟩
      rw [upd_same, putF_new hl hf]).to
theorem lookup_zip {f : Str} : ∀ {ns : List Str} {vs : List V} {j : Nat} {v : V}, ns.idxOf? f = some j → vs[j]? = some v → (ns.zip vs).lookup f = some v
  | [], _, _, _, e, _ => by cases e
  | g :: ns, [], _, _, _, e => by simp at e
  | g :: ns, v :: vs, j, w, e, e2 => by
    by_cases h : g = f
    · subst h
      have z : j = 0 := by simpa [List.idxOf?, List.findIdx?_cons] using e.symm
      subst z
      simp at e2
      subst e2
      simp
    · have h' : (f == g) = false := by simpa using Ne.symm h
      have h2 : (g == f) = false := by simpa using h
      cases j with
      | zero =>
        exfalso
        simp [List.idxOf?, List.findIdx?_cons, h2] at e
      | succ j =>
        have e' : ns.idxOf? f = some j := by
          simp [List.idxOf?, List.findIdx?_cons, h2] at e ⊢
          exact e
        have := lookup_zip e' (by simpa using e2)
        simpa [List.lookup, h'] using this
end
end DL
/-! ### objects: made, read, asked -/
namespace DL
open PySem PySem.Spec PyProof.Rows L2
/-- a class of the program -/
structure ClsN (K : PySem.W.Frag) (mg : Str → Option Value) (c : Str) (C : Addr) : Prop where
  mg : mg c = some (.ref C)
  cl : Cls K C
  ca : PySem.W.findIn K (.ref C) "__class__" = some (some (.builtin "object.__class__"))
  cn : PySem.W.specialIn K (.builtin "object.__class__") "__get__" = some (some (.builtin "getset_descriptor.__get__"))
  ct : PySem.W.takesIn K (.builtin "object.__class__") = some true
  cm : PySem.W.mroIn K C (.type "object") = some true
section
variable {X : Cx} {fx : Fx} {m : Type → Type} [Mo m] {G : List Sl} {es : List Expr} {kws : List Keyword} {ks : List Str} {pos p : Pos} {ys zz : m (List D)} {kk j n : Nat} {c : Str} {C fI : Addr} {ns : List Str} {g : List D → R (List D)}
/-- an object is made: what __init__ is asked -/
theorem make_core {vs : List V} {ds : List D} {Hf : Hp} {s : S} {σ : L2.St} {H : Hp} {Q : VK} {x dx : Addr} (cn : ClsN X.K X.mg c C) (na : ∀ f ∈ ns, NoAttr X.K C f) {L : Nat → Prop} (hn : L (ds.length + 1)) (r : IsL X.K X.mg Hf ds vs) (h : tX X.K X.mg fx G (fun H d v => Is X.K X.mg H d v) (Mo.lift (g ds) >>= fun es => pure (.ins c ns es) : m D) Hf s σ H Q) (hx : H x = none) (hdx : H dx = none) (hne : dx ≠ x) :
    spI X.K X.mg ns L g (.ref x :: vs) (upd (upd H dx (.own x)) x (.ins C dx [])) (fun v H2 => v = .non ∧ Q (.ref x) H2) (WE fx.W σ) := by
  have w := Mo.wp_lift (Mo.wp_bind h.2)
  have hl := r.len
  have e2 : ∀ a o, H a = some o → upd (upd H dx (.own x)) x (.ins C dx []) a = some o := fun a o q => by rw [upd_ne (ne_of_none q hx), upd_ne (ne_of_none q hdx)]; exact q
  have hfx : Hf x = none := h.1.top.none hx
  have up : ∀ {Hf' H' : Hp}, Ste [x] Hf (upd (upd H dx (.own x)) x (.ins C dx [])) Hf' H' → Ste [] Hf H Hf' H' := fun {Hf' H'} st => ⟨st.sub, st.top, fun a o q _ => st.keep a o (e2 a o q) (by simpa using ne_of_none q hx), fun a q => st.dom a (by
    cases z : H a with
    | none => exact absurd z q
    | some o => rw [e2 a o z]; simp), fun a o q => by
    rcases st.fresh a o q with z | z
    · exact .inl z
    · refine .inr ?_
      cases y : H a with
      | none => rfl
      | some u => rw [e2 a u y] at z; cases z⟩
  refine ⟨by rw [List.length_cons, ← hl]; exact hn, x, C, dx, vs, Hf, ds, rfl, fun a o q => e2 a o (h.1.top a o q), hfx, upd_same, cn.cl, na, r, ?_⟩
  cases z : g ds with
  | ok es =>
    rw [z] at w
    intro us Hf' H' st hp hnl l hf'
    refine ⟨rfl, ?_⟩
    have w' := Mo.wp_pure w
    have st0 := up st
    have sb : Sub Hf' (upd Hf' x (.ins C dx (ns.zip us))) := fun a o q => by
      have ne : a ≠ x := fun z => by rw [z, hf'] at q; cases q
      rw [upd_ne ne]; exact q
    have st1 : Ste [] Hf H (upd Hf' x (.ins C dx (ns.zip us))) H' := ⟨st0.sub.trans sb, fun a o q => by
        by_cases c : a = x
        · subst c; rw [upd_same] at q; cases q; exact hp
        · rw [upd_ne c] at q; exact st0.top a o q, st0.keep, st0.dom, fun a o q => by
        by_cases c : a = x
        · subst c; exact .inr hx
        · rw [upd_ne c] at q; exact st0.fresh a o q⟩
    exact w' (.ref x) _ H' st1.wide (st1.bag h.1.bag) ⟨x, C, dx, us, rfl, cn.mg, upd_same, hnl, l.mono sb⟩
  | ex e =>
    rw [z] at w
    exact fun cls dd Hf' H' st xi => w cls dd Hf' H' (h.1.step (up st).wide ((up st).bag h.1.bag)) xi
  | stuck => rw [z] at w; exact w
/-- C(e, ..) -/
theorem de_make {L : Nat → Prop} (Ck : Cok X fx kk) (cn : ClsN X.K X.mg c C) (na : ∀ f ∈ ns, NoAttr X.K C f) (M : Mk X.K C fI) (F : FnP X.prog X.w X.K X.mg X.base j fI [] (spI X.K X.mg ns L g)) (ha : PA X es (tA X.K X.mg fx G ys)) (hn : ∀ ds : List D, g ds ≠ .stuck → L (ds.length + 1))
    (hj : j + 1 ≤ kk := by decide) (hg : Gl X c := by rfl) (hdb : (c == ("__debug__" : Str)) = false := by decide)
    (he : ArgHd X.env es := by first | exact True.intro | exact rfl)
    (hpl : ((backTo pos (starEach es X.env)).any (·.1) || (backToKw pos (keywordEach [] X.env)).any (·.1.isNone)) = false := by rfl) :
    PE X (.Call (.Name c p) es [] pos) (tE X.K X.mg fx G (do let ds ← ys; let es ← Mo.lift (g ds); pure (.ins c ns es))) := by
  refine ⟨fun pins s σ H Q I ⟨Hf, s0, h⟩ => ?_⟩
  refine wpAny_Call_Name_kw (ld_glob I hg cn.mg ?_ hdb)
  refine args_run (ks := []) (tk := tNil) M.kp ha pk_nil I ?_ he rfl rfl hpl
  refine (h.bind.mono fun vs H1 ⟨ds, Hf1, s1, sb, r, h1⟩ => ?_).to
  refine ⟨rfl, fun s2 us ws I2 hw rv => ?_⟩
  rw [List.append_nil] at rv
  have hlen : L (ds.length + 1) := hn ds fun z => by
    have w := Mo.wp_lift (Mo.wp_bind h1.2)
    rw [z] at w
    exact w
  exact run_makeP (E := WE fx.W) M F Ck.gd (Ck.rm.mono hj) (passAt Ck.tk σ) I2 hw rv fun x dx hx hdx hne => make_core cn na hlen r h1 hx hdx hne
end
/-! ### attributes, methods, properties -/
def fldD (cs : List Str) (f : Str) : D → Option D
  | .ins c ns ds => if c ∈ cs then (ns.idxOf? f).bind (ds[·]?) else none
  | _ => none
def FldOk (K : PySem.W.Frag) (mg : Str → Option Value) (f : Str) (cs : List Str) : Prop := ∀ c ∈ cs, ∃ C, mg c = some (.ref C) ∧ Cls K C ∧ NoAttr K C f
theorem lookup_mem {α : Type} {c : Str} {g : α} : ∀ {L : List (Str × α)}, L.lookup c = some g → (c, g) ∈ L
  | [], h => by cases h
  | (d, a) :: L, h => by
    by_cases q : c = d
    · subst q
      simp [List.lookup] at h
      subst h
      exact .head _
    · have q' : (c == d) = false := by simpa using q
      simp [List.lookup, q'] at h
      exact .tail _ (lookup_mem h)
section
variable {X : Cx} {fx : Fx} {m : Type → Type} [Mo m] {G : List Sl} {o : Expr} {es : List Expr} {pos p apos : Pos} {x : m D} {ys : m (List D)} {kk j : Nat} {f mn : Str} {cs : List Str}
theorem de_fld (cs : List Str) (ho : PE X o (tE X.K X.mg fx G x)) (hf : FldOk X.K X.mg f cs) (hb : attributeBase o f X.env (eval o X.env) = eval o X.env := by rfl) : PE X (.Attribute o f pos) (tE X.K X.mg fx G (do let u ← x; DL.ask (fldD cs f u))) :=
  peI (pe_fld ho hb) fun σ H Q ⟨Hf, s, h⟩ => (h.bind.mono fun v1 H1 ⟨d1, Hf1, s1, sb1, r1, h1⟩ => by
    obtain ⟨d, e, q⟩ := h1.ask
    cases d1 with
    | ins c ns ds =>
      have e' : (if c ∈ cs then (ns.idxOf? f).bind (ds[·]?) else none) = some d := e
      by_cases hc : c ∈ cs
      · rw [if_pos hc] at e'
        obtain ⟨C, mC, cl, na⟩ := hf c hc
        obtain ⟨a, C', dx, vs, ea, mC', ha, hl, l⟩ := r1
        rw [mC] at mC'
        cases mC'
        cases e1 : ns.idxOf? f with
        | none => rw [e1] at e'; cases e'
        | some i =>
          rw [e1] at e'
          obtain ⟨v, ev, iv⟩ := l.get (show ds[i]? = some d from e')
          exact ⟨a, C, dx, _, v, ea, h1.1.top _ _ ha, cl, na, lookup_zip e1 ev, q v Hf1 H1 (.refl h1.1.top) iv⟩
      · rw [if_neg hc] at e'; cases e'
    | _ => cases e).to
end
end DL
/-! ### properties, isinstance, calls by names -/
namespace DL
open PySem PySem.Spec PyProof.Rows L2
/-! isinstance -/
/-- what isinstance says of a class tv: of the program's classes, of the built-in ones -/
structure IsT (K : PySem.W.Frag) (mg : Str → Option Value) (tv : Value) (L : List (Str × Bool)) (B : List (String × Bool)) : Prop where
  own : ∀ q ∈ L, ∃ C, ClsN K mg q.1 C ∧ PySem.W.kitOne K (.ref C) tv = some q.2
  bl : ∀ q ∈ B, PySem.W.kitOne K (.type q.1) tv = some q.2
def isiT (L : List (Str × Bool)) (B : List (String × Bool)) : D → Option D
  | .ins c _ _ => (L.lookup c).map .bl
  | d => match tyD d with
    | some a => (B.lookup a).map .bl
    | none => none
theorem lookup_mem' {α β : Type} [BEq α] [LawfulBEq α] {c : α} {g : β} : ∀ {L : List (α × β)}, L.lookup c = some g → (c, g) ∈ L
  | [], h => by cases h
  | (d, a) :: L, h => by
    by_cases q : c = d
    · subst q
      simp [List.lookup] at h
      subst h
      exact .head _
    · have q' : (c == d) = false := by simpa using q
      simp [List.lookup, q'] at h
      exact .tail _ (lookup_mem' h)
section
variable {X : Cx} {fx : Fx} {m : Type → Type} [Mo m] {G : List Sl} {e e2 : Expr} {pos p : Pos} {x : m D}
theorem isi_call {pins : List (Addr × Obj)} {σ : L2.St} {H Hf : Hp} {s : Shared} {Q : VK} {d r : D} {v : V} {u tv : Value} {L : List (Str × Bool)} {B : List (String × Bool)} (T : IsT X.K X.mg tv L B) (I : L2.Inv X pins σ H s) (sb : Sub Hf H) (i : Is X.K X.mg Hf d v) (ru : L2.RelV v u) (hr : isiT L B d = some r)
    (q : ∀ w Hf' H', Ste [] Hf H Hf' H' → Is X.K X.mg Hf' r w → Q w H') : wpAny (model X.prog X.w) X.A (call (.builtin "isinstance") [u, tv]) (EP X pins σ Q) X.xe s := by
  have other : ∀ {a : String} {b : Bool}, tyD d = some a → B.lookup a = some b → r = .bl b → wpAny (model X.prog X.w) X.A (call (.builtin "isinstance") [u, tv]) (EP X pins σ Q) X.xe s := by
    intro a b e1 e2 e3
    subst e3
    obtain ⟨P, Z, p, hx⟩ := kit_of I ru (tyD_is sb i e1)
    exact PySem.W.kia_one Z I.kIn p (T.bl _ (lookup_mem' e2)) hx fun tk => ⟨.bl b, H, I.tok tk, rfl, q _ Hf H (.refl sb) (is_bl _)⟩
  cases d with
  | ins c ns ds =>
    have e' : (L.lookup c).map D.bl = some r := hr
    cases hb : L.lookup c with
    | none => rw [hb] at e'; cases e'
    | some b =>
      rw [hb] at e'
      cases e'
      obtain ⟨C, cn, hk⟩ := T.own _ (lookup_mem hb)
      obtain ⟨a, C', dx, us, ea, mC', hH, hl, l⟩ := i
      subst ea
      cases (show u = Value.ref a from ru)
      have mC := cn.mg
      rw [mC'] at mC
      cases mC
      obtain ⟨mA, O, _⟩ := ins_get I.hok (sb _ _ hH)
      obtain ⟨od, J, _⟩ := O.look
      have ic : PySem.W.isClsIn X.K C = true := by
        obtain ⟨cd, hc, _⟩ := PySem.W.any_some cn.cl.hd
        show (PySem.W.clsIn X.K C).isSome = true
        rw [hc]
        rfl
      exact PySem.W.kia_one (OwX.kitx_slt ic (cn.cl.get _) cn.ca cn.cn cn.ct cn.cm) I.kIn J hk (fun z => nomatch z) fun tk => ⟨.bl b, H, I.tok _, rfl, q _ Hf H (.refl sb) (is_bl _)⟩
  | _ =>
    simp only [isiT] at hr
    split at hr
    · rename_i a e1
      cases e2 : B.lookup a with
      | none => rw [e2] at hr; cases hr
      | some b => rw [e2] at hr; cases hr; exact other e1 e2 rfl
    · cases hr
/-- a class's name as a value -/
theorem pe_own {c : Str} {C : Addr} (h : X.mg c = some (.ref C)) (hg : Gl X c := by rfl) (hd : (c == ("__debug__" : Str)) = false := by decide) : PE X (.Name c p) (fun _ H Q => Q (.ref C) H) := pe_glob hg h (v := .ref C) rfl hd
def rIsT (X : Cx) (L : List (Str × Bool)) (B : List (String × Bool)) (c : V) : List V → Hp → VK → Prop := fun xs H Q => ∃ Hf d v r, xs = [v, c] ∧ Sub Hf H ∧ Is X.K X.mg Hf d v ∧ isiT L B d = some r ∧ ∀ w Hf' H', Ste [] Hf H Hf' H' → Is X.K X.mg Hf' r w → Q w H'
theorem call_isT {tv : Value} {c : V} {L : List (Str × Bool)} {B : List (String × Bool)} (k : ClsV c tv) (T : IsT X.K X.mg tv L B) : CallR X (.builtin "isinstance") (rIsT X L B c) := by
  intro pins s σ H xs us Q I r h
  obtain ⟨Hf, d, v, rr, rfl, sb, i, e, q⟩ := h
  obtain ⟨u1, u2, rfl, r1, r2⟩ := vals2 r
  have e2 := k.eq r2
  subst e2
  exact isi_call T I sb i r1 e q
theorem de_isT {tv : Value} {cv : V} {L : List (Str × Bool)} {B : List (String × Bool)} (k : ClsV cv tv) (T : IsT X.K X.mg tv L B) (he : PE X e (tE X.K X.mg fx G x)) (hc : PE X e2 (fun _ H Q => Q cv H)) (hg : Gl X "isinstance") (hm : X.mg "isinstance" = none)
    (hs : starEach [e, e2] X.env = (false, eval e X.env) :: starEach [e2] X.env := by rfl) (hs2 : starEach [e2] X.env = (false, eval e2 X.env) :: starEach [] X.env := by rfl) (hpl : (backTo pos (starEach [e2] X.env)).any (·.1) = false := by rfl) :
    PE X (.Call (.Name "isinstance" p) [e, e2] [] pos) (tE X.K X.mg fx G (do let d ← x; DL.ask (isiT L B d))) :=
  peI (pe_callB (call_isT k T) hg hm rfl (pa_cons he (pa_cons hc pa_nil hs2) hs) (by decide) (by decide) hs hpl) fun σ H Q ⟨Hf, s, h⟩ =>
  (h.bind.mono fun v1 H1 ⟨d1, Hf1, s1, sb1, r1, h1⟩ => by
    obtain ⟨d, e, q⟩ := h1.ask
    exact ⟨Hf1, d1, v1, d, rfl, h1.1.top, r1, e, q⟩).to
end
end DL
/-! ### == by an own __eq__ -/
namespace DL
open PySem PySem.Spec PyProof.Rows L2
/-! ### != by object's __ne__, in, len, str -/
end DL
/-! ### in, len, str of instances; str of ints; f-strings -/
namespace DL
open PySem PySem.Spec PyProof.Rows L2
end DL
/-! ### more statements: unpacking, three at once, augmented, while -/
namespace DL
open PySem PySem.Spec PyProof.Rows L2
def setN : List Nat → Nat → List D → List Sl → List Sl
  | [], _, _, G => G
  | i :: is, k, c, G => setN is (k + 1) c (G.set i (.im (c.getD k .non)))
def unN (n : Nat) : D → Option (List D)
  | .tup ds => if ds.length = n then some ds else none
  | _ => none
def gsOf : List Nat → TGs
  | [] => gNil
  | i :: is => gCons (gName i) (gsOf is)
section
variable {X : Cx} {fx : Fx} {kk : Nat} {pos : Pos}
/-- plain names as targets -/
inductive Tgts (X : Cx) : List Expr → List Nat → Prop
  | nil : Tgts X [] []
  | cons {n : Str} {p : Pos} {es : List Expr} {is : List Nat} (i : Nat) (r : Tgts X es is) (hi : X.N[i]? = some n := by rfl) (hx : Loc X.env.scope n := by first | exact Or.inl rfl | exact Or.inr rfl) (hf : X.fn n = true ∨ X.env.scope.names.lookup n = some .local := by first | exact .inl rfl | exact .inr rfl) : Tgts X (.Name n p :: es) (i :: is)
theorem tgts_pgs (nd : X.N.Nodup) {es : List Expr} {is : List Nat} (h : Tgts X es is) : PGs X es (gsOf is) := by
  induction h with
  | nil => exact pgs_nil
  | cons i r hi hx hf ih => exact pgs_cons (pg_name nd hi hx hf) ih
theorem gs_read {Hf H : Hp} {s : S} {Q : L2.St → Hp → Prop} : ∀ (is : List Nat) (k : Nat) (c ds : List D) (vs : List V) {σ : L2.St} {G : List Sl}, StS X.K X.mg fx Hf H σ G s → IsL X.K X.mg Hf ds vs → c.drop k = ds → ds.length = is.length →
    (∀ σ', (∀ j, j ∉ is → σ'[j]? = σ[j]?) → σ'.length = σ.length → StS X.K X.mg fx Hf H σ' (setN is k c G) s → Q σ' H) → gsOf is vs σ H Q
  | [], k, c, ds, vs, σ, G, st, l, e, hl, q => by
    cases ds with
    | nil => cases l; exact ⟨rfl, q σ (fun _ _ => rfl) rfl st⟩
    | cons d ds => simp at hl
  | i :: is, k, c, ds, vs, σ, G, st, l, e, hl, q => by
    cases ds with
    | nil => simp at hl
    | cons d ds =>
      obtain ⟨v, r, rfl, iv, l'⟩ := l
      have hk : c.getD k .non = d := by
        have : c[k]? = some d := by
          have := congrArg (fun z => z[0]?) e
          simpa using this
        simp [List.getD, this]
      refine ⟨v, r, rfl, ?_⟩
      refine gs_read is (k + 1) c ds r (st.set (i := i) iv) l' ?_ (by simpa using hl) fun σ' h1 h2 st' => q σ' (fun j hj => ?_) (by simpa using h2) ?_
      · have := congrArg (List.drop 1) e
        simpa [List.drop_drop, Nat.add_comm] using this
      · rw [h1 j fun z => hj (List.mem_cons_of_mem _ z), List.getElem?_set_ne fun z => hj (by simp [z])]
      · show StS X.K X.mg fx Hf H σ' (setN is (k + 1) c (G.set i (.im (c.getD k .non)))) s
        rw [hk]; exact st'
theorem pgd_tupN (C : Cok X fx kk) {es : List Expr} {is : List Nat} {k : Nat} (n : Nat) (h : Tgts X es is) (hn : is.length = n := by rfl) (hl : (assignEach es X.env).length = n := by rfl) (hst : (assignEach es X.env).findIdx? (·.1) = none := by rfl) :
    PGd X fx (.Tuple es k pos) (gTup X.K n (gsOf is)) (unN n) (fun G c => setN is 0 c G) is :=
  ⟨pg_tup C.calm (tgts_pgs C.nd h) hl hst, fun {G Hf d v σ H s c Q} st r e q => by
    cases d with
    | tup ds =>
      obtain ⟨hz, a, vs, rfl, t, l⟩ := r
      have e' : (if ds.length = n then some ds else none) = some c := e
      by_cases hd : ds.length = n
      · rw [if_pos hd] at e'
        cases e'
        exact ⟨a, vs, rfl, st.top.sqt t, l.len.symm.trans hd, gs_read is 0 c c vs st l rfl (hd.trans hn.symm) q⟩
      · rw [if_neg hd] at e'; cases e'
    | _ => cases e⟩
end
section
variable {X : Cx} {fx : Fx} {m : Type → Type} [Mo m] {G : List Sl} {α β γ : Type} {kk : Nat} {e : Expr} {rest : List Stmt} {ex : α → List Sl} {exb : β → List Sl} {pos : Pos} {x : m D}
/-- a, b, .. = e -/
theorem dss_unp {tg : Expr} {g : TG} {u : D → Option γ} {st : List Sl → γ → List Sl} {is : List Nat} {k : γ → m (Fl α β)} (hg : PGd X fx tg g u st is) (he : PE X e (tE X.K X.mg fx G x)) (hr : ∀ c, PSs X rest (tS X.K X.mg fx (st G c) ex exb (k c)))
    (hs : swapsWithSole [tg] e pos.line X.env = pure false := by rfl) (hw : swappedStores [tg] e X.env = pure none := by rfl) (h1 : (assignEach [tg] X.env).map (·.2) = [assign tg X.env] := by rfl)
    (hgx : GxOk fx G := by first | exact True.intro | repeat' (first | exact True.intro | exact Or.inl rfl | exact Or.inr rfl | refine And.intro ?_ ?_)) :
    PSs X (.Assign [tg] e pos :: rest) (tS X.K X.mg fx G ex exb (do let d ← x; let c ← DL.ask (u d); k c)) := pssI (pss_cons (ps_asg he hg.1 hs hw h1) (pss_ex hr)) fun De σ H ⟨Hf, s, h⟩ =>
  ((h.bind hgx).mono fun v H1 ⟨d, Hf1, s1, sb, r, h1⟩ => by
    have w1 := Mo.wp_lift (Mo.wp_bind h1.2)
    cases hu : u d with
    | none => rw [hu] at w1; exact w1.elim
    | some c =>
      rw [hu] at w1
      exact hg.2 h1.1 r hu fun σ' _ _ st' => ⟨c, Hf1, s1, st', w1⟩).to
/-- a, b, c = x, y, z -/
theorem dss_par3 {a b c : Expr} {n1 n2 n3 : Str} {px py pz pt pt2 : Pos} {kt k2 : _} {x y z : m D} {k : D → D → D → m (Fl α β)} (C : Cok X fx kk) (i j l : Nat) (ha : PE X a (tE X.K X.mg fx G x)) (hb : PE X b (tE X.K X.mg fx G y)) (hc : PE X c (tE X.K X.mg fx G z)) (hr : ∀ d e f, PSs X rest (tS X.K X.mg fx (((G.set i (.im d)).set j (.im e)).set l (.im f)) ex exb (k d e f)))
    (hij : i ≠ j := by decide) (hil : i ≠ l := by decide) (hjl : j ≠ l := by decide) (hi : X.N[i]? = some n1 := by rfl) (hj : X.N[j]? = some n2 := by rfl) (hl : X.N[l]? = some n3 := by rfl) (hx : X.env.scope.names.lookup n1 = some .local := by rfl) (hy : X.env.scope.names.lookup n2 = some .local := by rfl) (hz : X.env.scope.names.lookup n3 = some .local := by rfl)
    (hw : swappedStores [.Tuple [.Name n1 px, .Name n2 py, .Name n3 pz] kt pt] (.Tuple [a, b, c] k2 pt2) X.env = pure (some [n1, n2, n3]) := by rfl)
    (hs : swapsWithSole [.Tuple [.Name n1 px, .Name n2 py, .Name n3 pz] kt pt] (.Tuple [a, b, c] k2 pt2) pos.line X.env = pure false := by rfl)
    (hsa : starEach [a, b, c] X.env = (false, eval a X.env) :: starEach [b, c] X.env := by rfl) (hsb : starEach [b, c] X.env = (false, eval b X.env) :: starEach [c] X.env := by rfl) (hsc : starEach [c] X.env = (false, eval c X.env) :: starEach [] X.env := by rfl) (hg : GxOk fx G := by first | exact True.intro | repeat' (first | exact True.intro | exact Or.inl rfl | exact Or.inr rfl | refine And.intro ?_ ?_)) :
    PSs X (.Assign [.Tuple [.Name n1 px, .Name n2 py, .Name n3 pz] kt pt] (.Tuple [a, b, c] k2 pt2) pos :: rest) (tS X.K X.mg fx G ex exb (do let d ← x; let e ← y; let f ← z; k d e f)) :=
  pssI (pss_cons (ps_par3 C.calm C.nd hi hj hl hij hil hjl hx hy hz (pa_cons ha (pa_cons hb (pa_cons hc pa_nil hsc) hsb) hsa) hw hs) (pss_ex (ι := D × D × D) fun r => hr r.1 r.2.1 r.2.2)) fun De σ H ⟨Hf, s, h⟩ =>
    ((h.bind hg).mono fun v H1 ⟨d, Hf1, s1, sb, r, h1⟩ => ((h1.bind hg).mono fun v2 H2 ⟨e, Hf2, s2, sb2, r2, h2⟩ => ((h2.bind hg).mono fun v3 H3 ⟨f, Hf3, s3, sb3, r3, h3⟩ =>
      ⟨v, v2, v3, rfl, (d, e, f), Hf3, s3, ((h3.1.set ((r.mono sb2).mono sb3)).set (r2.mono sb3)).set r3, h3.2⟩).to).to).to
end
end DL
/-! ### dicts: displays with text keys, d[k] -/
namespace DL
open PySem PySem.Spec PyProof.Rows L2
def eqK : D → D → Bool
  | .str a, .str b => decide (a = b)
  | .int a, .int b => decide (a = b)
  | _, _ => false
def lookK : List D → List D → D → Option D
  | k :: ks, d :: ds, x => if eqK k x = true then some d else lookK ks ds x
  | _, _, _ => none
def keyOk : D → Bool
  | .str _ => true
  | .int _ => true
  | _ => false
def dgetD (d k : D) : Option D := match d with
  | .dic ks ds => if keyOk k = true then lookK ks ds k else none
  | _ => none
def dicK (ls : List (List Nat)) (ds : List D) : Option D := if ls.Nodup ∧ ls.length = ds.length ∧ ls.length ≤ 15 then some (.dic (ls.map .str) ds) else none
section
variable {K : PySem.W.Frag} {mg : Str → Option Value}
theorem eqK_key {H : Hp} {k x : D} {kk : Key} {v : V} (hk : Is K mg H k (kV kk)) (hx : Is K mg H x v) (ho : keyOk x = true) : ∃ kx, v = kV kx ∧ (eqK k x = true ↔ kk = kx) := by
  cases x with
  | str b =>
    obtain ⟨rfl, _⟩ := hx
    refine ⟨.inr ⟨b.toArray⟩, rfl, ?_⟩
    cases k with
    | str a =>
      obtain ⟨e, _⟩ := hk
      cases kk with
      | inl i => cases e
      | inr s =>
        have e' : s = ⟨a.toArray⟩ := by injection e
        subst e'
        show decide (a = b) = true ↔ _
        constructor
        · intro h; rw [of_decide_eq_true h]
        · intro h
          refine decide_eq_true ?_
          have := Sum.inr.inj h
          have := congrArg (fun z : Str => z.cps.toList) this
          simpa using this
    | int a =>
      have e : kV kk = .int a := hk
      cases kk with
      | inl i => simp [eqK]
      | inr s => cases e
    | non => cases kk <;> cases (show kV _ = V.non from hk)
    | bl b => cases kk <;> cases (show kV _ = V.bl b from hk)
    | tup _ => obtain ⟨_, a, vs, e, _⟩ := hk; cases kk <;> cases e
    | lst _ => obtain ⟨_, a, vs, e, _⟩ := hk; cases kk <;> cases e
    | dic _ _ => obtain ⟨a, vs, e, _⟩ := hk; cases kk <;> cases e
    | ins _ _ _ => obtain ⟨a, _, _, vs, e, _⟩ := hk; cases kk <;> cases e
    | scr _ => obtain ⟨_, a, e, _⟩ := hk; cases kk <;> cases e
    | xc _ _ _ _ => obtain ⟨e, _⟩ := hk; cases kk <;> cases e
  | int b =>
    have ev : v = .int b := hx
    subst ev
    refine ⟨.inl b, rfl, ?_⟩
    cases k with
    | str a =>
      obtain ⟨e, _⟩ := hk
      cases kk with
      | inl i => cases e
      | inr s => simp [eqK]
    | int a =>
      have e : kV kk = .int a := hk
      cases kk with
      | inl i' =>
        cases e
        simp [eqK]
      | inr s => cases e
    | non => cases kk <;> cases (show kV _ = V.non from hk)
    | bl b => cases kk <;> cases (show kV _ = V.bl b from hk)
    | tup _ => obtain ⟨_, a, vs, e, _⟩ := hk; cases kk <;> cases e
    | lst _ => obtain ⟨_, a, vs, e, _⟩ := hk; cases kk <;> cases e
    | dic _ _ => obtain ⟨a, vs, e, _⟩ := hk; cases kk <;> cases e
    | ins _ _ _ => obtain ⟨a, _, _, vs, e, _⟩ := hk; cases kk <;> cases e
    | scr _ => obtain ⟨_, a, e, _⟩ := hk; cases kk <;> cases e
    | xc _ _ _ _ => obtain ⟨e, _⟩ := hk; cases kk <;> cases e
  | _ => cases ho
theorem lookK_val {H : Hp} {x : D} {v : V} {kx : Key} (hx : Is K mg H x v) (ho : keyOk x = true) (ev : v = kV kx) : ∀ {ks ds : List D} {kvs : List (Key × V)}, IsL K mg H ks (kvs.map fun p => kV p.1) → IsL K mg H ds (kvs.map fun p => p.2) →
    (∀ d, lookK ks ds x = some d → ∃ u, valV kvs kx = some u ∧ Is K mg H d u) ∧ (ks.length = ds.length → lookK ks ds x = none → valV kvs kx = none)
  | [], ds, kvs, hk, hd => by
    cases kvs with
    | nil =>
      refine ⟨fun d e => ?_, fun _ _ => rfl⟩
      cases ds <;> cases e
    | cons p r => cases hk
  | k :: ks, ds, [], hk, hd => by obtain ⟨_, _, e, _⟩ := hk; cases e
  | k :: ks, [], p :: r, hk, hd => by cases hd
  | k :: ks, d :: ds, p :: r, hk, hd => by
    obtain ⟨v1, r1, e1, i1, l1⟩ := hk
    obtain ⟨v2, r2, e2, i2, l2⟩ := hd
    injection e1 with e11 e12
    injection e2 with e21 e22
    subst e11 e12 e21 e22
    obtain ⟨kx', ev', h⟩ := eqK_key i1 hx ho
    have ek : kx' = kx := by
      rw [ev] at ev'
      cases kx <;> cases kx' <;> cases ev' <;> rfl
    subst ek
    obtain ⟨h1, h2⟩ := lookK_val hx ho ev l1 l2
    by_cases c : eqK k x = true
    · have hp := h.mp c
      refine ⟨fun d' e => ?_, fun _ e => ?_⟩
      · have : lookK (k :: ks) (d :: ds) x = some d := if_pos c
        rw [this] at e
        cases e
        exact ⟨_, valV_pos hp, i2⟩
      · have : lookK (k :: ks) (d :: ds) x = some d := if_pos c
        rw [this] at e
        cases e
    · have hp : ¬ p.1 = kx' := fun z => c (h.mpr z)
      have e0 : lookK (k :: ks) (d :: ds) x = lookK ks ds x := if_neg c
      rw [e0, valV_neg hp]
      exact ⟨h1, fun hl e => h2 (by simpa using hl) e⟩
theorem keys_merge : ∀ (more kvs : List (Key × V)), ((kvs ++ more).map (·.1)).Nodup → mergeK kvs more = kvs ++ more
  | [], kvs, _ => by simp [mergeK]
  | p :: r, kvs, h => by
    have hn : (kvs.any fun kv => decide (kv.1 = p.1)) = false := by
      rw [List.any_eq_false]
      intro q hq e
      have e' : q.1 = p.1 := of_decide_eq_true e
      rw [List.map_append, List.nodup_append] at h
      exact h.2.2 q.1 (List.mem_map_of_mem hq) p.1 (by simp) e'
    have e1 : putK kvs p.1 p.2 = kvs ++ [p] := by
      unfold putK
      rw [hn]
      rfl
    show mergeK (putK kvs p.1 p.2) r = _
    rw [e1, keys_merge r (kvs ++ [p]) (by simpa using h)]
    simp
end
section
variable {X : Cx} {fx : Fx} {m : Type → Type} [Mo m] {G : List Sl} {pos : Pos}
/-- the pairs of a display whose keys are written texts -/
inductive KVs (X : Cx) (fx : Fx) (m : Type → Type) [Mo m] (G : List Sl) : List (Option Expr) → List Expr → List (List Nat) → m (List D) → List (TE × TE) → Prop
  | nil : KVs X fx m G [] [] [] (pure []) []
  | cons {t : Str} {j : Nat} {p : Pos} {ks : List (Option Expr)} {v : Expr} {vs : List Expr} {ls : List (List Nat)} {x : m D} {ys : m (List D)} {trs : List (TE × TE)} (l : List Nat) (hv : PE X v (tE X.K X.mg fx G x)) (r : KVs X fx m G ks vs ls ys trs) (ht : t = ⟨l.toArray⟩ := by first | rfl | decide +kernel) (hl : l.length ≤ 1000 := by decide) :
      KVs X fx m G (some (.Constant (.str t) j p) :: ks) (v :: vs) (l :: ls) (do let d ← x; let ds ← ys; pure (d :: ds)) ((fun σ H Q => Q (.str ⟨l.toArray⟩) H, tE X.K X.mg fx G x) :: trs)
theorem KVs.pps {ks : List (Option Expr)} {vs : List Expr} {ls : List (List Nat)} {ys : m (List D)} {trs : List (TE × TE)} (h : KVs X fx m G ks vs ls ys trs) : PPs X pos ks vs trs := by
  induction h with
  | nil => exact pps_nil
  | cons l hv r ht hl ih =>
    subst ht
    exact pps_cons pe_str hv ih
theorem KVs.some {ks : List (Option Expr)} {vs : List Expr} {ls : List (List Nat)} {ys : m (List D)} {trs : List (TE × TE)} (h : KVs X fx m G ks vs ls ys trs) : ks.all (·.isSome) = true ∧ ks.length = vs.length ∧ ks.length = ls.length := by
  induction h with
  | nil => exact ⟨rfl, rfl, rfl⟩
  | cons l hv r ht hl ih => exact ⟨by simp [ih.1], by simp [ih.2.1], by simp [ih.2.2]⟩
theorem KVs.small {ks : List (Option Expr)} {vs : List Expr} {ls : List (List Nat)} {ys : m (List D)} {trs : List (TE × TE)} (h : KVs X fx m G ks vs ls ys trs) : ∀ l ∈ ls, l.length ≤ 1000 := by
  induction h with
  | nil => intro l h; cases h
  | cons l hv r ht hl ih =>
    intro z hz
    rcases List.mem_cons.mp hz with rfl | hz
    · exact hl
    · exact ih z hz
theorem KVs.read {ks : List (Option Expr)} {vs : List Expr} {ls : List (List Nat)} {ys : m (List D)} {trs : List (TE × TE)} (h : KVs X fx m G ks vs ls ys trs) {Hf : Hp} {s : S} {σ : L2.St} {H : Hp} {Q : List V → Hp → Prop} {P : List (V × V) → Hp → Prop} (q : tX X.K X.mg fx G (fun H d v => IsL X.K X.mg H d v) ys Hf s σ H Q)
    (k : ∀ us H1, us.length = ls.length → Q us H1 → P ((ls.zip us).map fun p => (V.str ⟨p.1.toArray⟩, p.2)) H1) : tPairs trs σ H P := by
  induction h generalizing Hf s H Q P with
  | nil => exact k [] H rfl (q.pure rfl)
  | cons l hv r ht hl ih =>
    show tE X.K X.mg fx G _ σ H _
    refine (q.bind.mono fun v1 H1 ⟨d1, Hf1, s1, sb1, r1, h1⟩ => ?_).to
    exact ih (h1.bind.mono fun us H2 ⟨ds, Hf2, s2, sb2, r2, h2⟩ => h2.pure (IsL.cons (r1.mono sb2) r2)) fun us H2 hl' q2 => k (v1 :: us) H2 (by simp [hl']) q2
theorem de_disp {ks : List (Option Expr)} {vs : List Expr} {ls : List (List Nat)} {ys : m (List D)} {trs : List (TE × TE)} (h : KVs X fx m G ks vs ls ys trs) (h0 : ks ≠ [] := by intro z; cases z) (h15 : ks.length ≤ 15 := by decide) :
    PE X (.Dict ks vs pos) (tE X.K X.mg fx G (do let ds ← ys; DL.ask (dicK ls ds))) := peI (pe_disp h.pps h.some.1 h.some.2.1 h0 h15) fun σ H Q ⟨Hf, s, q⟩ p hp => by
  have st0 : Ste fx.bag Hf H Hf (L2.upd H p (.dK [])) := .new' q.1.top hp
  have np := q.1.new0 hp
  have q1 : tX X.K X.mg fx G (fun H d v => IsL X.K X.mg H d v) ys Hf s σ (L2.upd H p (.dK [])) (fun us H1 => ∃ ds Hf1 s1, Ste fx.bag Hf (L2.upd H p (.dK [])) Hf1 H1 ∧ BagAt fx.bag H1 s1 ∧ IsL X.K X.mg Hf1 ds us ∧
      Mo.wp (DL.ask (dicK ls ds) : m D) s1 (fun a s' => ∀ b Hf' H', Ste fx.bag Hf H Hf' H' → BagAt fx.bag H' s' → Is X.K X.mg Hf' a b → Q b H') (EX X.K X.mg fx G σ)) :=
    ⟨q.1.step st0 (q.1.bag.upd np.2.1), Mo.wp_mono (Mo.wp_bind q.2) (fun ds s1 w us Hf1 H1 e bg r => ⟨ds, Hf1, s1, e, bg, r, w⟩) fun e s' k => k⟩
  refine h.read q1 fun us H1 hus ⟨ds, Hf1, s1, st1, bg1, l1, w⟩ => ?_
  have w1 := Mo.wp_lift w
  have hfp : Hf p = none := np.2.2
  have hp1 : H1 p = some (.dK []) := st1.keep p _ upd_same np.2.1
  have hf1 : Hf1 p = none := st1.stayNone hfp (by rw [upd_same]; simp)
  by_cases hc : ls.Nodup ∧ ls.length = ds.length ∧ ls.length ≤ 15
  · have e1 : dicK ls ds = some (.dic (ls.map .str) ds) := if_pos hc
    rw [e1] at w1
    have key : ∀ (ls : List (List Nat)) (us : List V), us.length = ls.length → (∀ l ∈ ls, l.length ≤ 1000) → ls.map (fun l => V.str ⟨l.toArray⟩) = ((ls.zip us).map fun p => ((Sum.inr ⟨p.1.toArray⟩, p.2) : Key × V)).map (fun q => kV q.1) ∧ us = ((ls.zip us).map fun p => ((Sum.inr ⟨p.1.toArray⟩, p.2) : Key × V)).map (fun q => q.2) ∧
        ((ls.zip us).map fun p => ((Sum.inr ⟨p.1.toArray⟩, p.2) : Key × V)).map (·.1) = ls.map fun l => Sum.inr ⟨l.toArray⟩ := by
      intro ls
      induction ls with
      | nil => intro us h _; cases us with
        | nil => exact ⟨rfl, rfl, rfl⟩
        | cons _ _ => simp at h
      | cons l ls ih => intro us h hl; cases us with
        | nil => simp at h
        | cons u us =>
          obtain ⟨a, b, c⟩ := ih us (by simpa using h) fun z hz => hl z (List.mem_cons_of_mem _ hz)
          refine ⟨?_, ?_, ?_⟩
          · rw [List.map_cons, a]; rfl
          · simp only [List.zip_cons_cons, List.map_cons]; rw [← b]
          · simp only [List.zip_cons_cons, List.map_cons]; rw [c]
    obtain ⟨k1, k2, k3⟩ := key ls us hus h.small
    refine ⟨hp1, (ls.zip us).map (fun p => ((Sum.inr ⟨p.1.toArray⟩, p.2) : Key × V)), by rw [List.map_map]; rfl, by simp [hus]; exact hc.2.2, ?_⟩
    have nd : (((ls.zip us).map fun p => ((Sum.inr ⟨p.1.toArray⟩, p.2) : Key × V)).map (·.1)).Nodup := by
      rw [k3]
      refine List.pairwise_map.mpr (hc.1.imp fun {a b} hab e => hab ?_)
      have := congrArg (fun z : Str => z.cps.toList) (Sum.inr.inj e)
      simpa using this
    rw [keys_merge _ [] (by simpa using nd), List.nil_append]
    have txs : ∀ ls : List (List Nat), (∀ l ∈ ls, l.length ≤ 1000) → ∀ H, IsL X.K X.mg H (ls.map .str) (ls.map fun l => V.str ⟨l.toArray⟩) := by
      intro ls
      induction ls with
      | nil => intro _ H; rfl
      | cons l ls ih => intro hl H; exact ⟨_, _, rfl, ⟨rfl, Nat.le_of_lt (small1000 (hl l (.head _)))⟩, ih (fun z hz => hl z (.tail _ hz)) H⟩
    have sb : Sub Hf1 (L2.upd Hf1 p (.dK ((ls.zip us).map fun p => ((Sum.inr ⟨p.1.toArray⟩, p.2) : Key × V)))) := fun a o q => by
      rw [upd_ne (fun z => by rw [z, hf1] at q; cases q)]; exact q
    refine w1 (.ref p) (L2.upd Hf1 p (.dK ((ls.zip us).map fun p => ((Sum.inr ⟨p.1.toArray⟩, p.2) : Key × V)))) _ ⟨st1.sub.trans sb, fun a o q => ?_, fun a o q n => ?_, fun a q => ?_, fun a o q => ?_⟩ (bg1.upd np.2.1) ⟨p, _, rfl, .inl upd_same, ?_, ?_⟩
    · by_cases c : a = p
      · subst c; rw [upd_same] at q ⊢; exact q
      · rw [upd_ne c] at q ⊢; exact st1.top a o q
    · have ne := ne_of_none q hp
      rw [upd_ne ne]
      exact st1.keep a o (by rw [upd_ne ne]; exact q) n
    · by_cases c : a = p
      · rw [c, upd_same]; simp
      · rw [upd_ne c]; exact st1.dom a (by rw [upd_ne c]; exact q)
    · by_cases c : a = p
      · subst c; exact .inr hp
      · rw [upd_ne c] at q
        rcases st1.fresh a o q with z | z
        · exact .inl z
        · rw [upd_ne c] at z; exact .inr z
    · rw [← k1]; exact txs ls h.small _
    · rw [← k2]; exact l1.mono sb
  · have e1 : dicK ls ds = none := if_neg hc
    rw [e1] at w1
    exact w1.elim
/-- d[k] -/
theorem de_dget {a b : Expr} {x y : m D} {kk : Nat} (C : Cok X fx kk) (ha : PE X a (tE X.K X.mg fx G x)) (hb : PE X b (tE X.K X.mg fx G y)) (hs : NoSl b := by intro _ _; rfl) : PE X (.Subscript a b pos) (tE X.K X.mg fx G (do let u ← x; let v ← y; DL.ask (dgetD u v))) := peI (pe_dget (hu_of C.rm) ha hb hs) fun σ H Q ⟨Hf, s, h⟩ =>
  (h.bind.mono fun v1 H1 ⟨d1, Hf1, s1, sb1, r1, h1⟩ => (h1.bind.mono fun v2 H2 ⟨d2, Hf2, s2, sb2, r2, h2⟩ => by
    obtain ⟨d, e, q⟩ := h2.ask
    cases d1 with
    | dic ks ds =>
      have e' : (if keyOk d2 = true then lookK ks ds d2 else none) = some d := e
      by_cases ho : keyOk d2 = true
      · rw [if_pos ho] at e'
        obtain ⟨p, kvs, ev, hp, l1, l2⟩ := r1.mono sb2
        have hkx : ∃ kx, v2 = kV kx := by
          cases d2 with
          | str b => exact ⟨.inr _, r2.1⟩
          | int i => exact ⟨.inl i, r2⟩
          | _ => cases ho
        obtain ⟨kx, ek⟩ := hkx
        obtain ⟨u, hu, iu⟩ := (lookK_val r2 ho ek l1 l2).1 d e'
        exact ⟨p, u, ev, .inl ⟨kvs, kx, h2.1.top.rd hp, ek, hu.symm⟩, q u Hf2 H2 (.refl h2.1.top) iu⟩
      · rw [if_neg ho] at e'; cases e'
    | _ => cases e).to).to
end
end DL
/-! ### defs with a star; star calls -/
namespace DL
open PySem PySem.Spec PyProof.Rows L2 StX
def spStar (n : Nat) (sp : Sp) : Sp := fun vs H Q E => ∃ ws rest, vs = ws ++ rest ∧ ws.length = n ∧ rest.length ≤ sizeLine ∧ ∀ p, H p = none → sp (ws ++ [V.ref p]) (upd H p (.tup rest)) Q E
section
variable {P : Program} {w : World} {K : PySem.W.Frag} {mg : Str → Option Value} {base : Heap}
section
variable {P : Program} {w : World} {K : PySem.W.Frag} {mg : Str → Option Value} {base : Heap}
theorem fnP_star {x qual : Str} {st : Stmt} {f : Addr} {fd : FuncData} {N ps : List Str} {pv : Str} {k : Nat} {sp : Sp} (F : Fun K x qual st f fd) (S : FnScope N (ps ++ [pv]) (defScope st))
    (hb : ∀ us rest : List Value, us.length = ps.length → bindArgs fd ⟨us ++ rest, []⟩ = (newTuple rest >>= fun t => pure (ps.zip us ++ [(pv, t)])))
    (hbody : ∀ (cdv : Value) (A : Around) (outer : List Env) (s : Shared) (H : Hp) (vs : List V) (Q : VK) (E : XK), A.guards = some [] → Room k (A.deeper (envOfC qual (defScope st) s.heap.objs.size f cdv)) → sp vs H Q E →
      ∃ t, PSs (cxOf (CXm P w mg) P w K mg base N qual (defScope st) f cdv A outer s H E) (defBody st) t ∧ t { nx := fun _ H' => Q .non H', rt := Q } (start N vs) H) :
    FnP P w K mg base (k + 1) f [] (spStar ps.length sp) := fun A outer s H us kw _ Q E gd room e0 noKw rel ⟨ws, rest, ev, len, long, want⟩ => by
  subst ev
  obtain rfl := List.length_eq_zero_iff.mp noKw
  rw [List.append_nil] at rel
  obtain ⟨u1, u2, rfl, r1, r2⟩ := vals_split rel
  have n1 : u1.length = ps.length := r1.length.symm.trans len
  obtain ⟨oc, od, kV, doc, pm, an, cdv, ct, osl, rfl, lk, hcd⟩ := F.ex
  have free : H s.heap.objs.size = Option.none := e0.hok.fresh (Nat.le_refl _)
  -- the values behind the star lie in a tuple of their own
  let o : Obj := { cls := .type "tuple", data := .seq u2.toArray }
  have lies : ObjOk P w (upd H s.heap.objs.size (.tup rest)) (s.heap.push o) s.heap.objs.size (.tup rest) := ⟨long, u2, r2, o, Heap.get?_push_size _ rfl, rfl, 0, rfl⟩
  have un := un_laid (fs := frs outer) (s := s) (o := o) (u := .tup rest) free
  have names : ps.zip u1 ++ [(pv, Value.ref s.heap.objs.size)] = (ps ++ [pv]).zip (u1 ++ [.ref s.heap.objs.size]) := by rw [List.zip_append n1.symm]; rfl
  refine run_bnd lk hcd S room e0 (G := fun xs H2 => ∃ p, H p = Option.none ∧ xs = ws ++ [V.ref p] ∧ H2 = upd H p (.tup rest)) (fun A' Ex Q' go => ?_) fun s2 H2 xs ⟨p, new, ex, eH⟩ room' => ?_
  · have called := hb u1 u2 n1
    show wpAny _ _ (bindArgs _ ⟨u1 ++ u2, []⟩) _ _ _
    rw [called]
    refine wpAny_bind (wpAny_newTuple (wpAny_pure (names ▸ go _ _ (ws ++ [V.ref s.heap.objs.size]) _ (env0_laid e0 lies) un rfl (fun e s' => cxUp outer s H _ _ E e s' un (fun b o q => Heap.get?_push_of_some _ q) rfl) (r1.append (.cons rfl .nil)) ?_ ⟨_, free, rfl, rfl⟩)) (r2.length ▸ long))
    simp only [List.length_append, len, List.length_singleton]
  · subst ex eH
    exact hbody cdv A outer s2 _ _ Q E gd room' (want p new)
end
end
section
variable {K : PySem.W.Frag} {mg : Str → Option Value}
def starD {α : Type} (n : Nat) (g : List D → R α) (ds : List D) : R α := if n ≤ ds.length ∧ ds.length ≤ 1000000 then g (ds.take n ++ [.tup (ds.drop n)]) else .stuck
/-- an __init__ with a star (n: the parameters behind self, ahead of the star) -/
theorem spI_star {ns : List Str} {n : Nat} {g : List D → R (List D)} {vs : List V} {H : Hp} {Q : VK} {E : XK} (h : spI K mg ns (fun _ => True) (starD n g) vs H Q E) : spStar (n + 1) (spI K mg ns (fun l => l = n + 2) g) vs H Q E := by
  obtain ⟨_, x, C, dx, rest, Hf, ds, rfl, sb, hf, hx, c, na, l, q⟩ := h
  have hlen : n ≤ ds.length ∧ ds.length ≤ 1000000 := by
    by_cases z : n ≤ ds.length ∧ ds.length ≤ 1000000
    · exact z
    · have : starD n g ds = .stuck := if_neg z
      rw [this] at q; exact q.elim
  have e : starD n g ds = g (ds.take n ++ [.tup (ds.drop n)]) := if_pos hlen
  rw [e] at q
  have hl := l.len
  have hsz : sizeLine = 16777216 := sizeLine_eq
  refine ⟨.ref x :: rest.take n, rest.drop n, by simp, by simp; omega, by simp; omega, fun p hp => ?_⟩
  have hxp : x ≠ p := fun z => by rw [z, hp] at hx; cases hx
  have hfp : Hf p = none := sb.none hp
  have st0 : Ste [x] Hf H (upd Hf p (.tup (rest.drop n))) (upd H p (.tup (rest.drop n))) := .new sb hp
  refine ⟨by simp; omega, x, C, dx, rest.take n ++ [.ref p], upd Hf p (.tup (rest.drop n)), ds.take n ++ [.tup (ds.drop n)], by simp, st0.top, by rw [upd_ne hxp]; exact hf, by rw [upd_ne hxp]; exact hx, c, na, ?_, ?_⟩
  · refine ((l.take n).mono st0.sub).app (.cons ⟨by simp; omega, p, rest.drop n, rfl, .inl (.inl upd_same), (l.drop n).mono st0.sub⟩ .nil)
  · cases z : g (ds.take n ++ [.tup (ds.drop n)]) with
    | ok es => rw [z] at q; intro us Hf' H' st h1 h2 h3 h4; exact q us Hf' H' (st0.trans st) h1 h2 h3 h4
    | ex e => rw [z] at q; intro cls dd Hf' H' st xi; exact q cls dd Hf' H' (st0.trans st) xi
    | stuck => rw [z] at q; exact q
/-- an __init__ with a star, by its body -/
theorem fnI_star {P : Program} {w : World} {base : Heap} {x qual : Str} {st : Stmt} {f : Addr} {fd : FuncData} {N ps ns : List Str} {pv : Str} {k n : Nat} {g : List D → R (List D)} (F : Fun K x qual st f fd) (Sc : FnScope N (ps ++ [pv]) (defScope st)) (hn : ps.length = n + 1) (hN : n + 2 ≤ N.length)
    (hb0 : ∀ us rest : List Value, us.length = ps.length → bindArgs fd ⟨us ++ rest, []⟩ = (newTuple rest >>= fun t => pure (ps.zip us ++ [(pv, t)])))
    (hb : ∀ (cdv : Value) (A : Around) (outer : List Env) (s : Shared) (H Hf : Hp) (E : XK) (o : Addr) (ds : List D), Cok (cxOf (CXm P w mg) P w K mg base N qual (defScope st) f cdv A outer s H E) (fxI ns o H Hf E) k → ds.length = n + 1 →
      ∃ body : R (Fl (List D) Empty), PSs (cxOf (CXm P w mg) P w K mg base N qual (defScope st) f cdv A outer s H E) (defBody st)
        (tS (cxOf (CXm P w mg) P w K mg base N qual (defScope st) f cdv A outer s H E).K (cxOf (CXm P w mg) P w K mg base N qual (defScope st) f cdv A outer s H E).mg (fxI ns o H Hf E) (GI N ds) (exI N ns) Empty.elim body) ∧ g ds = runI body) :
    FnP P w K mg base (k + 1) f [] (spI K mg ns (fun _ => True) (starD n g)) := by
  refine FnP.imp (fnP_star (sp := spI K mg ns (fun l => l = n + 2) g) F Sc hb0 fun cdv A outer s H vs Q E gd hr h => ?_) fun vs H Q E h => by rw [hn]; exact spI_star h
  obtain ⟨hl, o, C, dx, rest, Hf, ds, rfl, sb, hf, hx, c, na, l, q⟩ := h
  have Ck : Cok (cxOf (CXm P w mg) P w K mg base N qual (defScope st) f cdv A outer s H E) (fxI ns o H Hf E) k := ⟨rfl, fun _ => passes_of rfl, takes_of rfl rfl rfl rfl, hr, Sc.nd, gd⟩
  have hl' : rest.length = n + 1 := by simpa using hl
  obtain ⟨body, hp, hg⟩ := hb cdv A outer s H Hf E o ds Ck (l.len.trans hl')
  refine ⟨_, hp, Hf, ⟨0, 0, 0, [], false⟩, .initI sb hf hx c na l (by omega), ?_⟩
  rw [hg] at q
  exact runI_read hx q
end
end DL
/-! ### partition, ints of texts, f-strings, constants of classes, defs called by names -/
namespace DL
open PySem PySem.Spec PyProof.Rows L2
/-! f-strings -/
end DL
/-! ### constants of classes, static methods, keyword-only parameters with defaults -/
namespace DL
open PySem PySem.Spec PyProof.Rows L2 StX
/-! keyword-only parameters -/
end DL
namespace DL
open PySem PySem.Spec PyProof.Rows L2
def apI1 (fn : D → R (List D)) : List D → R (List D)
  | [a] => fn a
  | _ => .stuck
end DL
namespace DL
open PySem PySem.Spec PyProof.Rows L2
end DL
namespace DL
open PySem
/-- isinstance of plain data against an own class -/
def noneOfB : List (String × Bool) := [("NoneType", false), ("bool", false), ("int", false), ("str", false), ("tuple", false), ("list", false), ("dict", false)]
end DL
/-! ### a, b, c = [..], [..], 'text' -/
namespace DL
open PySem PySem.Spec PyProof.Rows L2
end DL
/-! ### an own list becomes the bag; keyword calls of defs -/
namespace DL
open PySem PySem.Spec PyProof.Rows L2 StX
/-! keyword calls of defs without defaults -/
end DL
namespace DL
open PySem PySem.Spec PyProof.Rows L2
end DL
/-! ### text.index(sign) -/
namespace DL
open PySem PySem.Spec PyProof.Rows L2
end DL
/-! ### fields as targets of an unpacking -/
namespace DL
open PySem PySem.Spec PyProof.Rows L2
end DL
namespace DL
open PySem L2
/-! ### plain laws -/
instance : LawfulMonad R := LawfulMonad.mk' (m := R) (id_map := fun x => by cases x <;> rfl) (pure_bind := fun _ _ => rfl) (bind_assoc := fun x _ _ => by cases x <;> rfl)
theorem M.ext {α : Type} {x y : M α} (h : ∀ s, x s = y s) : x = y := funext h
instance : LawfulMonad M := LawfulMonad.mk' (m := M)
  (id_map := fun x => M.ext fun s => by
    show (x s).bd (fun a s => .ok a s) = x s
    cases x s <;> rfl)
  (pure_bind := fun _ _ => rfl)
  (bind_assoc := fun x f g => M.ext fun s => by
    show ((x s).bd f).bd g = (x s).bd fun a => f a >>= g
    cases x s <;> rfl)
@[simp] theorem lift_R {α : Type} (r : R α) : (Mo.lift r : R α) = r := rfl
@[simp] theorem lift_M {α : Type} (a : α) : (Mo.lift (R.ok a) : M α) = pure a := rfl
@[simp] theorem noex_R {α : Type} (a : α) : (Mo.noex (R.ok a) : R α) = .ok a := rfl
@[simp] theorem noex_M {α : Type} (a : α) : (Mo.noex (pure a : M α) : M α) = pure a := rfl
@[simp] theorem askM {α : Type} (a : α) : (ask (some a) : M α) = pure a := rfl
@[simp] theorem mkL_R (ds : List D) : (mkL (R.ok ds) : R D) = .ok (.lst ds) := rfl
@[simp] theorem mkL_M (ds : List D) : (mkL (pure ds : M (List D)) : M D) = pure (.lst ds) := rfl
def Inv (s : S) : Prop := s.w = false ∧ 0 ≤ s.y ∧ s.y < 4294967296
def Ok {α : Type} (x : M α) (Q : α → Prop) : Prop := ∀ s, Inv s → ∃ a s', x s = .ok a s' ∧ Inv s' ∧ Q a
def OkR {α : Type} (x : R α) (Q : α → Prop) : Prop := ∃ a, x = .ok a ∧ Q a
section
variable {α β γ : Type} {Q : β → Prop} {P : α → Prop}
theorem okr_pure {a : β} (h : Q a) : OkR (.ok a) Q := ⟨a, rfl, h⟩
theorem okr_bind {x : R α} {f : α → R β} (h : OkR x fun a => OkR (f a) Q) : OkR (x >>= f) Q := by
  obtain ⟨a, rfl, q⟩ := h
  exact q
theorem okr_mono {x : R α} {P' : α → Prop} (h : OkR x P) (w : ∀ a, P a → P' a) : OkR x P' := by
  obtain ⟨a, rfl, q⟩ := h
  exact ⟨a, rfl, w a q⟩
end
/-! defs -/
def FlQ (nr : Bool) (Q : D → Prop) : Fl Unit Empty → Prop
  | .nx _ => nr = false ∧ Q .non
  | .rt d => Q d
  | _ => False
theorem okr_runR {nr : Bool} {x : R (Fl Unit Empty)} {Q : D → Prop} (h : OkR x (FlQ nr Q)) : OkR (runR nr x) Q := by
  obtain ⟨a, rfl, q⟩ := h
  cases a with
  | nx a =>
    obtain ⟨q1, q2⟩ := q
    subst q1
    exact ⟨.non, rfl, q2⟩
  | rt d => exact ⟨d, rfl, q⟩
  | bk b => exact b.elim
  | ct b => exact b.elim
theorem runR_rt {nr : Bool} {d : D} : runR nr (.ok (.rt d)) = .ok d := rfl
/-! flow -/
section
variable {α β γ : Type}
@[simp] theorem seqR_nx {a : α} {k : α → R (Fl γ β)} : seqF (R.ok (.nx a)) k = k a := rfl
@[simp] theorem seqR_rt {d : D} {k : α → R (Fl γ β)} : seqF (R.ok (.rt d)) k = .ok (.rt d) := rfl
@[simp] theorem seqR_bk {b : β} {k : α → R (Fl γ β)} : seqF (R.ok (.bk b)) k = .ok (.bk b) := rfl
@[simp] theorem seqR_ct {b : β} {k : α → R (Fl γ β)} : seqF (R.ok (.ct b)) k = .ok (.ct b) := rfl
def SeqQ (k : α → Prop) (Q : Fl γ β → Prop) : Fl α β → Prop
  | .nx a => k a
  | .rt d => Q (.rt d)
  | .bk b => Q (.bk b)
  | .ct b => Q (.ct b)
theorem okr_seq {x : R (Fl α β)} {k : α → R (Fl γ β)} {Q : Fl γ β → Prop} (h : OkR x (SeqQ (fun a => OkR (k a) Q) Q)) : OkR (seqF x k) Q := okr_bind (okr_mono h fun f q => by
  cases f with
  | nx a => exact q
  | rt d => exact okr_pure q
  | bk b => exact okr_pure q
  | ct b => exact okr_pure q)
/-- what a turn of a loop leaves -/
def TurnQ (I : α → Prop) (Q : Fl α β → Prop) : Fl α α → Prop
  | .nx a => I a
  | .ct a => I a
  | .bk a => Q (.nx a)
  | .rt d => Q (.rt d)
theorem okr_for {u : D → Option γ} {xb : α → γ → R (Fl α α)} {Q : Fl α β → Prop} (I : Nat → α → Prop) (ds : List D) (a0 : α) (h0 : I 0 a0) (hs : ∀ i d a, ds[i]? = some d → I i a → ∃ c, u d = some c ∧ OkR (xb a c) (TurnQ (I (i + 1)) Q)) (he : ∀ a, I ds.length a → Q (.nx a)) : OkR (forF u xb ds a0) Q := by
  induction ds generalizing I a0 with
  | nil => exact okr_pure (he _ h0)
  | cons d ds ih =>
    unfold forF
    obtain ⟨c, e, h⟩ := hs 0 d a0 rfl h0
    rw [e]
    refine okr_bind (okr_pure (okr_bind (okr_mono h fun f q => ?_)))
    cases f with
    | nx a => exact ih (fun i => I (i + 1)) a q (fun i d' a' e' q' => hs (i + 1) d' a' (by simpa using e') q') (fun a q => he a (by simpa using q))
    | ct a => exact ih (fun i => I (i + 1)) a q (fun i d' a' e' q' => hs (i + 1) d' a' (by simpa using e') q') (fun a q => he a (by simpa using q))
    | bk a => exact okr_pure q
    | rt d => exact okr_pure q
end
/-! comprehensions -/
theorem lcR {γ : Type} {u : D → Option γ} {xt : γ → R Bool} {xe : γ → R D} (c : D → γ) (p : D → Bool) (f : D → D) : ∀ ds : List D, (∀ d ∈ ds, u d = some (c d)) → (∀ d ∈ ds, xt (c d) = .ok (p d)) → (∀ d ∈ ds, p d = true → xe (c d) = .ok (f d)) → lcF u xt xe ds = .ok ((ds.filter p).map f)
  | [], _, _, _ => rfl
  | d :: ds, h1, h2, h3 => by
    have ih := lcR c p f ds (fun x m => h1 x (.tail _ m)) (fun x m => h2 x (.tail _ m)) (fun x m => h3 x (.tail _ m))
    unfold lcF
    rw [h1 d (.head _)]
    simp only [ask_some, R.bind_eq, R.bd, h2 d (.head _), noex_R]
    cases q : p d with
    | false => simp only [Bool.false_eq_true, if_false, ih, List.filter_cons, q]
    | true =>
      simp only [if_true, List.filter_cons, q, List.map_cons]
      rw [h3 d (.head _) q, ih]
      rfl
inductive All2 {α β : Type} (P : α → β → Prop) : List α → List β → Prop
  | nil : All2 P [] []
  | cons {x : α} {y : β} {xs : List α} {ys : List β} (h : P x y) (t : All2 P xs ys) : All2 P (x :: xs) (y :: ys)
/-! the bag -/
/-! numbers -/
theorem mul_ii {i j : Int} (hi : i.natAbs < 2 ^ 64) (hj : j.natAbs < 2 ^ 64) : mulD (.int i) (.int j) = some (.int (i * j)) := by
  have h1 := PySem.Flt.log2_lt_of (n := i.natAbs) (k := 64) (by decide) hi
  have h2 := PySem.Flt.log2_lt_of (n := j.natAbs) (k := 64) (by decide) hj
  exact if_pos (show i.natAbs.log2 + j.natAbs.log2 < 1000000 by omega)
theorem mod_ii {i j : Int} (hj : 0 < j) : modD (.int i) (.int j) = some (.int (i % j)) := if_pos hj
theorem fdiv_ii {i j : Int} (hj : 0 < j) (h : j.natAbs < 2 ^ 64) : fdivD (.int i) (.int j) = some (.int (i / j)) := by
  have h1 := PySem.Flt.log2_lt_of (n := j.natAbs) (k := 64) (by decide) h
  exact if_pos (show 0 < j ∧ j.natAbs.log2 < 9000 from ⟨hj, by omega⟩)
@[simp] theorem add_ii {i j : Int} : addD (.int i) (.int j) = some (.int (i + j)) := rfl
@[simp] theorem sub_ii {i j : Int} : subD (.int i) (.int j) = some (.int (i - j)) := rfl
@[simp] theorem lt_ii {i j : Int} : ltD (.int i) (.int j) = some (.bl (decide (i < j))) := rfl
@[simp] theorem le_ii {i j : Int} : leD (.int i) (.int j) = some (.bl (decide (i ≤ j))) := rfl
@[simp] theorem gt_ii {i j : Int} : gtD (.int i) (.int j) = some (.bl (decide (j < i))) := rfl
@[simp] theorem ge_ii {i j : Int} : geD (.int i) (.int j) = some (.bl (decide (j ≤ i))) := rfl
@[simp] theorem eq_ii {i j : Int} : eqD (.int i) (.int j) = some (.bl (decide (i = j))) := rfl
@[simp] theorem ne_ii {i j : Int} : neD (.int i) (.int j) = some (.bl (!decide (i = j))) := rfl
@[simp] theorem eq_ss {a b : List Nat} : eqD (.str a) (.str b) = some (.bl (decide (a = b))) := rfl
@[simp] theorem ne_ss {a b : List Nat} : neD (.str a) (.str b) = some (.bl (!decide (a = b))) := rfl
@[simp] theorem bOf_bl {b : Bool} : bOf (.bl b) = some b := rfl
@[simp] theorem tru_bl {b : Bool} : truD (.bl b) = some b := rfl
@[simp] theorem tru_str {s : List Nat} : truD (.str s) = some (!s.isEmpty) := rfl
@[simp] theorem tru_lst {s : List D} : truD (.lst s) = some (!s.isEmpty) := rfl
@[simp] theorem tru_tup {s : List D} : truD (.tup s) = some (!s.isEmpty) := rfl
@[simp] theorem tru_int {i : Int} : truD (.int i) = some (i != 0) := rfl
@[simp] theorem int_int {i : Int} : intD [.int i] = some (.int i) := rfl
@[simp] theorem len_lst {s : List D} : lenD [.lst s] = some (.int s.length) := rfl
@[simp] theorem len_tup {s : List D} : lenD [.tup s] = some (.int s.length) := rfl
@[simp] theorem len_str {s : List Nat} : lenD [.str s] = some (.int s.length) := rfl
@[simp] theorem len_scr {s : List Int} : lenD [.scr s] = some (.int s.length) := rfl
@[simp] theorem it_lst {s : List D} : itD (.lst s) = some s := rfl
@[simp] theorem it_tup {s : List D} : itD (.tup s) = some s := rfl
@[simp] theorem it_str {s : List Nat} : itD (.str s) = some (chrs s) := rfl
@[simp] theorem int_of {i : Int} : intOf (.int i) = some i := rfl
@[simp] theorem flat_int {i : Int} : flatD (.int i) = some (.int i) := rfl
@[simp] theorem flat_bl {i : Bool} : flatD (.bl i) = some (.bl i) := rfl
@[simp] theorem flat_str {i : List Nat} : flatD (.str i) = some (.str i) := rfl
@[simp] theorem str_of {i : List Nat} : strOf (.str i) = some i := rfl
theorem sz_ok {ds : List D} (h : ds.length ≤ 1000000) : szL ds = some ds := if_pos (by rw [sizeLine_eq]; omega)
theorem apd_ok {ds : List D} {d : D} (h : ds.length < 1000000) : apd ds d = some (ds ++ [d]) := if_pos (by rw [sizeLine_eq]; omega)
theorem rng1_ok {j : Int} (h0 : -4611686018427387904 ≤ j) (h : j ≤ 1000000) : rng1 [.int j] = some (rangeL 0 j.toNat) := if_pos ⟨h0, h⟩
theorem range_len {lo : Int} {n : Nat} : (rangeL lo n).length = n := by simp [rangeL]
theorem range_mem {lo : Int} {n : Nat} {d : D} (h : d ∈ rangeL lo n) : ∃ k : Nat, k < n ∧ d = .int (lo + k) := by
  unfold rangeL at h
  obtain ⟨k, hk, rfl⟩ := List.mem_map.mp h
  exact ⟨k, List.mem_range.mp hk, rfl⟩
theorem range_get {lo : Int} {n i : Nat} {d : D} (h : (rangeL lo n)[i]? = some d) : i < n ∧ d = .int (lo + i) := by
  unfold rangeL at h
  rw [List.getElem?_map] at h
  by_cases c : i < n
  · rw [List.getElem?_range c] at h
    cases h
    exact ⟨c, rfl⟩
  · rw [List.getElem?_eq_none (by simpa using c)] at h
    cases h
theorem ix_lst {ds : List D} {i : Int} (h0 : 0 ≤ i) (h : i < ds.length) : ixD (.lst ds) (.int i) = some (ds[i.toNat]'(by omega)) := by
  unfold ixD L2.atI ixN
  simp only
  rw [if_pos h0, if_pos h]
  exact List.getElem?_eq_getElem (by omega)
theorem ixN_ok {n : Nat} {i : Int} (h0 : 0 ≤ i) (h : i < n) : ixN n i = some i.toNat := by
  unfold ixN
  rw [if_pos h0, if_pos h]
theorem set_ok {ds : List D} {i : Int} {d : D} (h0 : 0 ≤ i) (h : i < ds.length) : setI ds (.int i) d = some (ds.set i.toNat d) := by
  unfold setI
  simp only [ixN_ok h0 h]
  rfl
end DL
namespace FN
open DL
def c_CHARACTERS : D := (.str [48, 49, 50, 51, 52, 53, 54, 55, 56, 57, 97, 98, 99, 100, 101, 102, 103, 104, 105, 106, 107, 108, 109, 110, 111, 112, 113, 114, 115, 116, 117, 118, 119, 120, 121, 122])
def c_LONGEST_LABEL : D := (.int (20))
def b_is_label_344b (a0 : D) : R (Fl Unit Empty) := (do let t16 ← (DL.orM (DL.notM (do let x2 ← (do let x1 ← (pure a0); DL.ask (isiD "str" x1)); DL.ask (truD x2))) (DL.notM (do let x6 ← (chainM leD leD (pure (.int 1)) (do let r5 ← (do let x3 ← (pure a0); let r4 ← pure []; pure (x3 :: r4)); DL.ask (lenD r5)) (pure c_LONGEST_LABEL)); DL.ask (bOf x6)))); seqF (if t16 = true then (do let v8 ← (pure (.bl false)); pure (.rt v8)) else (pure (.nx ()))) fun (a7 : Unit) => (do let v15 ← (notV (mkL (do let r14 ← (do let r9 ← (pure a0); DL.ask (itD r9)); lcF (fun d => some d) (fun (c11 : D) => (do let x12 ← (pure c11); let y13 ← (pure c_CHARACTERS); DL.ask ((notInD x12 y13).bind bOf))) (fun (c11 : D) => (pure c11)) r14))); pure (.rt v15)))
def m_is_label_344b : List D → R D := apR1 fun a0 => runR false (b_is_label_344b a0)
theorem n_is_label_344b : ∀ ds : List D, m_is_label_344b ds ≠ .stuck → ds.length = 1 := apR1_len _
/-! ### what they do -/
/-- the thirty-six signs -/
def CH : List Nat := [48, 49, 50, 51, 52, 53, 54, 55, 56, 57, 97, 98, 99, 100, 101, 102, 103, 104, 105, 106, 107, 108, 109, 110, 111, 112, 113, 114, 115, 116, 117, 118, 119, 120, 121, 122]
/-! labels, paths, hosts -/
def isLab (n : Nat) (z : List Nat) : Bool := decide (1 ≤ z.length) && (decide (z.length ≤ n) && z.all fun c => decide (c ∈ CH))
def labD : D → Bool
  | .str z => isLab 20 z
  | _ => false
theorem labD_str {z : List Nat} : labD (.str z) = isLab 20 z := rfl
def isStr : D → Bool
  | .str _ => true
  | _ => false
theorem isi_str {d : D} {T : String} (h : tyD d = some T) : isiD "str" d = some (.bl (isStr d)) := by
  cases d with
  | non => exact congrArg (Option.map D.bl) (show L2.kitB "NoneType" "str" = some false by decide +kernel)
  | bl _ => exact congrArg (Option.map D.bl) (show L2.kitB "bool" "str" = some false by decide +kernel)
  | int _ => exact congrArg (Option.map D.bl) (show L2.kitB "int" "str" = some false by decide +kernel)
  | str _ => exact congrArg (Option.map D.bl) (show L2.kitB "str" "str" = some true by decide +kernel)
  | tup _ => exact congrArg (Option.map D.bl) (show L2.kitB "tuple" "str" = some false by decide +kernel)
  | lst _ => exact congrArg (Option.map D.bl) (show L2.kitB "list" "str" = some false by decide +kernel)
  | scr _ => exact congrArg (Option.map D.bl) (show L2.kitB "list" "str" = some false by decide +kernel)
  | dic _ _ => exact congrArg (Option.map D.bl) (show L2.kitB "dict" "str" = some false by decide +kernel)
  | ins _ _ _ => cases h
  | xc _ _ _ _ => cases h
theorem chrs_mem {z : List Nat} {d : D} (h : d ∈ chrs z) : ∃ c ∈ z, d = .str [c] := by
  obtain ⟨c, m, rfl⟩ := List.mem_map.mp h
  exact ⟨c, m, rfl⟩
def sgn : D → Nat
  | .str [c] => c
  | _ => 0
theorem filter_chrs (p : Nat → Bool) : ∀ z : List Nat, (chrs z).filter (fun d => p (sgn d)) = chrs (z.filter p)
  | [] => rfl
  | c :: z => by
    show ((D.str [c]) :: chrs z).filter (fun d => p (sgn d)) = _
    rw [List.filter_cons, List.filter_cons, filter_chrs p z]
    show (if p c = true then _ else _) = _
    cases p c <;> rfl
theorem filter_none {α : Type} (p : α → Bool) (z : List α) : (z.filter fun c => !p c).isEmpty = z.all p := by
  induction z with
  | nil => rfl
  | cons c z ih =>
    rw [List.filter_cons, List.all_cons, ← ih]
    cases p c <;> rfl
theorem chrs_empty (z : List Nat) : (chrs z).isEmpty = z.isEmpty := by cases z <;> rfl
theorem is_label_ok {d : D} {T : String} (h : tyD d = some T) : m_is_label_344b [d] = .ok (.bl (labD d)) := by
  unfold m_is_label_344b apR1 b_is_label_344b
  simp only [R.pure_eq, R.bind_eq, R.bd, isi_str h, ask_some, tru_bl, DL.orM, DL.notM]
  cases d with
  | str z =>
    simp only [isStr, Bool.not_true, Bool.false_eq_true, if_false, chainM, R.pure_eq, R.bind_eq, R.bd, len_str, ask_some, le_ii, Option.bind_some, bOf_bl, c_LONGEST_LABEL]
    by_cases h1 : 1 ≤ z.length
    · have e1 : decide ((1 : Int) ≤ (z.length : Int)) = true := decide_eq_true (by omega)
      simp only [e1, if_true, R.bd, ask_some, bOf_bl]
      by_cases h2 : z.length ≤ 20
      · have e2 : decide ((z.length : Int) ≤ 20) = true := decide_eq_true (by omega)
        simp only [e2, Bool.not_true, Bool.false_eq_true, if_false, seqR_nx, it_str, ask_some, R.bd]
        rw [lcR (c := fun d => d) (p := fun d => !decide (sgn d ∈ CH)) (f := fun d => d) _ (fun _ _ => rfl) (fun d m => ?_) (fun _ _ _ => rfl)]
        · rw [filter_chrs (fun c => !decide (c ∈ CH))]
          simp only [List.map_id', mkL_R, notV, R.bind_eq, R.bd, tru_lst, ask_some, R.pure_eq, runR_rt, chrs_empty, filter_none, Bool.not_not]
          rw [labD_str]
          unfold isLab
          rw [decide_eq_true h1, decide_eq_true h2]
          rfl
        · obtain ⟨c, _, rfl⟩ := chrs_mem m
          rfl
      · have e2 : decide ((z.length : Int) ≤ 20) = false := decide_eq_false (by omega)
        simp only [e2, Bool.not_false, if_true, seqR_rt, runR_rt]
        rw [labD_str]
        unfold isLab
        rw [decide_eq_true h1, decide_eq_false h2]
        rfl
    · have e1 : decide ((1 : Int) ≤ (z.length : Int)) = false := decide_eq_false (by omega)
      simp only [e1, Bool.false_eq_true, if_false, R.bd, ask_some, bOf_bl, Bool.not_false, if_true, seqR_rt, runR_rt]
      rw [labD_str]
      unfold isLab
      rw [decide_eq_false h1]
      rfl
  | ins _ _ _ => cases h
  | xc _ _ _ _ => cases h
  | _ => rfl
end FN
namespace DL
open PySem
theorem okr_seqP {α β γ : Type} {x : R (Fl α β)} {k : α → R (Fl γ β)} {Q : Fl γ β → Prop} (P : α → Prop) (h : OkR x (SeqQ P Q)) (w : ∀ a, P a → OkR (k a) Q) : OkR (seqF x k) Q := okr_seq (okr_mono h fun f q => by
  cases f with
  | nx a => exact w a q
  | rt d => exact q
  | bk b => exact q
  | ct b => exact q)
theorem askR {α : Type} {a : α} : (ask (some a) : R α) = pure a := rfl
theorem okpR {α : Type} {a : α} : (R.ok a) = (pure a : R α) := rfl
theorem lift_pR {α : Type} {a : R α} : (Mo.lift a : R α) = a := rfl
theorem okr_p {α : Type} {a : α} {Q : α → Prop} (h : Q a) : OkR (pure a : R α) Q := ⟨a, rfl, h⟩
/-! ### texts -/
theorem mul_s {a : List Nat} {k : Nat} (h0 : k < 1000000) (h : a.length * k ≤ 1000000) : mulD (.str a) (.int k) = some (.str (List.replicate k a).flatten) := by
  have e : ∀ i : Int, mulD (.str a) (.int i) = if 0 ≤ i ∧ i < 1000000 ∧ a.length * i.toNat ≤ 1000000 then some (.str (List.replicate i.toNat a).flatten) else none := fun i => rfl
  rw [e, Int.toNat_natCast, if_pos ⟨by omega, by omega, h⟩]
def Tx (n : Nat) (z : List Nat) : Prop := z.length ≤ n ∧ ∀ c ∈ z, c < 1114112
theorem Tx.up {n m : Nat} {z : List Nat} (h : Tx n z) (w : n ≤ m) : Tx m z := ⟨Nat.le_trans h.1 w, h.2⟩
theorem Tx.app {n m : Nat} {a b : List Nat} (h : Tx n a) (k : Tx m b) : Tx (n + m) (a ++ b) := ⟨by rw [List.length_append]; exact Nat.add_le_add h.1 k.1, fun c hc => by
  rcases List.mem_append.mp hc with hc | hc
  · exact h.2 c hc
  · exact k.2 c hc⟩
theorem add_ss {a b : List Nat} (h : a.length + b.length ≤ 1000000) : addD (.str a) (.str b) = some (.str (a ++ b)) := if_pos (by rw [sizeLine_eq]; omega)
theorem add_ll {a b : List D} (h : a.length + b.length ≤ 1000000) : addD (.lst a) (.lst b) = some (.lst (a ++ b)) := if_pos (by rw [sizeLine_eq]; omega)
@[simp] theorem slice_s {z : List Nat} {lo hi : Option Int} : sliceD (.str z) lo hi = some (.str (cutL z lo hi)) := rfl
@[simp] theorem slice_l {z : List D} {lo hi : Option Int} : sliceD (.lst z) lo hi = some (.lst (cutL z lo hi)) := rfl
theorem cut_hi {α : Type} {z : List α} {i : Int} (h : 0 ≤ i) : cutL z none (some i) = z.take i.toNat := by
  unfold cutL
  have e1 : HT.sIx z.length 0 none = 0 := rfl
  have e2 : HT.sIx z.length z.length (some i) = min i.toNat z.length := by
    unfold HT.sIx
    simp only
    split <;> omega
  rw [e1, e2, List.drop_zero, Nat.sub_zero, List.take_eq_take_iff]
  omega
theorem cut_lo {α : Type} {z : List α} {i : Int} (h : 0 ≤ i) : cutL z (some i) none = z.drop i.toNat := by
  unfold cutL
  have e1 : HT.sIx z.length z.length none = z.length := rfl
  have e2 : HT.sIx z.length 0 (some i) = min i.toNat z.length := by
    unfold HT.sIx
    simp only
    split <;> omega
  rw [e1, e2]
  by_cases c : i.toNat ≤ z.length
  · rw [Nat.min_eq_left c, List.take_of_length_le (by simp)]
  · rw [Nat.min_eq_right (by omega), List.drop_eq_nil_of_le (Nat.le_refl _), List.drop_eq_nil_of_le (by omega)]
    simp
theorem joinN_nil : ∀ ps : List (List Nat), joinN [] ps = ps.flatten
  | [] => rfl
  | [p] => by simp [joinN]
  | p :: q :: r => by rw [joinN, joinN_nil (q :: r)]; simp
theorem strs_map : ∀ ps : List (List Nat), strsOf (ps.map .str) = some ps
  | [] => rfl
  | p :: ps => by
    show (strsOf (ps.map .str)).map (p :: ·) = _
    rw [strs_map ps]
    rfl
theorem join_ok {S : List Nat} {ps : List (List Nat)} (h : (ps.map (·.length)).sum + ps.length * S.length ≤ 16777216) : joinD (.str S) (.lst (ps.map .str)) = some (.str (joinN S ps)) := by
  unfold joinD
  show (match strsOf (ps.map .str) with | some ps => _ | none => _) = _
  rw [strs_map]
  exact if_pos h
theorem flat_ones : ∀ z : List Nat, (z.map fun c => [c]).flatten = z
  | [] => rfl
  | c :: z => by simp [flat_ones z]
theorem sum_ones : ∀ z : List Nat, ((z.map fun c => [c]).map (·.length)).sum = z.length
  | [] => rfl
  | c :: z => by rw [List.map_cons, List.map_cons, List.sum_cons, sum_ones z]; simp; omega
/-- the text of drawn signs -/
theorem join_chrs {z : List Nat} (h : z.length ≤ 1000000) : joinD (.str []) (.lst (chrs z)) = some (.str z) := by
  have e : chrs z = (z.map fun c => [c]).map .str := by unfold chrs; rw [List.map_map]; rfl
  rw [e, join_ok, joinN_nil, flat_ones]
  rw [sum_ones]
  simp
  omega
/-! ### repr -/
theorem toPyL_strs : ∀ zs : List (List Nat), toPyL (zs.map .str) = some (zs.map fun z => .str ⟨z.toArray⟩)
  | [] => by simp [toPyL]
  | z :: zs => by simp [toPyL, toPy, toPyL_strs zs]
theorem lay_strs : ∀ {zs : List (List Nat)}, (∀ z ∈ zs, Tx 1000 z) → PyData.canLayAll0 (zs.map fun z => .str ⟨z.toArray⟩) = true ∧ PyData.depthAll (zs.map fun z => .str ⟨z.toArray⟩) = 0 ∧ PyData.weightAll (zs.map fun z => .str ⟨z.toArray⟩) ≤ zs.length * 1001 ∧ PyData.intsShortAll 13 (zs.map fun z => .str ⟨z.toArray⟩) = true ∧ PyData.showableAll (zs.map fun z => .str ⟨z.toArray⟩) = true
  | [], _ => by simp [PyData.canLayAll0, PyData.depthAll, PyData.weightAll, PyData.intsShortAll, PyData.showableAll]
  | z :: zs, h => by
    obtain ⟨h1, h2, h3, h4, h5⟩ := lay_strs fun x m => h x (.tail _ m)
    have hz := h z (.head _)
    refine ⟨?_, ?_, ?_, ?_, ?_⟩
    · rw [List.map_cons, PyData.canLayAll0, h1]
      simp only [PyData.canLay0, Bool.and_true, PyData.strOk]
      simpa using hz.2
    · rw [List.map_cons, PyData.depthAll, h2, PyData.depth]; rfl
    · rw [List.map_cons, PyData.weightAll, PyData.weight, List.length_cons]
      have := hz.1
      simp only [List.size_toArray]
      omega
    · rw [List.map_cons, PyData.intsShortAll, h4, PyData.intsShort]; rfl
    · rw [List.map_cons, PyData.showableAll, h5, PyData.showable]; rfl
theorem str_beq (a b : List Nat) : PyData.eqv (.str ⟨a.toArray⟩) (.str ⟨b.toArray⟩) = decide (a = b) := by
  rw [PyData.eqv]
  by_cases h : a = b
  · subst h
    simp
  · rw [decide_eq_false h]
    have : (⟨a.toArray⟩ : Str) ≠ ⟨b.toArray⟩ := fun z => by
      have z2 : a.toArray = b.toArray := Str.mk.inj z
      exact h (by simpa using z2)
    simpa using this
theorem any_strs (a : List Nat) : ∀ zs : List (List Nat), ((zs.map fun z => PyData.str ⟨z.toArray⟩).any fun z => PyData.eqv z (.str ⟨a.toArray⟩)) = decide (a ∈ zs)
  | [] => rfl
  | z :: zs => by
    rw [List.map_cons, List.any_cons, any_strs a zs, str_beq]
    by_cases h : a = z
    · subst h; simp
    · have h' : ¬ z = a := fun e => h e.symm
      simp [h, h']
theorem shaped_str {n : Nat} {a : List Nat} (h : Tx n a) : SeqAt.shaped (.str ⟨a.toArray⟩) = true := by
  unfold SeqAt.shaped
  simp only [PyData.canLay0, PyData.strOk, PyData.depth]
  simpa using h.2
theorem shaped_strs {zs : List (List Nat)} (h : ∀ z ∈ zs, Tx 1000 z) : SeqAt.shaped (.list (zs.map fun z => .str ⟨z.toArray⟩)) = true ∧ SeqAt.shaped (.tuple (zs.map fun z => .str ⟨z.toArray⟩)) = true := by
  obtain ⟨h1, h2, _⟩ := lay_strs h
  unfold SeqAt.shaped
  simp only [PyData.canLay0, h1, PyData.depth, h2]
  exact ⟨rfl, rfl⟩
theorem in_strs {n : Nat} {a : List Nat} {zs : List (List Nat)} (ha : Tx n a) (h : ∀ z ∈ zs, Tx 1000 z) : inD (.str a) (.lst (zs.map .str)) = some (.bl (decide (a ∈ zs))) := by
  have e : inP (.str a) (.lst (zs.map .str)) = some (decide (a ∈ zs)) := by
    unfold inP
    split
    · rename_i q; cases q
    · rename_i ds _ q
      cases q
      rw [toPy, toPy, toPyL_strs]
      simp only [Option.map_some, shaped_str ha, (shaped_strs h).1, Bool.and_self, if_true, any_strs]
    · rename_i q; cases q
    · rename_i q _ _; exact absurd rfl (q _)
  unfold inD
  rw [e]
  rfl
end DL
/-! ### plain data of a bounded depth: repr, ==, in -/
namespace DL
open PySem
mutual
def wt : D → Nat
  | .str z => z.length
  | .tup ds => wtL ds + 1
  | .lst ds => wtL ds + 1
  | .int _ => 70
  | _ => 1
def wtL : List D → Nat
  | [] => 0
  | d :: ds => wt d + 1 + wtL ds
end
mutual
def nic : Nat → D → Bool
  | _, .non => true
  | _, .bl _ => true
  | _, .int i => decide (i.natAbs < 10 ^ 20)
  | _, .str z => z.all fun c => decide (c < 1114112)
  | n + 1, .tup ds => nicL n ds
  | n + 1, .lst ds => nicL n ds
  | _, _ => false
def nicL : Nat → List D → Bool
  | _, [] => true
  | n, d :: ds => nic n d && nicL n ds
end
mutual
def py : D → PyData
  | .non => .none
  | .bl b => .bool b
  | .int i => .int i
  | .str s => .str ⟨s.toArray⟩
  | .tup ds => .tuple (pyL ds)
  | .lst ds => .list (pyL ds)
  | _ => .none
def pyL : List D → List PyData
  | [] => []
  | d :: ds => py d :: pyL ds
end
mutual
def deq : D → D → Bool
  | .non, .non => true
  | .bl a, .bl b => a == b
  | .bl a, .int j => (if a then 1 else 0) == j
  | .int i, .bl b => i == (if b then 1 else 0)
  | .int i, .int j => i == j
  | .str x, .str y => decide (x = y)
  | .lst xs, .lst ys => deqL xs ys
  | .tup xs, .tup ys => deqL xs ys
  | _, _ => false
def deqL : List D → List D → Bool
  | [], [] => true
  | x :: xs, y :: ys => deq x y && deqL xs ys
  | _, _ => false
end
theorem int20 {i : Int} (h : i.natAbs < 10 ^ 20) : i.natAbs.log2 < 67 := PySem.Flt.log2_lt_of (k := 67) (by decide) (Nat.lt_of_lt_of_le h (by decide))
theorem shown20 {i : Int} (h : i.natAbs < 10 ^ 20) : (PyData.shown (.int i)).length ≤ 21 := by
  have e := int_text_length_le10 (k := 20) (by decide) h
  show (Str.ofString (toString i)).length ≤ 21
  rw [ofString_length]; exact e
structure NicP (n : Nat) (w : Nat) (p : PyData) : Prop where
  lay : p.canLay0 = true
  dep : p.depth ≤ n
  sho : p.showable = true
  lea : p.leavesShort 25 = true
  wei : p.weight ≤ w
  nod : p.hasDict = false
structure NicL (n : Nat) (w : Nat) (p : List PyData) : Prop where
  lay : PyData.canLayAll0 p = true
  dep : PyData.depthAll p ≤ n
  sho : PyData.showableAll p = true
  lea : PyData.leavesShortAll 25 p = true
  wei : PyData.weightAll p ≤ w
  nod : PyData.hasDictAll p = false
mutual
theorem nic_ok : ∀ (n : Nat) (d : D), nic n d = true → toPy d = some (py d) ∧ NicP n (wt d) (py d)
  | n, .non, _ => ⟨by simp [toPy, py], by constructor <;> simp [py, PyData.canLay0, PyData.depth, PyData.showable, PyData.leavesShort, PyData.weight, PyData.hasDict, wt]⟩
  | n, .bl _, _ => ⟨by simp [toPy, py], by constructor <;> simp [py, PyData.canLay0, PyData.depth, PyData.showable, PyData.leavesShort, PyData.weight, PyData.hasDict, wt]⟩
  | n, .int i, h => by
    have h' : i.natAbs < 10 ^ 20 := by simpa [nic] using h
    have hl := int20 h'
    refine ⟨by simp [toPy, py], ?_⟩
    constructor <;> simp [py, PyData.canLay0, PyData.depth, PyData.showable, PyData.leavesShort, PyData.hasDict]
    · omega
    · have := shown20 h'; omega
    · simp only [PyData.weight, wt]
      split <;> omega
  | n, .str z, h => by
    have h' : ∀ c ∈ z, c < 1114112 := by simpa [nic] using h
    refine ⟨by simp [toPy, py], ?_⟩
    constructor <;> simp [py, PyData.canLay0, PyData.depth, PyData.showable, PyData.leavesShort, PyData.hasDict, PyData.strOk, PyData.weight, wt]
    · exact h'
    · intro c hc; have := h' c hc; omega
  | n + 1, .tup ds, h => by
    obtain ⟨e, q⟩ := nicL_ok n ds (by simpa [nic] using h)
    refine ⟨by rw [toPy, e]; simp [py], ?_⟩
    constructor <;> simp only [py, PyData.canLay0, PyData.depth, PyData.showable, PyData.leavesShort, PyData.hasDict, PyData.weight, wt]
    · exact q.lay
    · exact Nat.succ_le_succ q.dep
    · exact q.sho
    · exact q.lea
    · exact Nat.le_succ_of_le q.wei
    · exact q.nod
  | n + 1, .lst ds, h => by
    obtain ⟨e, q⟩ := nicL_ok n ds (by simpa [nic] using h)
    refine ⟨by rw [toPy, e]; simp [py], ?_⟩
    constructor <;> simp only [py, PyData.canLay0, PyData.depth, PyData.showable, PyData.leavesShort, PyData.hasDict, PyData.weight, wt]
    · exact q.lay
    · exact Nat.succ_le_succ q.dep
    · exact q.sho
    · exact q.lea
    · exact Nat.le_succ_of_le q.wei
    · exact q.nod
  | 0, .tup _, h => by simp [nic] at h
  | 0, .lst _, h => by simp [nic] at h
  | n, .dic _ _, h => by simp [nic] at h
  | n, .ins _ _ _, h => by simp [nic] at h
  | n, .scr _, h => by simp [nic] at h
  | n, .xc _ _ _ _, h => by simp [nic] at h
theorem nicL_ok : ∀ (n : Nat) (ds : List D), nicL n ds = true → toPyL ds = some (pyL ds) ∧ NicL n (wtL ds) (pyL ds)
  | n, [], _ => ⟨by simp [toPyL, pyL], by constructor <;> simp [pyL, PyData.canLayAll0, PyData.depthAll, PyData.showableAll, PyData.leavesShortAll, PyData.weightAll, PyData.hasDictAll, wtL]⟩
  | n, d :: ds, h => by
    have h' : nic n d = true ∧ nicL n ds = true := by simpa [nicL] using h
    obtain ⟨e1, q1⟩ := nic_ok n d h'.1
    obtain ⟨e2, q2⟩ := nicL_ok n ds h'.2
    refine ⟨by simp [toPyL, e1, e2, pyL], ?_⟩
    have := q1.wei
    have := q2.wei
    have := q1.dep
    have := q2.dep
    constructor <;> simp only [pyL, PyData.canLayAll0, PyData.depthAll, PyData.showableAll, PyData.leavesShortAll, PyData.weightAll, PyData.hasDictAll, wtL]
    · rw [q1.lay, q2.lay]; rfl
    · omega
    · rw [q1.sho, q2.sho]; rfl
    · rw [q1.lea, q2.lea]; rfl
    · omega
    · rw [q1.nod, q2.nod]; rfl
end
theorem shaped_nic {n : Nat} {d : D} (h : nic n d = true) (hn : n ≤ 60) : toPy d = some (py d) ∧ SeqAt.shaped (py d) = true := by
  obtain ⟨e, q⟩ := nic_ok n d h
  refine ⟨e, ?_⟩
  unfold SeqAt.shaped
  rw [q.lay]
  have := q.dep
  simp only [Bool.true_and, decide_eq_true_eq]
  omega
theorem str_eqv (x y : List Nat) : ((⟨x.toArray⟩ : Str) == ⟨y.toArray⟩) = decide (x = y) := by
  have := str_beq x y
  rw [PyData.eqv] at this
  exact this
mutual
theorem deq_py : ∀ (n m : Nat) (a b : D), nic n a = true → nic m b = true → PyData.eqv (py a) (py b) = deq a b
  | n, m, .non, b, _, hb => by cases b <;> simp [py, PyData.eqv, deq] <;> simp [nic] at hb
  | n, m, .bl x, b, _, hb => by cases b <;> simp [py, PyData.eqv, deq] <;> simp [nic] at hb
  | n, m, .int x, b, _, hb => by cases b <;> simp [py, PyData.eqv, deq] <;> simp [nic] at hb
  | n, m, .str x, b, _, hb => by cases b <;> simp [py, PyData.eqv, deq, str_eqv] <;> simp [nic] at hb
  | n + 1, m, .tup x, b, ha, hb => by
    cases b with
    | tup y =>
      cases m with
      | zero => simp [nic] at hb
      | succ m =>
        simp only [py, PyData.eqv, deq]
        exact deqL_py n m x y (by simpa [nic] using ha) (by simpa [nic] using hb)
    | _ => simp [py, PyData.eqv, deq] <;> simp [nic] at hb
  | n + 1, m, .lst x, b, ha, hb => by
    cases b with
    | lst y =>
      cases m with
      | zero => simp [nic] at hb
      | succ m =>
        simp only [py, PyData.eqv, deq]
        exact deqL_py n m x y (by simpa [nic] using ha) (by simpa [nic] using hb)
    | _ => simp [py, PyData.eqv, deq] <;> simp [nic] at hb
  | 0, m, .tup _, b, h, _ => by simp [nic] at h
  | 0, m, .lst _, b, h, _ => by simp [nic] at h
  | n, m, .dic _ _, b, h, _ => by simp [nic] at h
  | n, m, .ins _ _ _, b, h, _ => by simp [nic] at h
  | n, m, .scr _, b, h, _ => by simp [nic] at h
  | n, m, .xc _ _ _ _, b, h, _ => by simp [nic] at h
theorem deqL_py : ∀ (n m : Nat) (a b : List D), nicL n a = true → nicL m b = true → PyData.eqvAll (pyL a) (pyL b) = deqL a b
  | n, m, [], [], _, _ => by simp [pyL, PyData.eqvAll, deqL]
  | n, m, [], _ :: _, _, _ => by simp [pyL, PyData.eqvAll, deqL]
  | n, m, _ :: _, [], _, _ => by simp [pyL, PyData.eqvAll, deqL]
  | n, m, x :: xs, y :: ys, h, k => by
    have h' : nic n x = true ∧ nicL n xs = true := by simpa [nicL] using h
    have k' : nic m y = true ∧ nicL m ys = true := by simpa [nicL] using k
    simp only [pyL, PyData.eqvAll, deqL]
    rw [deq_py n m x y h'.1 k'.1, deqL_py n m xs ys h'.2 k'.2]
end
theorem eqP_nic {n m : Nat} {a b : D} (ha : nic n a = true) (hb : nic m b = true) (hn : n ≤ 60) (hm : m ≤ 60) : eqP a b = some (deq a b) := by
  have e : eqS a b = some (deq a b) := by
    obtain ⟨e1, s1⟩ := shaped_nic ha hn
    obtain ⟨e2, s2⟩ := shaped_nic hb hm
    unfold eqS
    rw [e1, e2]
    simp only [s1, s2, Bool.and_self, if_true, deq_py n m a b ha hb]
  unfold eqP
  split
  · simp [deq]
  · simp [deq]; rw [Bool.eq_iff_iff]; simp
  · simp [deq]; rw [Bool.eq_iff_iff]; simp
  · simp [deq]
  · exact e
theorem eq_nic {n m : Nat} {a b : D} (ha : nic n a = true) (hb : nic m b = true) (hn : n ≤ 60) (hm : m ≤ 60) : eqD a b = some (.bl (deq a b)) := by unfold eqD; rw [eqP_nic ha hb hn hm]; rfl
theorem ne_nic {n m : Nat} {a b : D} (ha : nic n a = true) (hb : nic m b = true) (hn : n ≤ 60) (hm : m ≤ 60) : neD a b = some (.bl (!deq a b)) := by unfold neD; rw [eqP_nic ha hb hn hm]; rfl
mutual
theorem deq_refl : ∀ (n : Nat) (a : D), nic n a = true → deq a a = true
  | n, .non, _ => by simp [deq]
  | n, .bl _, _ => by simp [deq]
  | n, .int _, _ => by simp [deq]
  | n, .str _, _ => by simp [deq]
  | n + 1, .tup x, h => by simp only [deq]; exact deqL_refl n x (by simpa [nic] using h)
  | n + 1, .lst x, h => by simp only [deq]; exact deqL_refl n x (by simpa [nic] using h)
  | 0, .tup _, h => by simp [nic] at h
  | 0, .lst _, h => by simp [nic] at h
  | n, .dic _ _, h => by simp [nic] at h
  | n, .ins _ _ _, h => by simp [nic] at h
  | n, .scr _, h => by simp [nic] at h
  | n, .xc _ _ _ _, h => by simp [nic] at h
theorem deqL_refl : ∀ (n : Nat) (a : List D), nicL n a = true → deqL a a = true
  | n, [], _ => by simp [deqL]
  | n, x :: xs, h => by
    have h' : nic n x = true ∧ nicL n xs = true := by simpa [nicL] using h
    simp only [deqL, deq_refl n x h'.1, deqL_refl n xs h'.2, Bool.and_self]
end
theorem nicL_iff {n : Nat} : ∀ {ds : List D}, nicL n ds = true ↔ ∀ d ∈ ds, nic n d = true
  | [] => by simp [nicL]
  | d :: ds => by simp [nicL, nicL_iff (ds := ds)]
mutual
theorem nic_mono : ∀ (n m : Nat) (d : D), n ≤ m → nic n d = true → nic m d = true
  | n, m, .non, _, _ => by simp [nic]
  | n, m, .bl _, _, _ => by simp [nic]
  | n, m, .int _, _, h => by simpa [nic] using h
  | n, m, .str _, _, h => by simpa [nic] using h
  | n + 1, m + 1, .tup ds, k, h => by
    have := nicL_mono n m ds (by omega) (by simpa [nic] using h)
    simpa [nic] using this
  | n + 1, m + 1, .lst ds, k, h => by
    have := nicL_mono n m ds (by omega) (by simpa [nic] using h)
    simpa [nic] using this
  | n + 1, 0, .tup _, k, h => by omega
  | n + 1, 0, .lst _, k, h => by omega
  | 0, m, .tup _, _, h => by simp [nic] at h
  | 0, m, .lst _, _, h => by simp [nic] at h
  | n, m, .dic _ _, _, h => by simp [nic] at h
  | n, m, .ins _ _ _, _, h => by simp [nic] at h
  | n, m, .scr _, _, h => by simp [nic] at h
  | n, m, .xc _ _ _ _, _, h => by simp [nic] at h
theorem nicL_mono : ∀ (n m : Nat) (ds : List D), n ≤ m → nicL n ds = true → nicL m ds = true
  | n, m, [], _, _ => by simp [nicL]
  | n, m, d :: ds, k, h => by
    have h' : nic n d = true ∧ nicL n ds = true := by simpa [nicL] using h
    simp only [nicL, nic_mono n m d k h'.1, nicL_mono n m ds k h'.2, Bool.and_self]
end
theorem nic_tup {n : Nat} {ds : List D} : nic (n + 1) (.tup ds) = nicL n ds := by simp [nic]
theorem nic_lst {n : Nat} {ds : List D} : nic (n + 1) (.lst ds) = nicL n ds := by simp [nic]
end DL
namespace DL
open PySem PySem.W
/-! ### orders of rows of labels -/
def pr (z : List Nat) : PyData := .tuple [.int z.length, .str ⟨z.toArray⟩]
end DL
namespace FN
open DL
/-! ### rows in their order -/
def okRow (A : List (List Nat)) : Bool := decide (A.length ≤ 20) && A.all (isLab 20)
/-! ### drawn labels -/
theorem isLab_iff {n : Nat} {z : List Nat} : isLab n z = true ↔ 1 ≤ z.length ∧ z.length ≤ n ∧ ∀ c ∈ z, c ∈ CH := by
  unfold isLab
  simp
theorem ch_lt {c : Nat} (h : c ∈ CH) : c < 1114112 := by
  have : ∀ x ∈ CH, x < 1114112 := by decide
  exact this c h
theorem lab_tx {z : List Nat} (h : isLab 20 z = true) : Tx 20 z := ⟨(isLab_iff.mp h).2.1, fun c m => ch_lt ((isLab_iff.mp h).2.2 c m)⟩
end FN
/-! ### pages: shared mirrors and what they do -/
namespace FN
open DL
end FN
namespace FN
open DL PySem PySem.W
theorem abs_i {i : Int} : absD [.int i] = some (.int (if i < 0 then -i else i)) := rfl
theorem ix_str {z : List Nat} {i : Int} (h0 : 0 ≤ i) (h : i < z.length) : ∃ c, c ∈ z ∧ ixD (.str z) (.int i) = some (.str [c]) := by
  refine ⟨z[i.toNat]'(by omega), List.getElem_mem _, ?_⟩
  unfold ixD L2.atI
  simp only [ixN_ok h0 h]
  show Option.map (fun c => D.str [c]) (z[i.toNat]?) = _
  rw [List.getElem?_eq_getElem (by omega)]
  rfl
theorem tup_lst {ds : List D} : tupleD [.lst ds] = some (.tup ds) := rfl
theorem sub_ii {i j : Int} : subD (.int i) (.int j) = some (.int (i - j)) := rfl
theorem eqi {i j : Int} : (eqD (.int i) (.int j)).bind bOf = some (decide (i = j)) := rfl
def Sm (n W : Nat) (d : D) : Prop := nic n d = true ∧ wt d ≤ W
theorem Sm.mono {n m W V : Nat} {d : D} (h : Sm n W d) (h1 : n ≤ m) (h2 : W ≤ V) : Sm m V d := ⟨nic_mono n m d h1 h.1, Nat.le_trans h.2 h2⟩
theorem slice_t {z : List D} {lo hi : Option Int} : sliceD (.tup z) lo hi = some (.tup (cutL z lo hi)) := rfl
theorem join_tup {S : List Nat} {ps : List (List Nat)} (h : (ps.map (·.length)).sum + ps.length * S.length ≤ 16777216) : joinD (.str S) (.tup (ps.map .str)) = some (.str (joinN S ps)) := by
  unfold joinD
  show (match strsOf (ps.map .str) with | some ps => _ | none => _) = _
  rw [strs_map]
  exact if_pos h
theorem sum_le {A : List (List Nat)} {k : Nat} (h : ∀ z ∈ A, z.length ≤ k) : (A.map (·.length)).sum ≤ A.length * k := by
  induction A with
  | nil => simp
  | cons z A ih =>
    have h1 := h z (.head _)
    have h2 := ih fun w m => h w (.tail _ m)
    rw [List.map_cons, List.sum_cons, List.length_cons, Nat.succ_mul]
    omega
theorem le_l {i j : Int} : leD (.int i) (.int j) = some (.bl (decide (i ≤ j))) := rfl
def isN : D → Bool
  | .non => true
  | _ => false
theorem row_sum {A : List (List Nat)} (h : okRow A = true) : A.length ≤ 20 ∧ (A.map (·.length)).sum ≤ 400 := by
  simp only [okRow, Bool.and_eq_true, decide_eq_true_eq, List.all_eq_true] at h
  have := sum_le (A := A) (k := 20) fun z m => (lab_tx (h.2 z m)).1
  exact ⟨h.1, by omega⟩
theorem sz3 {a b c : D} : szL [a, b, c] = some [a, b, c] := sz_ok (by simp)
theorem sz2 {a b : D} : szL [a, b] = some [a, b] := sz_ok (by simp)
end FN
/-! ### pages read and compared: shared mirrors and what they do -/
namespace FN
open DL
end FN
namespace FN
open DL PySem PySem.W
section
variable {w w' : List Nat} {A A' B B' : List (List Nat)} {i i' : Int}
def pre (w : List Nat) (A : List (List Nat)) : List Nat := w ++ [58, 47, 47] ++ joinN [46] A
theorem join_row2 {S : List Nat} {A : List (List Nat)} (h : okRow A = true) (hS : S.length ≤ 1) : joinD (.str S) (.tup (A.map .str)) = some (.str (joinN S A)) ∧ (joinN S A).length ≤ 1000 := by
  obtain ⟨h1, h2⟩ := row_sum h
  have h3 : A.length * S.length ≤ 20 * 1 := Nat.mul_le_mul h1 hS
  refine ⟨join_tup (by omega), ?_⟩
  have := joinN_len S A
  omega
theorem join_tx {S : Nat} {A : List (List Nat)} (h : okRow A = true) (hS : S < 1114112) : ∀ c ∈ joinN [S] A, c < 1114112 := by
  simp only [okRow, Bool.and_eq_true, decide_eq_true_eq, List.all_eq_true] at h
  have hA := h.2
  clear h
  induction A with
  | nil => intro c hc; cases hc
  | cons z A ih =>
    have hz := (lab_tx (hA z (.head _))).2
    have ih' := ih fun w m => hA w (.tail _ m)
    cases A with
    | nil => intro c hc; exact hz c (by simpa [joinN] using hc)
    | cons y A =>
      intro c hc
      rw [joinN] at hc
      rcases List.mem_append.mp hc with hc | hc
      · exact hz c hc
      · rcases List.mem_append.mp hc with hc | hc
        · rw [List.mem_singleton.mp hc]; exact hS
        · exact ih' c hc
theorem row_of (h1 : A.length ≤ 20) (h2 : ∀ z ∈ A, isLab 20 z = true) : okRow A = true := by
  simp only [okRow, Bool.and_eq_true, decide_eq_true_eq, List.all_eq_true]; exact ⟨h1, h2⟩
theorem ch_free {s : Nat} (h : ¬ s ∈ CH) {z : List Nat} (hz : isLab 20 z = true) : s ∉ z := fun m => h ((isLab_iff.mp hz).2.2 s m)
theorem split_ok {s : Nat} (hs : s < 256) (hc : ¬ s ∈ CH) (hA : ∀ z ∈ A, isLab 20 z = true) (h0 : A ≠ []) (hl : (joinN [s] A).length ≤ 1000000) : splitD (.str (joinN [s] A)) (.str [s]) = some (A.map .str) := by
  show (if s < 256 ∧ (joinN [s] A).length ≤ 1000000 then some ((TL.spl [s] 0 [] (joinN [s] A)).map D.str) else none) = _
  rw [if_pos ⟨hs, hl⟩, joinN_eq, TL.spl_join h0 fun p m => ch_free hc (hA p m)]
end
end FN
/-! ### text.replace(a, b, 1): a token is out -/
namespace DL
open PySem PySem.Spec PyProof.Rows L2
end DL
/-! ### texts cut and glued, ports of any text, rows: shared lemmas -/
namespace FN
open DL PySem PySem.W
theorem spl_len {S : List Nat} : ∀ (z : List Nat) (k : Nat) (acc : List Nat), (TL.spl S k acc z).length ≤ z.length + 1
  | [], k, acc => by rw [TL.spl_nil]; simp
  | x :: r, 0, acc => by
    by_cases hp : TL.pre S (x :: r) = true
    · rw [TL.spl_hit hp]
      have := spl_len (S := S) r (S.length - 1) []
      simp only [List.length_cons]; omega
    · rw [TL.spl_miss (by simpa using hp)]
      have := spl_len (S := S) r 0 (acc ++ [x])
      simp only [List.length_cons]; omega
  | x :: r, k + 1, acc => by
    have := spl_len (S := S) r k acc
    simp only [List.length_cons]
    show (TL.spl S k acc r).length ≤ _
    omega
theorem sqp {α β γ : Type} {a : α} {k : α → R (Fl γ β)} : seqF (pure (Fl.nx a) : R (Fl α β)) k = k a := rfl
theorem noexM {α : Type} {a : α} : (Mo.noex (pure a : M α) : M α) = pure a := rfl
theorem isLab_up {n m : Nat} {z : List Nat} (h : isLab n z = true) (w : n ≤ m) : isLab m z = true := by
  obtain ⟨a, b, c⟩ := isLab_iff.mp h
  exact isLab_iff.mpr ⟨a, by omega, c⟩
def Rn (l n : Nat) (d : D) : Prop := ∃ A : List (List Nat), d = .tup (A.map .str) ∧ l ≤ A.length ∧ A.length ≤ n ∧ ∀ z ∈ A, isLab 20 z = true
theorem Rn.up {l n m : Nat} {d : D} (h : Rn l n d) (w : n ≤ m) : Rn l m d := by
  obtain ⟨A, a, b, c, e⟩ := h
  exact ⟨A, a, b, by omega, e⟩
end FN
/-! ### an __init__ that says super().__init__(..) and nothing else -/
namespace DL
open PySem PySem.Spec PyProof.Rows L2 NdefX ClX
end DL
/-! ### self.a, x, .. = e; objects of classes whose __init__ says super().__init__(..) -/
namespace DL
open PySem PySem.Spec PyProof.Rows L2
end DL
/-! ### list(zip(a, b)) of two tuples -/
namespace DL
open PySem PySem.Spec PyProof.Rows PySem.Calls L2 RZ
section
variable {prog : Program} {w : World} {A : Around} {E : Value → Shared → Prop} {s : Shared}
/-- a zip of two tuples, k of its pairs given out, all of them still held -/
structure ZpSt (h : Heap) (z TI TO i1 i2 l1 l2 S : Addr) (xs ys : Array Value) (k : Nat) : Prop where
  ti : IsPair h TI (.ref i1) (.ref i2)
  a1 : h.IsTupleIter i1 l1 k
  a2 : h.IsTupleIter i2 l2 k
  b1 : h.IsTuple l1 xs
  b2 : h.IsTuple l2 ys
  st : (IsZip h z TI TO .none ∧ IsPair h TO .none .none) ∨ ∃ T f oT, IsZipHeld h z TI TO T f ∧ h.get? T = some oT ∧ T ≠ z ∧ T ≠ i1 ∧ T ≠ i2 ∧ T ≠ S
structure ZpOff (z TI TO i1 i2 l1 l2 S : Addr) : Prop where
  z : z ≠ S
  TI : TI ≠ S
  TO : TO ≠ S
  i1 : i1 ≠ S
  i2 : i2 ≠ S
  l1 : l1 ≠ S
  l2 : l2 ≠ S
theorem ZpSt.keep {h h' : Heap} {z TI TO i1 i2 l1 l2 S : Addr} {xs ys : Array Value} {k : Nat} (o : ZpOff z TI TO i1 i2 l1 l2 S) (a : ZpSt h z TI TO i1 i2 l1 l2 S xs ys k) (hk : ∀ b o, b ≠ S → h.get? b = some o → h'.get? b = some o) : ZpSt h' z TI TO i1 i2 l1 l2 S xs ys k :=
  ⟨hk _ _ o.TI a.ti, a.a1.at fun u e => hk _ u o.i1 e, a.a2.at fun u e => hk _ u o.i2 e, a.b1.at fun u e => hk _ u o.l1 e, a.b2.at fun u e => hk _ u o.l2 e, by
    rcases a.st with ⟨h1, h2⟩ | ⟨T, f, oT, h1, h2, n1, n2, n3, n4⟩
    · exact .inl ⟨hk _ _ o.z h1, hk _ _ o.TO h2⟩
    · exact .inr ⟨T, f, oT, hk _ _ o.z h1, hk _ _ n4 h2, n1, n2, n3, n4⟩⟩
end
/-- the addresses as hold the pairs ps, in order, above lo -/
structure ZpG (ps : List (Value × Value)) (lo : Addr) (h : Heap) (as : List Addr) : Prop where
  rise : as.Pairwise (· < ·)
  above : ∀ a ∈ as, lo < a
  pairs : ∀ (j : Nat) (a : Addr), as[j]? = some a → ∃ p, ps[j]? = some p ∧ h.get? a = some { cls := .type "tuple", data := .seq #[p.1, p.2] }
theorem ZpG.there {ps : List (Value × Value)} {lo : Addr} {h : Heap} {as : List Addr} (g : ZpG ps lo h as) {a : Addr} (ha : a ∈ as) : a < h.objs.size := by
  obtain ⟨j, hj⟩ := List.mem_iff_getElem?.mp ha
  obtain ⟨_, _, e⟩ := g.pairs j a hj
  exact Heap.lt_size e
/-! the tracked heap -/
end DL
/-! ### text.count, text.find; a field set again; what is never reached -/
namespace DL
open PySem PySem.Spec PyProof.Rows L2
/-! calls of defs with keywords and defaults -/
/-! the facts of an __init__ that is super().__init__ -/
end DL
namespace DL
open PySem PySem.Spec PyProof.Rows L2
/-! an __init__ without defaults, called by names -/
/-! text.lstrip(signs) -/
end DL
/-! ### list.index of a list of texts -/
namespace DL
open PySem PySem.Spec PyProof.Rows L2
end DL
/-! ### patterns and rules: mirrors, texts, draws -/
namespace FN
open DL
def c_HOST : D := (.str [104, 111, 115, 116])
end FN
namespace FN
open DL PySem PySem.W
/-! ### texts of patterns -/
/-- an item of a pattern, not the gap -/
def isIt (z : List Nat) : Bool := decide (1 ≤ z.length) && decide (z.length ≤ 8) && decide (z.count 42 ≤ 1) && z.all fun c => decide (c = 42) || decide (c ∈ CH)
def gp : List Nat := [42, 42]
def enumK (I : List (List Nat)) (k : Nat) : List D := match I with
  | [] => []
  | z :: r => .tup [.int (k : Int), .str z] :: enumK r (k + 1)
theorem enumK_eq : ∀ (I : List (List Nat)) (k : Nat), (I.map D.str).mapIdx (fun i d => D.tup [.int ((i + k : Nat) : Int), d]) = enumK I k
  | [], _ => rfl
  | z :: r, k => by
    rw [List.map_cons, List.mapIdx_cons]
    show _ :: _ = _ :: enumK r (k + 1)
    rw [← enumK_eq r (k + 1)]
    simp only [Nat.zero_add]
    congr 1
    congr 1
    funext i d
    rw [show i + 1 + k = i + (k + 1) by omega]
theorem enumL_strs (I : List (List Nat)) : enumL (I.map D.str) = enumK I 0 := by
  rw [← enumK_eq]
  rfl
theorem cut_toD {z : List D} {n : Nat} : cutL z none (some (n : Int)) = z.take n := by rw [cut_hi (by omega)]; rfl
/-- items of a pattern: its head, its tail, whether a gap is between them -/
def PatI (l0 l1 mh mt : Nat) (I h t : List (List Nat)) (g : Bool) : Prop := (∀ z ∈ h ++ t, isIt z = true) ∧ ((g = false ∧ I = h ∧ t = [] ∧ l0 ≤ h.length ∧ h.length ≤ l1) ∨ (g = true ∧ I = h ++ gp :: t ∧ h.length ≤ mh ∧ t.length ≤ mt))
theorem pat_mem {l0 l1 mh mt : Nat} {I h t : List (List Nat)} {g : Bool} (p : PatI l0 l1 mh mt I h t g) : ∀ z ∈ I, z = gp ∨ isIt z = true := by
  obtain ⟨hz, ⟨rfl, rfl, rfl, h0, h1⟩ | ⟨rfl, rfl, h0, h1⟩⟩ := p
  · exact fun z m => .inr (hz z (by simpa using m))
  · intro z m
    rcases List.mem_append.mp m with m | m
    · exact .inr (hz z (List.mem_append_left _ m))
    · rcases List.mem_cons.mp m with m | m
      · exact .inl m
      · exact .inr (hz z (List.mem_append_right _ m))
theorem it_len {z : List Nat} (h : z = gp ∨ isIt z = true) : z.length ≤ 8 := by
  rcases h with rfl | h
  · decide
  · unfold isIt at h
    simp only [Bool.and_eq_true, decide_eq_true_eq] at h
    exact h.1.1.2
theorem join_len {s : Nat} : ∀ {I : List (List Nat)}, (∀ z ∈ I, z.length ≤ 8) → (joinN [s] I).length ≤ 9 * I.length
  | [], _ => Nat.zero_le _
  | [p], h => by
    show p.length ≤ 9 * 1
    have := h p (.head _)
    omega
  | p :: q :: r, h => by
    show (p ++ ([s] ++ joinN [s] (q :: r))).length ≤ _
    have ih := join_len (s := s) (I := q :: r) fun z m => h z (.tail _ m)
    have := h p (.head _)
    simp only [List.length_append, List.length_cons, List.length_nil] at ih ⊢
    omega
/-! ### rules of all pages: their ports -/
theorem in_strsT {k : Nat} {z : List Nat} {S : List (List Nat)} (h : Tx k z) (hz : ∀ w ∈ S, Tx 1000 w) : inP (.str z) (.tup (S.map .str)) = some (decide (z ∈ S)) := by
  have e : inP (.str z) (.tup (S.map .str)) = match toPy (.str z), toPy (.tup (S.map .str)) with
    | some x, some (.tuple ys) => if SeqAt.shaped x && SeqAt.shaped (.tuple ys) then some (ys.any fun z => PyData.eqv z x) else none
    | _, _ => none := by
    unfold inP
    split
    · rename_i q; cases q
    · rename_i q; cases q
    · rename_i ds _ q; cases q; rfl
    · rename_i q1 q2 q3; first | exact absurd rfl (q1 _) | exact absurd rfl (q2 _) | exact absurd rfl (q3 _)
  rw [e, toPy, toPy, toPyL_strs]
  simp only [Option.map_some, shaped_str h, (shaped_strs hz).2, Bool.and_self, if_true, any_strs]
def PNs : List Str := ["text", "level", "head", "tail", "gap"]
def ptF (x : List Nat) (lv : D) (h t : List (List Nat)) (g : Bool) : List D := [.str x, lv, .tup (h.map .str), .tup (t.map .str), .bl g]
/-- a rule's host part: its name, near, host -/
inductive NmK : List Nat → D → D → Prop
  | near {A : List (List Nat)} (h0 : A ≠ []) (hl : A.length ≤ 4) (hA : ∀ z ∈ A, isLab 20 z = true) : NmK (126 :: joinN [46] A) (.tup (A.map .str)) .non
  | host {I h t : List (List Nat)} {g : Bool} (p : PatI 1 4 3 2 I.reverse h t g) (h0 : I ≠ []) (hl : I.length ≤ 10) : NmK (joinN [46] I) .non (.ins "HostPattern" PNs (ptF (joinN [46] I) c_HOST h t g))
theorem nm_len {nm : List Nat} {n h : D} (k : NmK nm n h) : nm.length ≤ 1000 := by
  cases k with
  | near h0 hl hA =>
    have hr : okRow _ = true := row_of (by omega) hA
    have e : ∀ {A : List (List Nat)}, (∀ z ∈ A, z.length ≤ 20) → (joinN [46] A).length ≤ 21 * A.length := by
      intro A
      induction A with
      | nil => intro _; exact Nat.zero_le _
      | cons z r ih =>
        intro h
        cases r with
        | nil =>
          show z.length ≤ 21 * 1
          have := h z (.head _)
          omega
        | cons q r =>
          show (z ++ ([46] ++ joinN [46] (q :: r))).length ≤ _
          have := ih fun z m => h z (.tail _ m)
          have := h z (.head _)
          simp only [List.length_append, List.length_cons, List.length_nil] at *
          omega
    have := e fun z m => (lab_tx (hA z m)).1
    simp only [List.length_cons]
    have hl' := hl
    omega
  | host p h0 hl =>
    have := join_len (s := 46) fun z m => it_len (pat_mem p z (by simpa using m))
    omega
theorem ch36 : CH.length = 36 := rfl
def Lab8 (zs : List (List Nat)) : Prop := zs ≠ [] ∧ zs.length ≤ 10 ∧ ∀ z ∈ zs, isLab 20 z = true
theorem all2_P {P : List Nat → Prop} : ∀ {ds rs : List D}, All2 (fun _ r => ∃ z, r = D.str z ∧ P z) ds rs → ∃ A : List (List Nat), rs = A.map .str ∧ A.length = ds.length ∧ ∀ z ∈ A, P z
  | [], [], _ => ⟨[], rfl, rfl, by simp⟩
  | [], _ :: _, h => by cases h
  | _ :: _, [], h => by cases h
  | d :: ds, r :: rs, h => by
    cases h with
    | cons h1 h2 =>
      obtain ⟨z, rfl, hz⟩ := h1
      obtain ⟨A, rfl, hl, hA⟩ := all2_P h2
      exact ⟨z :: A, rfl, by simp [hl], fun x m => by
        rcases List.mem_cons.mp m with rfl | m
        · exact hz
        · exact hA x m⟩
/-- what is drawn of hosts -/
inductive HpD : D → List Nat → D → D → Prop
  | near {A : List (List Nat)} (h0 : A ≠ []) (hl : A.length ≤ 4) (hA : ∀ z ∈ A, isLab 20 z = true) : HpD (.tup [.str [126], .tup (A.map .str)]) (126 :: joinN [46] A) (.tup (A.map .str)) .non
  | host {I h t : List (List Nat)} {g : Bool} (p : PatI 1 4 3 2 I.reverse h t g) (h0 : I ≠ []) (hl : I.length ≤ 10) : HpD (.tup [.str [], .lst (I.map .str)]) (joinN [46] I) .non (.ins "HostPattern" PNs (ptF (joinN [46] I) c_HOST h t g))
theorem HpD.nm {d : D} {nm : List Nat} {n h : D} (k : HpD d nm n h) : NmK nm n h := by
  cases k with
  | near h0 hl hA => exact .near h0 hl hA
  | host p h0 hl => exact .host p h0 hl
theorem sum_le8 {I : List (List Nat)} {k : Nat} (h : ∀ z ∈ I, z.length ≤ k) (hl : I.length ≤ 1000) (hk : k ≤ 100) : (I.map (·.length)).sum + I.length * 1 ≤ 16777216 := by
  have := sum_le h
  have : I.length * k ≤ 1000 * 100 := Nat.mul_le_mul hl hk
  omega
theorem HpD.join {d : D} {nm : List Nat} {n h : D} (k : HpD d nm n h) : ∃ p x r j, d = .tup [.str p, x] ∧ listD [x] = some r ∧ szL r = some r ∧ joinD (.str [46]) (.lst r) = some (.str j) ∧ nm = p ++ j ∧ p.length ≤ 1 ∧ j.length ≤ 1000 := by
  have hn := nm_len k.nm
  cases k with
  | @near A h0 hl hA =>
    refine ⟨[126], .tup (A.map .str), A.map .str, joinN [46] A, rfl, rfl, sz_ok (by rw [List.length_map]; omega), join_ok (sum_le8 (k := 20) (fun z m => (isLab_iff.mp (hA z m)).2.1) (by omega) (by omega)), rfl, by simp, ?_⟩
    simp only [List.length_cons] at hn
    omega
  | @host I h t g p h0 hl =>
    exact ⟨[], .lst (I.map .str), I.map .str, joinN [46] I, rfl, rfl, sz_ok (by rw [List.length_map]; omega), join_ok (sum_le8 (k := 8) (fun z m => it_len (pat_mem p z (by simpa using m))) (by omega) (by omega)), rfl, by simp, hn⟩
end FN
/-! ### own list += list; methods called with keywords; isinstance of two types -/
namespace DL
open PySem PySem.Spec PyProof.Rows L2
section
variable {X : Cx} {fx : Fx} {m : Type → Type} [Mo m] {G : List Sl} {α β : Type} {ss : List Stmt} {ex : α → List Sl} {exb : β → List Sl}
/-- a block whose mirror has a name -/
theorem pss_k {k k' : m (Fl α β)} (e : k = k') (h : PSs X ss (tS X.K X.mg fx G ex exb k')) : PSs X ss (tS X.K X.mg fx G ex exb k) := by
  rw [e]
  exact h
end
end DL
/-! ### enumerate of a tuple -/
namespace DL
open PySem PySem.Spec PyProof.Rows L2
theorem en_new {v : Value} {ob : Obj} {Hq : Heap → Prop} (B : Begins v ob Hq) : Meets (Builtin.«enumerate.__new__» ⟨[.type "enumerate", v], []⟩)
    (fun _ R z => Hq z.heap ∧ R (.ok (.ret (.ref (z.heap.push ob).objs.size))) { z with heap := (z.heap.push ob).push { cls := .type "enumerate", data := .fields #[.none, .bool false, .ref z.heap.objs.size, rawInt 0, .none, .none] } }) := .of_wp fun prog w A R z hz => by
  obtain ⟨hp, g, d, tk, os⟩ := z
  obtain ⟨z1, z2⟩ := hz
  have sube := sub_enumerate
  have qi : ∀ {A' : Around} {E Q : Value → Shared → Prop}, Q (.ref hp.objs.size) ⟨hp.push ob, g, d, tk, os⟩ → wpAny (model prog w) A' (pyIter v) Q E ⟨hp, g, d, tk, os⟩ := fun q => B.iter prog w _ _ ⟨hp, g, d, tk, os⟩ _ z1 q
  wp_walk using qi
  refine wpAny_stack_any (fun _ => wpAny_pure ?_)
  split
  · rename_i cc _ _ _ _ _
    cases (cc == Value.type "enumerate") <;> (wp_walk using qi; exact ⟨_, rfl, z2⟩)
  · (wp_walk using qi; exact ⟨_, rfl, z2⟩)
theorem en_call {P : Program} {w : World} {A : Around} {E : Value → Shared → Prop} {s : Shared} {v : Value} {ob : Obj} {Hq : Heap → Prop} {Q : Value → Shared → Prop} (B : Begins v ob Hq) (h1 : Hq s.heap)
    (hc : ∀ hh, IsEnum hh (s.heap.objs.size + 1) s.heap.objs.size 0 .none → hh.get? s.heap.objs.size = some ob → (∀ b u, s.heap.get? b = some u → hh.get? b = some u) → Q (.ref (s.heap.objs.size + 1)) { s with heap := hh }) :
    wpAny (model P w) A (call (.type "enumerate") [v]) Q E s := by
  refine callType_new F.called_enumerate (by decide) (F.typeCall_enumerate_1 _) (F.newCall_enumerate_1 _) (fun ox => F.args_object_init_2 ox _) F.entry_enumerate_new (en_new B) ⟨h1, ?_⟩
  have sz : (s.heap.push ob).objs.size = s.heap.objs.size + 1 := Heap.size_push ..
  show _ ∧ _
  rw [sz]
  have hen : IsEnum ((s.heap.push ob).push { cls := .type "enumerate", data := .fields #[.none, .bool false, .ref s.heap.objs.size, rawInt 0, .none, .none] }) (s.heap.objs.size + 1) s.heap.objs.size 0 .none := by
    have q := Heap.get?_push_size (s.heap.push ob) (o := { cls := .type "enumerate", data := .fields #[.none, .bool false, .ref s.heap.objs.size, rawInt 0, .none, .none] }) rfl
    rw [sz] at q
    exact q
  exact ⟨⟨_, hen, rfl⟩, hc _ hen (Heap.get?_push_of_some _ (Heap.get?_push_size _ B.free)) fun b u z => Heap.get?_push_of_some _ (Heap.get?_push_of_some _ z)⟩
/-- the tuple at a, each item in a new pair -/
def IteT (K : PySem.W.Frag) (a : Addr) : It where
  go := fun i H => ∃ xs x, SqT K H a xs ∧ (xs : List V)[i]? = some x
  yld := fun i H v H' => ∃ q x, v = .ref q ∧ H q = none ∧ H' = upd H q (.tup [.int (i : Nat), x]) ∧ ∀ ys, SqT K H a ys → ys[i]? = some x
  stop := fun i H => ∃ xs, SqT K H a xs ∧ (xs : List V).length ≤ i
theorem turn_enT {P : Program} {w : World} {K : PySem.W.Frag} {elts : List Expr} {kk : Nat} {tpos : Pos} (a e it : Addr) :
    Turn P w K (.Tuple elts kk tpos) (IteT K a) [e, it] e (fun i h => (∃ old, IsEnum h e it ((i : Nat) : Int) old) ∧ h.IsTupleIter it a i ∧ e ≠ it ∧ e ≠ a ∧ a ≠ it) where
  mem := List.mem_cons_self ..
  obj := fun i h st b hb => by
    obtain ⟨⟨old, he⟩, ⟨o, ho, hc, hd⟩, _⟩ := st
    rcases (show b = e ∨ b = it by simpa using hb) with z | z
    · subst z; exact ⟨_, he, fun v q => nomatch q⟩
    · subst z; exact ⟨o, ho, fun v q => by rw [hd] at q; cases q⟩
  keep := fun i h h' st k => by
    obtain ⟨⟨old, he⟩, hi, n1⟩ := st
    exact ⟨⟨old, k e (by simp) _ he⟩, hi.at fun o q => k it (by simp) o q, n1⟩
  item := by
    intro X hP hw hK hc i pins s σ H E I hf st hg
    subst hP hw hK
    obtain ⟨⟨old, he⟩, hit, ne1, ne2, ne3⟩ := st
    obtain ⟨xs, x, hq, hx⟩ := hg
    obtain ⟨us, rv, p, hz⟩ := I.tuple hq
    obtain ⟨u, hu, ru⟩ := rv.get hx
    have pt : s.heap.IsTuple a us.toArray := p
    have le : e < s.heap.objs.size := Heap.lt_size he
    have lt : it < s.heap.objs.size := by obtain ⟨_, q, _⟩ := hit; exact Heap.lt_size q
    have D := Draws.tuple (prog := X.prog) (w := X.w) (A := X.A.in1) (I.ok.hd hc) it a ne3 us.toArray
    have hlt : i < us.toArray.size := by
      have := (List.getElem?_eq_some_iff.mp hu).1
      simpa using this
    refine wpAny_pyNext_enum_itemD D he ⟨hit, pt⟩ hlt ne1 (by simp [ne1, ne2]) fun y hh tk hy ho hst hT hsz hk => ?_
    have ey : y = u := by
      have q : us.toArray[i]? = some y := hy
      rw [show us.toArray[i]? = us[i]? by simp, hu] at q
      exact (Option.some.inj q).symm
    subst ey
    refine ⟨_, rfl, wpAny_letOwnedTupleGo_enum (s := { s with heap := hh, toks := tk + 1 }) ho fun h2 he2 sb => ?_⟩
    have keep : ∀ b o, b ≠ e → b ≠ it → s.heap.get? b = some o → h2.get? b = some o := fun b o z1 z2 q => (sb.2 b z1).trans (hk b o z1 z2 q)
    have hT2 : h2.get? s.heap.objs.size = some { cls := .type "tuple", data := .seq #[.int i tk, y] } := (sb.2 _ (Nat.ne_of_gt le)).trans hT
    have ok : ObjOk X.prog X.w (upd H s.heap.objs.size (.tup [.int (i : Nat), x])) h2 s.heap.objs.size (.tup [.int (i : Nat), x]) := ⟨(by show 2 ≤ sizeLine; decide), [.int i tk, y], .cons ⟨_, rfl⟩ (.cons ru .nil), ⟨_, hT2, rfl, _, rfl⟩⟩
    have I1 : L2.Inv X pins σ (upd H s.heap.objs.size (.tup [.int (i : Nat), x])) { s with heap := h2, toks := tk + 1 } := I.turnedNew (ch := [e, it]) (fun b o hb q => keep b o (fun z => hb (by simp [z])) (fun z => hb (by simp [z])) q) hf (Nat.le_refl _) ok
    refine ⟨.ref s.heap.objs.size, _, I1, rfl, ⟨_, x, rfl, I.hok.fresh (Nat.le_refl _), rfl, fun ys hy => (I.tuple_inj hy hq).symm ▸ hx⟩, ⟨⟨y, ?_⟩, hst.1.at fun o q => (sb.2 it (Ne.symm ne1)).trans q, ne1, ne2, ne3⟩, fun b hb => ?_⟩
    · rw [show (((i + 1 : Nat)) : Int) = (i : Int) + 1 by omega]
      exact he2
    · have lb : b < s.heap.objs.size := by
        rcases (show b = e ∨ b = it by simpa using hb) with z | z
        · exact z ▸ le
        · exact z ▸ lt
      rw [upd_ne (Nat.ne_of_lt lb)]
      exact (hf b hb).1
  done := by
    intro X hP hw hK hc i pins s σ H E I hf st hg
    subst hP hw hK
    obtain ⟨⟨old, he⟩, hit, ne1, ne2, ne3⟩ := st
    obtain ⟨xs, hq, hx⟩ := hg
    obtain ⟨us, rv, p, hz⟩ := I.tuple hq
    have pt : s.heap.IsTuple a us.toArray := p
    have ll := rv.length
    obtain ⟨f0, f1, f2, f3, f4, f5⟩ := hf it (by simp)
    -- the tuple's iterator at its end, wherever its place is
    have D : Draws X.prog X.w X.A.in1 it [it, a] i (fun _ _ => True) (fun j h => j = i ∧ h.IsTupleIter it a j ∧ h.IsTuple a us.toArray) :=
      { live := fun _ _ q => let ⟨o, ho, _⟩ := q.2.1; ⟨o, ho⟩
        frame := fun _ _ _ q hk => ⟨q.1, q.2.1.at fun o z => hk it (by simp) o z, q.2.2.at fun o z => hk a (by simp) o z⟩
        item := fun j z Q E hj q hQ => absurd q.1 (Nat.ne_of_lt hj)
        done := fun z Q E q hE => wpAny_nextOf_tuple_end (I.ok.hd hc) q.2.1 q.2.2 (by simp; omega) hE }
    exact wpAny_pyNext_enum_endD D he ⟨rfl, hit, pt⟩ fun hh eb => ⟨rfl, I.turned (t' := s.toks) (fun b o hb q => eb b o hb q) f0 f1 f3 f4 f5⟩
  self := fun A i s Q E st h => by
    obtain ⟨⟨_, he⟩, _⟩ := st
    exact wpAny_pyIter_enum he h
theorem pi_enT {X : Cx} {e : Expr} {ta : TA} {p pos tpos : Pos} {elts : List Expr} {kk : Nat} (hg : Gl X "enumerate") (hm : X.mg "enumerate" = none) (ha : PA X [e] ta) (hs : starEach [e] X.env = [(false, eval e X.env)] := by rfl) :
    PI X (.Tuple elts kk tpos) (.Call (.Name "enumerate" p) [e] [] pos) (fun σ H R => ta σ H fun vs H1 => ∃ a xs, vs = [.ref a] ∧ SqT X.K H1 a xs ∧ R (IteT X.K a) H1) := by
  constructor
  intro pins s σ H R I h
  refine Call_ (ld_blt I hg hm boot_enumerate (PyProof.Rows.callWith_type1 (thn (ha.run pos pins s σ H _ I h) fun us s1 ⟨vs, H1, I1, r1, a, xs, ev, hq, q⟩ => ?_) hs rfl))
  subst ev
  obtain ⟨u, ur, eu, ru⟩ : ∃ u ur, us = u :: ur ∧ RelV (.ref a) u ∧ ur = [] := by
    cases r1 with
    | cons r rr => cases rr; exact ⟨_, _, rfl, r, rfl⟩
  obtain ⟨ru, eur⟩ := ru
  subst eu eur
  cases (show u = Value.ref a from ru)
  obtain ⟨its, rv, pt, hz⟩ := I1.tuple hq
  have pt' : s1.heap.IsTuple a its.toArray := pt
  have la : a < s1.heap.objs.size := by obtain ⟨_, z, _⟩ := pt'; exact Heap.lt_size z
  refine en_call (begins_tuple a its.toArray) pt' fun hh he hit hk => wpAny_pyIter_enum he ?_
  have I2 : L2.Inv X pins σ H1 { s1 with heap := hh } := I1.kept (t' := s1.toks) hk
  refine ⟨s1.heap.objs.size + 1, [s1.heap.objs.size + 1, s1.heap.objs.size], _, _, H1, rfl, I2, turn_enT a (s1.heap.objs.size + 1) s1.heap.objs.size, ⟨⟨.none, he⟩, ⟨_, hit, rfl, rfl⟩, Nat.succ_ne_self _, Nat.ne_of_gt (Nat.lt_succ_of_lt la), Nat.ne_of_lt la⟩, fun b hb => ?_, q⟩
  have hle : s1.heap.objs.size ≤ b := by
    rcases (show b = s1.heap.objs.size + 1 ∨ b = s1.heap.objs.size by simpa using hb) with z | z
    · exact z ▸ Nat.le_add_right _ _
    · exact z ▸ Nat.le_refl _
  exact I1.fpOk hle (I1.hok.fresh hle)
def enumT : List D → Option (List D)
  | [.tup ds] => some (enumL ds)
  | _ => none
section
variable {K : PySem.W.Frag} {mg : Str → Option Value}
theorem yl_enT {Hf : Hp} {ds : List D} {a : Addr} {vs : List V} (hz : ds.length ≤ sizeLine) (h : SqT K Hf a vs) (l : IsL K mg Hf ds vs) : Yl K mg (IteT K a) Hf (enumL ds) := by
  refine ⟨by simpa [enumL] using hz, fun Hf2 H s1 s2 i => ⟨fun d hd => ?_, fun hl => ⟨vs, s2.sqt (s1.sqt h), by rw [← l.len]; simpa [enumL] using hl⟩⟩⟩
  have hi : i < ds.length := by
    have q := (List.getElem?_eq_some_iff.mp hd).1
    simpa [enumL] using q
  have ed : d = .tup [.int (i : Int), ds[i]] := by
    rw [enumL, List.getElem?_mapIdx, List.getElem?_eq_getElem hi] at hd
    exact (Option.some.inj hd).symm
  obtain ⟨v, hv, iv⟩ := l.get (List.getElem?_eq_getElem hi)
  refine ⟨⟨vs, v, s2.sqt (s1.sqt h), hv⟩, fun x H' ⟨q, y, e1, hq, e2, f⟩ => ?_⟩
  have ey := f vs (s2.sqt (s1.sqt h))
  rw [hv] at ey
  cases ey
  subst e1 e2 ed
  exact ⟨upd Hf2 q (.tup [.int (i : Nat), v]), .new s2 hq, (by show 2 ≤ sizeLine; decide), q, _, rfl, .inl (.inl upd_same), .cons (is_int _) (.cons ((iv.mono s1).mono (Ste.new (bag := []) s2 hq).sub) .nil)⟩
end
section
variable {X : Cx} {fx : Fx} {m : Type → Type} [Mo m] {G : List Sl} {a : Expr} {ys : m (List D)} {p pos tpos : Pos} {elts : List Expr} {k : Nat}
theorem di_enumT (hg : Gl X "enumerate") (hm : X.mg "enumerate" = none) (ha : PA X [a] (tA X.K X.mg fx G ys)) (hs : starEach [a] X.env = [(false, eval a X.env)] := by rfl) :
    PI X (.Tuple elts k tpos) (.Call (.Name "enumerate" p) [a] [] pos) (tI X.K X.mg fx G (do let ds ← ys; ask (enumT ds))) := piI (pi_enT hg hm ha hs) fun σ H Q ⟨Hf, s, h⟩ => (h.bind.mono fun v H1 ⟨d, Hf1, s1, sb, r, h1⟩ => by
  obtain ⟨ds, e, q⟩ := h1.ask
  unfold enumT at e
  split at e
  · rename_i es
    obtain ⟨v1, r1, rfl, ⟨hz, a', vs, rfl, t, il⟩, rfl⟩ := r
    exact ⟨a', vs, rfl, h1.1.top.sqt t, q _ Hf1 H1 (.refl h1.1.top) (Option.some.inj e ▸ yl_enT hz t il)⟩
  · cases e).to
end
end DL
/-! ### rules and rows: mirrors, what fits (k40, k42, k43) -/
namespace FN
open DL PySem PySem.W
/-! ### labels and rows that patterns match -/
theorem beq_eq (a b : List Nat) : (a == b) = decide (a = b) := by
  rw [Bool.eq_iff_iff]
  simp
theorem starts_eq (a b : List Nat) : PySem.Txt.startswith ⟨a.toArray⟩ ⟨b.toArray⟩ = (decide (b.length ≤ a.length) && decide (a.take b.length = b)) := by
  unfold PySem.Txt.startswith
  rw [StrLaws.subAt_eq]
  simp [Str.length]
  rw [beq_eq]
theorem notin_L {k : Nat} {z : List Nat} {S : List (List Nat)} (h : Tx k z) (hz : ∀ w ∈ S, Tx 1000 w) : (notInD (.str z) (.lst (S.map .str))).bind bOf = some (!decide (z ∈ S)) := by
  have e := in_strs h hz
  unfold inD at e
  unfold notInD
  cases q : inP (.str z) (.lst (S.map .str)) with
  | none => rw [q] at e; cases e
  | some b =>
    rw [q] at e
    cases e
    rfl
theorem strs_map : ∀ A : List (List Nat), strsOf (A.map D.str) = some A
  | [] => rfl
  | z :: r => by
    show (strsOf (r.map D.str)).map (z :: ·) = _
    rw [strs_map r]
    rfl
/-! ### hosts, backwards -/
theorem chain_ii {a b c : Int} : (chainM leD leD (pure (.int a)) (pure (.int b)) (pure (.int c)) : R D) = .ok (.bl (decide (a ≤ b) && decide (b ≤ c))) := by
  unfold chainM
  simp only [le_l, askR, pure_bind]
  cases h : decide (a ≤ b)
  · rfl
  · rfl
def Labs (R : List (List Nat)) : Prop := ∀ z ∈ R, isLab 20 z = true
end FN
/-! ### tables and groups: mirrors (k40, k42) -/
namespace FN
open DL PySem PySem.W
def c_EXCEPTION : D := (.str [101, 120, 99, 101, 112, 116, 105, 111, 110])
def c_MOST_LABELS_OF_ROW : D := (.int (3))
def c_MOST_ROWS : D := (.int (8))
def c_PLAIN : D := (.str [112, 108, 97, 105, 110])
def c_WILD : D := (.str [111, 112, 101, 110])
def b_parsed_row_b892 (a0 : D) : R (Fl Unit Empty) := (do let t76 ← (DL.notM (do let x2 ← (do let x1 ← (pure a0); DL.ask (isiD "str" x1)); DL.ask (truD x2))); seqF (if t76 = true then (do let v4 ← (pure .non); pure (.rt v4)) else (pure (.nx ()))) fun (q3 : Unit) => (do let v5 ← (do let r15 ← (do let x13 ← (pure c_PLAIN); let r14 ← (do let x11 ← (pure a0); let r12 ← (do let x9 ← (pure (.int 1)); let r10 ← (do let x7 ← (pure c_MOST_LABELS_OF_ROW); let r8 ← pure []; pure (x7 :: r8)); pure (x9 :: r10)); pure (x11 :: r12)); pure (x13 :: r14)); let r16 ← DL.ask (szL r15); pure (.tup r16)); let c6 ← DL.ask ((unN 4) v5); (do let t75 ← (do let x19 ← (do let x17 ← (pure a0); let _ ← DL.ask (strOf x17); let y18 ← (pure (.str [33])); DL.ask (strM (fun a b => .bl (PySem.Txt.startswith ⟨a.toArray⟩ ⟨b.toArray⟩)) x17 y18)); DL.ask (truD x19)); seqF (if t75 = true then (do let v27 ← (pure c_EXCEPTION); let v28 ← (do let x24 ← (pure a0); let l25 ← (do let x22 ← (pure (.int 1)); let i23 ← DL.ask (intOf x22); pure (some i23)); let u26 ← (pure none); DL.ask (sliceD x24 l25 u26)); let v29 ← (pure (.int 2)); (pure (.nx (v27, v28, v29, (c6.getD 3 .non))))) else (do let t45 ← (do let x32 ← (do let x30 ← (pure a0); let _ ← DL.ask (strOf x30); let y31 ← (pure (.str [42, 46])); DL.ask (strM (fun a b => .bl (PySem.Txt.startswith ⟨a.toArray⟩ ⟨b.toArray⟩)) x30 y31)); DL.ask (truD x32)); seqF (if t45 = true then (do let v42 ← (pure c_WILD); let v43 ← (do let x37 ← (pure a0); let l38 ← (do let x35 ← (pure (.int 2)); let i36 ← DL.ask (intOf x35); pure (some i36)); let u39 ← (pure none); DL.ask (sliceD x37 l38 u39)); let v44 ← (do let x40 ← (pure c_MOST_LABELS_OF_ROW); let y41 ← (pure (.int 1)); DL.ask (subD x40 y41)); (pure (.nx (v42, v43, v44)))) else (pure (.nx ((c6.getD 0 .non), (c6.getD 1 .non), (c6.getD 3 .non))))) fun (q33 : D × D × D) => (pure (.nx (q33.1, q33.2.1, (c6.getD 2 .non), q33.2.2))))) fun (q20 : D × D × D × D) => (do let v46 ← (do let r51 ← (do let x49 ← (mkL (do let x47 ← (pure q20.2.1); let _ ← DL.ask (strOf x47); let y48 ← (pure (.str [46])); DL.ask (splitD x47 y48))); let r50 ← pure []; pure (x49 :: r50)); DL.ask (tupleD r51)); (do let t74 ← (DL.orM (DL.notM (do let x55 ← (chainM leD leD (pure q20.2.2.1) (do let r54 ← (do let x52 ← (pure v46); let r53 ← pure []; pure (x52 :: r53)); DL.ask (lenD r54)) (pure q20.2.2.2)); DL.ask (bOf x55))) (do let x64 ← (mkL (do let r63 ← (do let r56 ← (pure v46); DL.ask (itD r56)); lcF (fun d => some d) (fun (c58 : D) => (DL.notM (do let x62 ← (do let r61 ← (do let x59 ← (pure c58); let r60 ← pure []; pure (x59 :: r60)); Mo.lift (m_is_label_344b r61)); DL.ask (truD x62)))) (fun (c58 : D) => (pure c58)) r63)); DL.ask (truD x64))); seqF (if t74 = true then (do let v66 ← (pure .non); pure (.rt v66)) else (pure (.nx ()))) fun (q65 : Unit) => (do let v73 ← (do let r71 ← (do let x69 ← (pure q20.1); let r70 ← (do let x67 ← (pure v46); let r68 ← pure []; pure (x67 :: r68)); pure (x69 :: r70)); let r72 ← DL.ask (szL r71); pure (.tup r72)); pure (.rt v73)))))))
theorem e_parsed_row_b892 (a0 : D) : b_parsed_row_b892 a0 = (do let t76 ← (DL.notM (do let x2 ← (DL.ask (isiD "str" a0)); DL.ask (truD x2))); seqF (if t76 = true then (pure (.rt .non)) else (pure (.nx ()))) fun (q3 : Unit) => (do let r16 ← DL.ask (szL [c_PLAIN, a0, (.int 1), c_MOST_LABELS_OF_ROW]); let c6 ← DL.ask ((unN 4) (.tup r16)); let _ ← DL.ask (strOf a0); let x19 ← (DL.ask (strM (fun a b => .bl (PySem.Txt.startswith ⟨a.toArray⟩ ⟨b.toArray⟩)) a0 (.str [33]))); let t75 ← (DL.ask (truD x19)); seqF (if t75 = true then (do let i23 ← DL.ask (intOf (.int 1)); let v28 ← (DL.ask (sliceD a0 (some i23) none)); (pure (.nx (c_EXCEPTION, v28, (.int 2), (c6.getD 3 .non))))) else (do let _ ← DL.ask (strOf a0); let x32 ← (DL.ask (strM (fun a b => .bl (PySem.Txt.startswith ⟨a.toArray⟩ ⟨b.toArray⟩)) a0 (.str [42, 46]))); let t45 ← (DL.ask (truD x32)); seqF (if t45 = true then (do let i36 ← DL.ask (intOf (.int 2)); let v43 ← (DL.ask (sliceD a0 (some i36) none)); let v44 ← (DL.ask (subD c_MOST_LABELS_OF_ROW (.int 1))); (pure (.nx (c_WILD, v43, v44)))) else (pure (.nx ((c6.getD 0 .non), (c6.getD 1 .non), (c6.getD 3 .non))))) fun (q33 : D × D × D) => (pure (.nx (q33.1, q33.2.1, (c6.getD 2 .non), q33.2.2))))) fun (q20 : D × D × D × D) => (do let _ ← DL.ask (strOf q20.2.1); let x49 ← (DL.ask (splitD q20.2.1 (.str [46]))); let v46 ← (DL.ask (tupleD [(.lst x49)])); let t74 ← (DL.orM (DL.notM (do let x55 ← (chainM leD leD (pure q20.2.2.1) (DL.ask (lenD [v46])) (pure q20.2.2.2)); DL.ask (bOf x55))) (do let r63 ← (DL.ask (itD v46)); let x64 ← (lcF (fun d => some d) (fun (c58 : D) => (DL.notM (do let x62 ← (Mo.lift (m_is_label_344b [c58])); DL.ask (truD x62)))) (fun (c58 : D) => (pure c58)) r63); DL.ask (truD (.lst x64)))); seqF (if t74 = true then (pure (.rt .non)) else (pure (.nx ()))) fun (q65 : Unit) => (do let r72 ← DL.ask (szL [q20.1, v46]); pure (.rt (.tup r72)))))) := by
  unfold b_parsed_row_b892; simp only [pure_bind, bind_assoc, mkL]
def m_parsed_row_b892 : List D → R D := apR1 fun a0 => (runR false (b_parsed_row_b892 a0))
theorem n_parsed_row_b892 : ∀ ds : List D, m_parsed_row_b892 ds ≠ .stuck → ds.length = 1 := apR1_len _
end FN
/-! ### tables: what the site of a host is -/
namespace FN
open DL PySem PySem.W
theorem lenT {A : List (List Nat)} : lenD [.tup (A.map D.str)] = some (.int (A.length : Int)) := by
  show some (D.int ((A.map D.str).length : Int)) = _
  rw [List.length_map]
theorem gt_l {i j : Int} : gtD (.int i) (.int j) = some (.bl (decide (j < i))) := rfl
/-! rows -/
inductive Kd | pl | wi | ex
abbrev Row := Kd × List (List Nat)
def kdD : Kd → D
  | .pl => c_PLAIN
  | .wi => c_WILD
  | .ex => c_EXCEPTION
def rowT : Row → List Nat
  | (.pl, A) => joinN [46] A
  | (.wi, A) => 42 :: 46 :: joinN [46] A
  | (.ex, A) => 33 :: joinN [46] A
def RowOk (r : Row) : Prop := Labs r.2 ∧ 1 ≤ r.2.length ∧ r.2.length ≤ 3 ∧ (r.1 = .wi → r.2.length ≤ 2) ∧ (r.1 = .ex → 2 ≤ r.2.length)
def rowD (r : Row) : D := .tup [kdD r.1, .tup (r.2.map .str)]
theorem labs_join {A : List (List Nat)} (h : Labs A) (hl : A.length ≤ 30) : (joinN [46] A).length ≤ 1000 := by
  have : ∀ {I : List (List Nat)}, (∀ z ∈ I, z.length ≤ 20) → (joinN [46] I).length ≤ 21 * I.length := by
    intro I
    induction I with
    | nil => intro _; simp [joinN]
    | cons a I ih =>
      intro hz
      have h1 := hz a (.head _)
      have h2 := ih fun z m => hz z (.tail _ m)
      cases I with
      | nil => simp only [joinN, List.length_cons, List.length_nil]; omega
      | cons b I =>
        simp only [joinN, List.length_append, List.length_cons, List.length_nil] at h2 ⊢
        omega
  have := this fun z m => (isLab_iff.mp (h z m)).2.1
  omega
theorem split_labs {A : List (List Nat)} (h : Labs A) (h0 : 1 ≤ A.length) (hl : A.length ≤ 30) : splitD (.str (joinN [46] A)) (.str [46]) = some (A.map .str) :=
  split_ok (by omega) (by decide) h (fun e => by rw [e] at h0; simp at h0) (by have := labs_join h hl; omega)
theorem no_bad {A : List (List Nat)} (h : Labs A) : (lcF (fun d => some d) (fun (c58 : D) => (DL.notM (do let x62 ← (Mo.lift (m_is_label_344b [c58])); DL.ask (truD x62)))) (fun (c58 : D) => (pure c58)) (A.map .str) : R (List D)) = .ok [] := by
  have := lcR (u := fun d => some d) (xt := fun (c58 : D) => (DL.notM (do let x62 ← (Mo.lift (m_is_label_344b [c58])); DL.ask (truD x62)) : R Bool)) (xe := fun (c58 : D) => (pure c58)) id (fun _ => false) id (A.map .str) (fun d _ => rfl) (fun d m => by
    obtain ⟨z, hz, rfl⟩ := List.mem_map.mp m
    have e : m_is_label_344b [.str z] = .ok (.bl (labD (.str z))) := is_label_ok (T := "str") rfl
    show (DL.notM (do let x62 ← (Mo.lift (m_is_label_344b [.str z])); DL.ask (truD x62)) : R Bool) = _
    rw [lift_pR, e, labD_str, h z hz]
    rfl) (fun d _ q => by cases q)
  exact this.trans (by rw [List.filter_eq_nil_iff.mpr (by simp)]; rfl)
theorem head_lab {A : List (List Nat)} (h : Labs A) (h0 : 1 ≤ A.length) : ∃ c r, joinN [46] A = c :: r ∧ c ∈ CH := by
  cases A with
  | nil => simp at h0
  | cons a A =>
    obtain ⟨h1, _, h3⟩ := isLab_iff.mp (h a (.head _))
    cases a with
    | nil => simp at h1
    | cons c a =>
      cases A with
      | nil => exact ⟨c, a, rfl, h3 c (.head _)⟩
      | cons b A => exact ⟨c, a ++ [46] ++ joinN [46] (b :: A), by simp [joinN], h3 c (.head _)⟩
theorem parsed_ok {r : Row} (h : RowOk r) : m_parsed_row_b892 [.str (rowT r)] = .ok (rowD r) := by
  obtain ⟨k, A⟩ := r
  obtain ⟨hA, h1, h2, h3, h4⟩ := h
  dsimp only at hA h1 h2 h3 h4
  have sp := split_labs hA h1 (by omega)
  have sz4 : ∀ a b c d : D, szL [a, b, c, d] = some [a, b, c, d] := fun _ _ _ _ => sz_ok (by simp)
  have u4 : ∀ a b c d : D, unN 4 (.tup [a, b, c, d]) = some [a, b, c, d] := fun _ _ _ _ => rfl
  have isS : ∀ z, isiD "str" (.str z) = some (.bl true) := fun _ => rfl
  have nb := no_bad hA
  simp only [DL.notM] at nb
  obtain ⟨c, r, ej, hc⟩ := head_lab hA h1
  have c33 : c ≠ 33 := fun e => by rw [e] at hc; revert hc; decide
  have c42 : c ≠ 42 := fun e => by rw [e] at hc; revert hc; decide
  have stm : ∀ (a b : List Nat), strM (fun a b => .bl (PySem.Txt.startswith ⟨a.toArray⟩ ⟨b.toArray⟩)) (.str a) (.str b) = some (.bl (decide (b.length ≤ a.length) && decide (a.take b.length = b))) := fun a b => by rw [← starts_eq]; rfl
  have il : itD (.tup (A.map D.str)) = some (A.map .str) := rfl
  have el : truD (.lst []) = some false := rfl
  unfold m_parsed_row_b892 apR1
  simp only [e_parsed_row_b892, isS, askR, pure_bind, tru_bl, DL.notM, Bool.not_true, Bool.false_eq_true, if_false, sqp, sz4, u4, str_of, stm]
  cases k with
  | pl =>
    have s1 : (decide (([33] : List Nat).length ≤ (rowT (.pl, A)).length) && decide ((rowT (.pl, A)).take ([33] : List Nat).length = [33])) = false := by
      show (_ && decide ((joinN [46] A).take 1 = [33])) = false
      rw [ej]
      simp [c33]
    have s2 : (decide (([42, 46] : List Nat).length ≤ (rowT (.pl, A)).length) && decide ((rowT (.pl, A)).take ([42, 46] : List Nat).length = [42, 46])) = false := by
      show (_ && decide ((joinN [46] A).take 2 = [42, 46])) = false
      rw [ej]
      simp [c42]
    have g0 : List.getD [c_PLAIN, D.str (rowT (.pl, A)), .int 1, c_MOST_LABELS_OF_ROW] 0 D.non = c_PLAIN := rfl
    have g1 : List.getD [c_PLAIN, D.str (rowT (.pl, A)), .int 1, c_MOST_LABELS_OF_ROW] 1 D.non = D.str (joinN [46] A) := rfl
    have g2 : List.getD [c_PLAIN, D.str (rowT (.pl, A)), .int 1, c_MOST_LABELS_OF_ROW] 2 D.non = .int 1 := rfl
    have g3 : List.getD [c_PLAIN, D.str (rowT (.pl, A)), .int 1, c_MOST_LABELS_OF_ROW] 3 D.non = .int 3 := rfl
    have ch : (chainM leD leD (pure (.int 1)) (pure (.int (A.length : Int))) (pure (.int 3)) : R D) = .ok (.bl true) := by
      rw [chain_ii, decide_eq_true (by omega), decide_eq_true (by omega)]; rfl
    simp only [s1, s2, g0, g1, g2, g3, tru_bl, askR, pure_bind, Bool.false_eq_true, if_false, sqp, str_of, sp, tup_lst, lenT, ch, okpR, bOf_bl, DL.orM, Bool.not_true, il, nb, el, sz2]
    rfl
  | wi =>
    have s1 : (decide (([33] : List Nat).length ≤ (rowT (.wi, A)).length) && decide ((rowT (.wi, A)).take ([33] : List Nat).length = [33])) = false := by
      show (_ && decide ((42 :: 46 :: joinN [46] A).take 1 = [33])) = false
      simp
    have s2 : (decide (([42, 46] : List Nat).length ≤ (rowT (.wi, A)).length) && decide ((rowT (.wi, A)).take ([42, 46] : List Nat).length = [42, 46])) = true := by
      show (decide (2 ≤ (42 :: 46 :: joinN [46] A).length) && decide ((42 :: 46 :: joinN [46] A).take 2 = [42, 46])) = true
      simp
    have g2 : List.getD [c_PLAIN, D.str (rowT (.wi, A)), .int 1, c_MOST_LABELS_OF_ROW] 2 D.non = .int 1 := rfl
    have cu : cutL (rowT (.wi, A)) (some 2) none = joinN [46] A := by
      rw [cut_lo (by omega)]; rfl
    have sb : subD c_MOST_LABELS_OF_ROW (.int 1) = some (.int 2) := rfl
    have hh := h3 rfl
    have ch : (chainM leD leD (pure (.int 1)) (pure (.int (A.length : Int))) (pure (.int 2)) : R D) = .ok (.bl true) := by
      rw [chain_ii, decide_eq_true (by omega), decide_eq_true (by omega)]; rfl
    simp only [s1, s2, g2, int_of, slice_s, cu, sb, tru_bl, askR, pure_bind, Bool.false_eq_true, if_false, if_true, sqp, str_of, sp, tup_lst, lenT, ch, okpR, bOf_bl, DL.orM, Bool.not_true, il, nb, el, sz2]
    rfl
  | ex =>
    have s1 : (decide (([33] : List Nat).length ≤ (rowT (.ex, A)).length) && decide ((rowT (.ex, A)).take ([33] : List Nat).length = [33])) = true := by
      show (decide (1 ≤ (33 :: joinN [46] A).length) && decide ((33 :: joinN [46] A).take 1 = [33])) = true
      simp
    have g3 : List.getD [c_PLAIN, D.str (rowT (.ex, A)), .int 1, c_MOST_LABELS_OF_ROW] 3 D.non = .int 3 := rfl
    have cu : cutL (rowT (.ex, A)) (some 1) none = joinN [46] A := by
      rw [cut_lo (by omega)]; rfl
    have hh := h4 rfl
    have ch : (chainM leD leD (pure (.int 2)) (pure (.int (A.length : Int))) (pure (.int 3)) : R D) = .ok (.bl true) := by
      rw [chain_ii, decide_eq_true (by omega), decide_eq_true (by omega)]; rfl
    simp only [s1, g3, int_of, slice_s, cu, tru_bl, askR, pure_bind, Bool.false_eq_true, if_false, if_true, sqp, str_of, sp, tup_lst, lenT, ch, okpR, bOf_bl, DL.orM, Bool.not_true, il, nb, el, sz2]
    rfl
/-! the size of an ending -/
end FN
/-! ### groups: where a host is moved; tables and groups made -/
namespace FN
open DL PySem PySem.W
abbrev Hst := List (List Nat)
def hD (h : Hst) : D := .tup (h.map .str)
/-! tables made -/
theorem for_unit {γ β : Type} {u : D → Option γ} {xb : Unit → γ → R (Fl Unit Unit)} : ∀ (ds : List D), (∀ d ∈ ds, ∃ c, u d = some c ∧ xb () c = .ok (.nx ())) → (forF u xb ds () : R (Fl Unit β)) = .ok (.nx ())
  | [], _ => rfl
  | d :: ds, h => by
    obtain ⟨c, hu, hx⟩ := h d (.head _)
    have ih := for_unit (β := β) ds fun x m => h x (.tail _ m)
    rw [forF, hu]
    show ((xb () c) >>= _) = _
    rw [hx]
    exact ih
theorem enumK_get : ∀ {I : List (List Nat)} {k : Nat} {d : D}, d ∈ enumK I k → ∃ (i : Nat) (z : List Nat), I[i]? = some z ∧ d = .tup [.int ((k + i : Nat) : Int), .str z]
  | [], _, d, h => by cases h
  | a :: I, k, d, h => by
    rcases List.mem_cons.mp (show d ∈ D.tup [.int (k : Int), .str a] :: enumK I (k + 1) from h) with rfl | h
    · exact ⟨0, a, rfl, rfl⟩
    · obtain ⟨i, z, e, rfl⟩ := enumK_get h
      exact ⟨i + 1, z, e, by rw [show k + 1 + i = k + (i + 1) by omega]⟩
theorem row_tx {r : Row} (h : RowOk r) : Tx 1000 (rowT r) := by
  obtain ⟨k, A⟩ := r
  obtain ⟨hA, h1, h2, _, _⟩ := h
  dsimp only at hA h1 h2
  have jl : (joinN [46] A).length ≤ 100 := by
    have := (join_row2 (S := [46]) (row_of (by omega) hA) (by simp)).2
    have h3 : ∀ {I : List (List Nat)}, (∀ z ∈ I, z.length ≤ 20) → (joinN [46] I).length ≤ 21 * I.length := by
      intro I
      induction I with
      | nil => intro _; simp [joinN]
      | cons a I ih =>
        intro hz
        have h1 := hz a (.head _)
        have h2 := ih fun z m => hz z (.tail _ m)
        cases I with
        | nil => simp only [joinN, List.length_cons, List.length_nil]; omega
        | cons b I =>
          simp only [joinN, List.length_append, List.length_cons, List.length_nil] at h2 ⊢
          omega
    have := h3 fun z m => (isLab_iff.mp (hA z m)).2.1
    omega
  have jc : ∀ c ∈ joinN [46] A, c < 1114112 := join_tx (row_of (by omega) hA) (by omega)
  cases k with
  | pl => exact ⟨by show (joinN [46] A).length ≤ _; omega, jc⟩
  | wi => exact ⟨by show (42 :: 46 :: joinN [46] A).length ≤ _; simp only [List.length_cons]; omega, fun c m => by
      rcases List.mem_cons.mp (show c ∈ 42 :: 46 :: joinN [46] A from m) with rfl | m
      · omega
      · rcases List.mem_cons.mp m with rfl | m
        · omega
        · exact jc c m⟩
  | ex => exact ⟨by show (33 :: joinN [46] A).length ≤ _; simp only [List.length_cons]; omega, fun c m => by
      rcases List.mem_cons.mp (show c ∈ 33 :: joinN [46] A from m) with rfl | m
      · omega
      · exact jc c m⟩
def rowsD (rows : List Row) : List D := rows.map fun r => .str (rowT r)
theorem parse_all {rows : List Row} (hr : ∀ r ∈ rows, RowOk r) : (lcF (fun d => some d) (fun (c3 : D) => pure true) (fun (c3 : D) => (Mo.lift (m_parsed_row_b892 [c3]))) (rowsD rows) : R (List D)) = .ok (rows.map rowD) := by
  induction rows with
  | nil => rfl
  | cons r rows ih =>
    have e := parsed_ok (hr r (.head _))
    have ih' := ih fun x m => hr x (.tail _ m)
    show ((Mo.noex (Mo.lift (m_parsed_row_b892 [.str (rowT r)]) : R D)) >>= fun y => (lcF (fun d => some d) (fun (c3 : D) => pure true) (fun (c3 : D) => (Mo.lift (m_parsed_row_b892 [c3]))) (rowsD rows) : R (List D)) >>= fun r => pure (y :: r)) = _
    rw [lift_pR, e, ih']
    rfl
theorem star0 {α : Type} {g : List D → R α} {ds : List D} (h : ds.length ≤ 1000000) : starD 0 g ds = g [.tup ds] := if_pos ⟨Nat.zero_le _, h⟩
/-! groups made -/
end FN
/-! ### which rule matches which page, with a table and groups -/
namespace FN
open DL PySem PySem.W
end FN
/-! ### the wide bag: [[numbers], seed, count] -/
namespace DL
open PySem PySem.Spec PyProof.Rows L2 StX
def bagY3 : M D := fun s => if s.w = true then .ok (.int s.y) s else .stuck
def bagZ : M D := fun s => if s.w = true then .ok (.int s.z) s else .stuck
def bagHd : M D := fun s => match s.w, s.l with
  | true, i :: _ => .ok (.int i) s
  | _, _ => .stuck
def bagNe : M Bool := fun s => if s.w = true ∧ s.l.length ≤ 1000 then .ok (!s.l.isEmpty) s else .stuck
def bagSetZ (i : Int) : M Unit := fun s => if s.w = true then .ok () { s with z := i } else .stuck
def bagSetHd (i : Int) : M Unit := fun s => match s.w, s.l with
  | true, _ :: r => .ok () { s with l := i :: r }
  | _, _ => .stuck
def bagPop : M Unit := fun s => match s.w, s.l with
  | true, _ :: r => .ok () { s with l := r }
  | _, _ => .stuck
def bagDrop : M Unit := fun s => if s.w = true ∧ s.l.length ≤ 1000 then .ok () { s with l := s.l.dropWhile fun i => i == 0 } else .stuck
theorem ixN0 (n : Nat) : ixN (n + 1) 0 = some 0 := by unfold ixN; simp
theorem atI0 (t : Int) (l : List Int) : atI (List.map V.int (t :: l)) 0 = some (V.int t) := by
  unfold atI
  rw [List.length_map, List.length_cons, ixN0]
  rfl
theorem bag_two {bag : List Addr} {H : Hp} {s : S} {b : Addr} {r : List Addr} (h : BagAt bag H s) (hw : s.w = true) (e : bag = b :: r) : ∃ c r', bag = b :: c :: r' ∧ b ≠ c ∧ H b = some (.lst [.ref c, .int s.y, .int s.z]) ∧ H c = some (.lst (s.l.map V.int)) := by
  subst e
  cases r with
  | nil => exact absurd h.1 (by rw [hw]; simp)
  | cons c r => exact ⟨c, r, rfl, h.2.1, h.2.2.1, h.2.2.2⟩
section
variable {X : Cx} {fx : Fx} {G : List Sl} {α β : Type} {kk : Nat} {e : Expr} {rest : List Stmt} {ex : α → List Sl} {exb : β → List Sl} {pos pos2 p2 p3 np apos : Pos} {n : Str} {j j3 : Nat}
theorem de_bagY3 (i : Nat) (hG : G[i]? = some .bg := by rfl) (hN : X.N[i]? = some n := by rfl) (hv : Vis X.env.scope n := by first | exact Or.inl rfl | exact Or.inr (Or.inl rfl) | exact Or.inr (Or.inr rfl)) (hd : (n == ("__debug__" : Str)) = false := by decide) (hcd : (n == ("__classdict__" : Str)) = false := by decide)
    (hs : PlainIx (.Constant (.int 1) j p2) := by exact fun _ _ => rfl) : PE X (.Subscript (.Name n np) (.Constant (.int 1) j p2) pos) (tE X.K X.mg fx G bagY3) :=
  peI (pe_ix ix_list (pe_var hN hv hd hcd) pe_int hs) fun σ H Q ⟨Hf, s, h⟩ => by
    obtain ⟨b, r, eb, ev⟩ := h.1.sl i _ hG
    have w : (bagY3 s).wp _ _ := h.2
    unfold bagY3 at w
    by_cases hw : s.w = true
    · rw [if_pos hw] at w
      obtain ⟨c, r', e1, ne, hb, hc⟩ := bag_two h.1.bag hw eb
      exact ⟨.ref b, ev, b, _, 1, .int s.y, rfl, rfl, .inl (.inl hb), rfl, w _ Hf H (.refl h.1.top) h.1.bag (is_int _)⟩
    · rw [if_neg hw] at w
      exact w.elim
theorem de_bagZ (i : Nat) (hG : G[i]? = some .bg := by rfl) (hN : X.N[i]? = some n := by rfl) (hv : Vis X.env.scope n := by first | exact Or.inl rfl | exact Or.inr (Or.inl rfl) | exact Or.inr (Or.inr rfl)) (hd : (n == ("__debug__" : Str)) = false := by decide) (hcd : (n == ("__classdict__" : Str)) = false := by decide)
    (hs : PlainIx (.Constant (.int 2) j p2) := by exact fun _ _ => rfl) : PE X (.Subscript (.Name n np) (.Constant (.int 2) j p2) pos) (tE X.K X.mg fx G bagZ) :=
  peI (pe_ix ix_list (pe_var hN hv hd hcd) pe_int hs) fun σ H Q ⟨Hf, s, h⟩ => by
    obtain ⟨b, r, eb, ev⟩ := h.1.sl i _ hG
    have w : (bagZ s).wp _ _ := h.2
    unfold bagZ at w
    by_cases hw : s.w = true
    · rw [if_pos hw] at w
      obtain ⟨c, r', e1, ne, hb, hc⟩ := bag_two h.1.bag hw eb
      exact ⟨.ref b, ev, b, _, 2, .int s.z, rfl, rfl, .inl (.inl hb), rfl, w _ Hf H (.refl h.1.top) h.1.bag (is_int _)⟩
    · rw [if_neg hw] at w
      exact w.elim
theorem de_bagHd (i : Nat) (hG : G[i]? = some .bg := by rfl) (hN : X.N[i]? = some n := by rfl) (hv : Vis X.env.scope n := by first | exact Or.inl rfl | exact Or.inr (Or.inl rfl) | exact Or.inr (Or.inr rfl)) (hd : (n == ("__debug__" : Str)) = false := by decide) (hcd : (n == ("__classdict__" : Str)) = false := by decide)
    (hs : PlainIx (.Constant (.int 0) j p2) := by exact fun _ _ => rfl) (hs3 : PlainIx (.Constant (.int 0) j3 p3) := by exact fun _ _ => rfl) : PE X (.Subscript (.Subscript (.Name n np) (.Constant (.int 0) j p2) pos2) (.Constant (.int 0) j3 p3) pos) (tE X.K X.mg fx G bagHd) :=
  peI (pe_ix ix_list (pe_ix ix_list (pe_var hN hv hd hcd) pe_int hs) pe_int hs3) fun σ H Q ⟨Hf, s, h⟩ => by
    obtain ⟨b, r, eb, ev⟩ := h.1.sl i _ hG
    have w : (bagHd s).wp _ _ := h.2
    unfold bagHd at w
    split at w
    · rename_i t l hw hl
      obtain ⟨c, r', e1, ne, hb, hc⟩ := bag_two h.1.bag hw eb
      rw [hl] at hc
      exact ⟨.ref b, ev, b, _, 0, .ref c, rfl, rfl, .inl (.inl hb), rfl, c, _, 0, .int t, rfl, rfl, .inl (.inl hc), atI0 t l, w _ Hf H (.refl h.1.top) h.1.bag (is_int _)⟩
    · exact w.elim
theorem ints_py : ∀ l : List Int, toPyL (l.map D.int) = some (l.map PyData.int) ∧ PyData.canLayAll0 (l.map PyData.int) = true ∧ PyData.depthAll (l.map PyData.int) ≤ 1
  | [] => ⟨rfl, by simp [PyData.canLayAll0], by simp [PyData.depthAll]⟩
  | i :: l => by
    obtain ⟨a, b, c⟩ := ints_py l
    refine ⟨?_, ?_, ?_⟩
    · rw [List.map_cons, List.map_cons, toPyL, a]
      simp [toPy]
    · simp only [List.map_cons, PyData.canLayAll0, PyData.canLay0, b, Bool.and_self]
    · have z : (PyData.int i).depth = 0 := rfl
      simp only [List.map_cons, PyData.depthAll]
      omega
theorem ne_ints (l : List Int) : neD (.lst (l.map .int)) (.lst []) = some (.bl (!l.isEmpty)) := by
  obtain ⟨a, b, c⟩ := ints_py l
  have s1 : SeqAt.shaped (.list (l.map PyData.int)) = true := by
    unfold SeqAt.shaped
    refine Bool.and_eq_true_iff.mpr ⟨by simpa only [PyData.canLay0] using b, decide_eq_true ?_⟩
    simp only [PyData.depth]
    omega
  have s2 : SeqAt.shaped (.list []) = true := by
    unfold SeqAt.shaped
    simp [PyData.canLay0, PyData.canLayAll0, PyData.depth, PyData.depthAll]
  have t1 : toPy (.lst (l.map .int)) = some (.list (l.map PyData.int)) := by rw [toPy, a]; rfl
  have t2 : toPy (.lst []) = some (.list []) := rfl
  have e : eqP (.lst (l.map .int)) (.lst []) = match toPy (.lst (l.map .int)), toPy (.lst []) with
    | some x, some y => if SeqAt.shaped x && SeqAt.shaped y then some (PyData.eqv x y) else none
    | _, _ => none := rfl
  unfold neD
  rw [e, t1, t2]
  simp only [s1, s2, Bool.and_self, if_true, Option.map_some]
  cases l <;> simp [PyData.eqv, PyData.eqvAll]
theorem is_ints {K : PySem.W.Frag} {mg : Str → Option Value} {H : Hp} : ∀ l : List Int, IsL K mg H (l.map .int) (l.map V.int)
  | [] => rfl
  | i :: l => ⟨_, _, rfl, is_int i, is_ints l⟩
/-- bag[0] != [] -/
theorem dt_bagNe (C : Cok X fx kk) (i : Nat) (hG : G[i]? = some .bg := by rfl) (hN : X.N[i]? = some n := by rfl) (hv : Vis X.env.scope n := by first | exact Or.inl rfl | exact Or.inr (Or.inl rfl) | exact Or.inr (Or.inr rfl)) (hd : (n == ("__debug__" : Str)) = false := by decide) (hcd : (n == ("__classdict__" : Str)) = false := by decide)
    (hs : PlainIx (.Constant (.int 0) j p2) := by exact fun _ _ => rfl) : PT X (.Compare (.Subscript (.Name n np) (.Constant (.int 0) j p2) pos2) [.NotEq] [.List [] p3] pos) (tT X.K X.mg fx G bagNe) :=
  ptI (pt_cmpR (od_ne C.rm.units) (pe_ix ix_list (pe_var hN hv hd hcd) pe_int hs) (pe_lst pa_nil) (by rfl)) fun σ H Q ⟨Hf, s, h⟩ => by
    obtain ⟨b, r, eb, ev⟩ := h.1.sl i _ hG
    have w : (bagNe s).wp _ _ := h.2
    unfold bagNe at w
    by_cases hw : s.w = true ∧ s.l.length ≤ 1000
    · rw [if_pos hw] at w
      obtain ⟨c, r', e1, ne, hb, hc⟩ := bag_two h.1.bag hw.1 eb
      refine ⟨.ref b, ev, b, _, 0, .ref c, rfl, rfl, .inl (.inl hb), rfl, (by show 0 ≤ sizeLine; exact Nat.zero_le _), fun p hp => ?_⟩
      have hcp : c ≠ p := fun z => by rw [z, hp] at hc; cases hc
      have sn : Ste ([] : List Addr) Hf H Hf (upd H p (.lst [])) := Ste.new' h.1.top hp
      refine ⟨upd H p (.lst []), .lst (s.l.map .int), .lst [], _, .refl _, ⟨by rw [List.length_map, sizeLine_eq]; omega, c, s.l.map V.int, rfl, (upd_ne hcp).trans hc, is_ints s.l⟩, ⟨Nat.zero_le _, p, [], rfl, upd_same, rfl⟩, ne_ints s.l, fun u Hf' H' st iu => ?_⟩
      refine ⟨!s.l.isEmpty, iu, ?_⟩
      have st2 : Ste ([] : List Addr) Hf H Hf H' := ⟨.refl _, fun a o q => st.keep a o (sn.top a o q) (by simp), fun a o q hn => st.keep a o (sn.keep a o q hn) (by simp), fun a q => st.dom a (sn.dom a q), fun a o q => .inl q⟩
      exact w _ Hf H' st2.wide (st2.bag h.1.bag) rfl
    · rw [if_neg hw] at w
      exact w.elim
theorem dss_bagSetZ {x : M D} {k : M (Fl α β)} (i : Nat) (he : PE X e (tE X.K X.mg fx G x)) (hr : PSs X rest (tS X.K X.mg fx G ex exb k)) (hG : G[i]? = some .bg := by rfl) (hN : X.N[i]? = some n := by rfl) (hv : Vis X.env.scope n := by first | exact Or.inl rfl | exact Or.inr (Or.inl rfl) | exact Or.inr (Or.inr rfl)) (hd : (n == ("__debug__" : Str)) = false := by decide) (hcd : (n == ("__classdict__" : Str)) = false := by decide)
    (ha : ∀ v, assign (.Subscript (.Name n np) (.Constant (.int 2) j p2) apos) X.env v = (do
      let ov ← holding [v] (eval (.Name n np) X.env)
      let iv ← holding [v, ov] (eval (.Constant (.int 2) j p2) X.env)
      standAt apos
      holding [v, ov, iv] (setItem ov iv v)
      release [v, ov, iv] []) := by intro _; rfl)
    (hs : swapsWithSole [.Subscript (.Name n np) (.Constant (.int 2) j p2) apos] e pos.line X.env = pure false := by rfl) (hw : swappedStores [.Subscript (.Name n np) (.Constant (.int 2) j p2) apos] e X.env = pure none := by rfl)
    (h1 : (assignEach [.Subscript (.Name n np) (.Constant (.int 2) j p2) apos] X.env).map (·.2) = [assign (.Subscript (.Name n np) (.Constant (.int 2) j p2) apos) X.env] := by rfl) (hg : GxOk fx G := by first | exact True.intro | repeat' (first | exact True.intro | exact Or.inl rfl | exact Or.inr rfl | refine And.intro ?_ ?_)) :
    PSs X (.Assign [.Subscript (.Name n np) (.Constant (.int 2) j p2) apos] e pos :: rest) (tS X.K X.mg fx G ex exb (do let d ← x; let i ← ask (intOf d); bagSetZ i; k)) :=
  pssI (pss_cons (ps_asg he (pg_sub (pe_var hN hv hd hcd) pe_int set_list ha) hs hw h1) hr) fun De σ H ⟨Hf, s, h⟩ =>
    ((h.bind hg).mono fun v H1 ⟨d, Hf1, s1, sb, r, h1⟩ => by
      obtain ⟨b, rr, eb, ev⟩ := h1.1.sl i _ hG
      have w := Mo.wp_lift (Mo.wp_bind h1.2)
      cases d with
      | int t =>
        cases r
        have w2 : (bagSetZ t s1).wp _ _ := Mo.wp_bind w
        unfold bagSetZ at w2
        by_cases hw : s1.w = true
        · rw [if_pos hw] at w2
          obtain ⟨c, r', e1, ne, hb, hc⟩ := bag_two h1.1.bag hw eb
          refine ⟨.ref b, ev, b, _, 2, 2, rfl, rfl, hb, rfl, Hf1, _, h1.1.bagUpd (s' := { s1 with z := t }) (by rw [e1]; simp) ?_, w2⟩
          rw [e1]
          exact ⟨hw, ne, upd_same, (upd_ne (Ne.symm ne)).trans hc⟩
        · rw [if_neg hw] at w2
          exact w2.elim
      | _ => exact w.elim).to
theorem dss_bagSetHd {x : M D} {k : M (Fl α β)} (i : Nat) (he : PE X e (tE X.K X.mg fx G x)) (hr : PSs X rest (tS X.K X.mg fx G ex exb k)) (hG : G[i]? = some .bg := by rfl) (hN : X.N[i]? = some n := by rfl) (hv : Vis X.env.scope n := by first | exact Or.inl rfl | exact Or.inr (Or.inl rfl) | exact Or.inr (Or.inr rfl)) (hd : (n == ("__debug__" : Str)) = false := by decide) (hcd : (n == ("__classdict__" : Str)) = false := by decide)
    (hs2 : PlainIx (.Constant (.int 0) j p2) := by exact fun _ _ => rfl)
    (ha : ∀ v, assign (.Subscript (.Subscript (.Name n np) (.Constant (.int 0) j p2) pos2) (.Constant (.int 0) j3 p3) apos) X.env v = (do
      let ov ← holding [v] (eval (.Subscript (.Name n np) (.Constant (.int 0) j p2) pos2) X.env)
      let iv ← holding [v, ov] (eval (.Constant (.int 0) j3 p3) X.env)
      standAt apos
      holding [v, ov, iv] (setItem ov iv v)
      release [v, ov, iv] []) := by intro _; rfl)
    (hs : swapsWithSole [.Subscript (.Subscript (.Name n np) (.Constant (.int 0) j p2) pos2) (.Constant (.int 0) j3 p3) apos] e pos.line X.env = pure false := by rfl) (hw : swappedStores [.Subscript (.Subscript (.Name n np) (.Constant (.int 0) j p2) pos2) (.Constant (.int 0) j3 p3) apos] e X.env = pure none := by rfl)
    (h1 : (assignEach [.Subscript (.Subscript (.Name n np) (.Constant (.int 0) j p2) pos2) (.Constant (.int 0) j3 p3) apos] X.env).map (·.2) = [assign (.Subscript (.Subscript (.Name n np) (.Constant (.int 0) j p2) pos2) (.Constant (.int 0) j3 p3) apos) X.env] := by rfl) (hg : GxOk fx G := by first | exact True.intro | repeat' (first | exact True.intro | exact Or.inl rfl | exact Or.inr rfl | refine And.intro ?_ ?_)) :
    PSs X (.Assign [.Subscript (.Subscript (.Name n np) (.Constant (.int 0) j p2) pos2) (.Constant (.int 0) j3 p3) apos] e pos :: rest) (tS X.K X.mg fx G ex exb (do let d ← x; let i ← ask (intOf d); bagSetHd i; k)) :=
  pssI (pss_cons (ps_asg he (pg_sub (pe_ix ix_list (pe_var hN hv hd hcd) pe_int hs2) pe_int set_list ha) hs hw h1) hr) fun De σ H ⟨Hf, s, h⟩ =>
    ((h.bind hg).mono fun v H1 ⟨d, Hf1, s1, sb, r, h1⟩ => by
      obtain ⟨b, rr, eb, ev⟩ := h1.1.sl i _ hG
      have w := Mo.wp_lift (Mo.wp_bind h1.2)
      cases d with
      | int t =>
        cases r
        have w2 : (bagSetHd t s1).wp _ _ := Mo.wp_bind w
        unfold bagSetHd at w2
        split at w2
        · rename_i u l hw hl
          obtain ⟨c, r', e1, ne, hb, hc⟩ := bag_two h1.1.bag hw eb
          rw [hl] at hc
          refine ⟨.ref b, ev, b, _, 0, .ref c, rfl, rfl, .inl (.inl hb), rfl, c, _, 0, 0, rfl, rfl, hc, (by rw [List.length_map, List.length_cons, ixN0]), Hf1, _, h1.1.bagUpd (s' := { s1 with l := t :: l }) (by rw [e1]; simp) ?_, w2⟩
          rw [e1]
          exact ⟨hw, ne, (upd_ne ne).trans hb, upd_same⟩
        · exact w2.elim
      | _ => exact w.elim).to
/-- bag[0].pop(0) as a statement -/
theorem dss_bagPop {k : M (Fl α β)} {cpos : Pos} (i : Nat) (hr : PSs X rest (tS X.K X.mg fx G ex exb k)) (hG : G[i]? = some .bg := by rfl) (hN : X.N[i]? = some n := by rfl) (hv : Vis X.env.scope n := by first | exact Or.inl rfl | exact Or.inr (Or.inl rfl) | exact Or.inr (Or.inr rfl)) (hd : (n == ("__debug__" : Str)) = false := by decide) (hcd : (n == ("__classdict__" : Str)) = false := by decide)
    (hs : PlainIx (.Constant (.int 0) j p2) := by exact fun _ _ => rfl)
    (hst : starEach [(.Constant (.int 0) j3 p3 : Expr)] X.env = [(false, eval (.Constant (.int 0) j3 p3) X.env)] := by rfl) (hbase : attributeBase (.Subscript (.Name n np) (.Constant (.int 0) j p2) pos2) "pop" X.env (eval (.Subscript (.Name n np) (.Constant (.int 0) j p2) pos2) X.env) = eval (.Subscript (.Name n np) (.Constant (.int 0) j p2) pos2) X.env := by rfl)
    (hfew : ((backTo cpos (starEach [(.Constant (.int 0) j3 p3 : Expr)] X.env)).all (fun x => !x.1) && (backToKw cpos (keywordEach [] X.env)).all (fun x => x.1.isSome) && decide ([(.Constant (.int 0) j3 p3 : Expr)].length + ([] : List Keyword).length + (if ([] : List Keyword).isEmpty then 0 else 1) < 30)) = true := by rfl)
    (hline : (apos.endLine == cpos.line) = true := by rfl) (hplain : (backTo cpos (starEach [] X.env)).any (·.1) = false := by rfl)
    (hsw : swapsWith (.Call (.Attribute (.Subscript (.Name n np) (.Constant (.int 0) j p2) pos2) "pop" apos) [.Constant (.int 0) j3 p3] [] cpos) none pos.line X.env = pure false := by rfl) :
    PSs X (.Expr (.Call (.Attribute (.Subscript (.Name n np) (.Constant (.int 0) j p2) pos2) "pop" apos) [.Constant (.int 0) j3 p3] [] cpos) pos :: rest) (tS X.K X.mg fx G ex exb (do bagPop; k)) :=
  pssI (pss_cons (ps_expr (pe_bm PySem.F.plainAttrs_list PySem.F.slot_list_pop PySem.F.type_list_pop mt_popAt (pe_ix ix_list (pe_var hN hv hd hcd) pe_int hs) (pa_cons pe_int pa_nil hst) hbase hfew hline hst hplain) hsw) hr) fun De σ H ⟨Hf, s, h⟩ => by
    obtain ⟨b, r, eb, ev⟩ := h.1.sl i _ hG
    have w : (bagPop s).wp _ _ := Mo.wp_bind h.2
    unfold bagPop at w
    split at w
    · rename_i t l hw hl
      obtain ⟨c, r', e1, ne, hb, hc⟩ := bag_two h.1.bag hw eb
      rw [hl] at hc
      refine ⟨.ref b, ev, b, _, 0, .ref c, rfl, rfl, .inl (.inl hb), rfl, .inl ⟨rfl, _, .inl (.inl hc)⟩, ?_⟩
      refine ⟨c, _, 0, 0, .int t, rfl, rfl, hc, by decide, by decide, by simp [seqIndex?], rfl, Hf, _, h.1.bagUpd (s' := { s with l := l }) (by rw [e1]; simp) ?_, w⟩
      rw [e1]
      exact ⟨hw, ne, (upd_ne ne).trans hb, upd_same⟩
    · exact w.elim
/-- while bag[0] != [] and bag[0][0] == 0: bag[0].pop(0) -/
theorem dss_bagWhile {k : M (Fl α β)} {c : Expr} {body : List Stmt} (C : Cok X fx kk) (hc : PT X c (tT X.K X.mg fx G (DL.andM bagNe (do let x ← bagHd; let y ← pure (.int 0); DL.ask ((eqD x y).bind bOf)))))
    (hb : PSs X body (tS X.K X.mg fx G (fun (_ : Unit) => G) (fun (_ : Unit) => G) (do bagPop; pure (.nx ())))) (hr : PSs X rest (tS X.K X.mg fx G ex exb k)) (hst : X.stack = X.env :: X.outer := by rfl) :
    PSs X (.While c body [] pos :: rest) (tS X.K X.mg fx G ex exb (do bagDrop; k)) :=
  pssI (pss_cons (ps_while (C.hp hst) hc hb) hr) fun De σ H ⟨Hf, s, h⟩ => by
    have w : (bagDrop s).wp _ _ := Mo.wp_bind h.2
    unfold bagDrop at w
    by_cases hw : s.w = true ∧ s.l.length ≤ 1000
    · rw [if_pos hw] at w
      have w' : Mo.wp k { s with l := s.l.dropWhile fun i => i == 0 } (FP X.K X.mg fx Hf ex exb De) (EXS X.K X.mg fx) := w
      refine ⟨fun m σ' H' => ∃ Hf' l, Sub Hf Hf' ∧ StS X.K X.mg fx Hf' H' σ' G { s with l := l } ∧ l.length = m ∧ l.length ≤ 1000 ∧ (l.dropWhile fun i => i == 0) = s.l.dropWhile fun i => i == 0, ⟨s.l.length, Hf, s.l, .refl _, h.1, rfl, hw.2, rfl⟩, ?_⟩
      rintro m σ' H' ⟨Hf', l, sb, st, hl, h1000, he⟩
      -- the loop ends
      have fin : ∀ Hf2 H2, Ste fx.bag Hf' H' Hf2 H2 → BagAt fx.bag H2 { s with l := l } → (l.dropWhile fun i => i == 0) = l → tS X.K X.mg fx G ex exb k De σ' H2 := fun Hf2 H2 e2 bg2 hd2 => by
        rw [← he, hd2] at w'
        exact ⟨Hf2, _, st.step e2 bg2, Mo.wp_mono w' (fun f s2 h2 => h2.up (sb.trans e2.sub)) fun e s' k => k⟩
      refine ⟨Hf', { s with l := l }, st, ?_⟩
      cases l with
      | nil =>
        have ev : (DL.andM bagNe (do let x ← bagHd; DL.ask ((eqD x (.int 0)).bind bOf)) : M Bool) { s with l := [] } = .ok false { s with l := [] } := by
          unfold DL.andM
          rw [M.bind_ap]
          have : bagNe { s with l := [] } = .ok false { s with l := [] } := by unfold bagNe; rw [if_pos ⟨hw.1, by simp⟩]; rfl
          rw [this]
          rfl
        show ((DL.andM bagNe (do let x ← bagHd; DL.ask ((eqD x (.int 0)).bind bOf)) : M Bool) { s with l := [] }).wp _ _
        rw [ev]
        intro b Hf2 H2 e2 bg2 hb2
        subst hb2
        exact fin Hf2 H2 e2 bg2 rfl
      | cons a r =>
        have ev : (DL.andM bagNe (do let x ← bagHd; DL.ask ((eqD x (.int 0)).bind bOf)) : M Bool) { s with l := a :: r } = .ok (decide (a = 0)) { s with l := a :: r } := by
          unfold DL.andM
          rw [M.bind_ap]
          have e1 : bagNe { s with l := a :: r } = .ok true { s with l := a :: r } := by unfold bagNe; rw [if_pos ⟨hw.1, h1000⟩]; rfl
          rw [e1]
          show (((do let x ← bagHd; DL.ask ((eqD x (.int 0)).bind bOf)) : M Bool) { s with l := a :: r }) = _
          rw [M.bind_ap]
          have e2 : bagHd { s with l := a :: r } = .ok (.int a) { s with l := a :: r } := by
            unfold bagHd
            simp only [hw.1]
          rw [e2]
          rfl
        show ((DL.andM bagNe (do let x ← bagHd; DL.ask ((eqD x (.int 0)).bind bOf)) : M Bool) { s with l := a :: r }).wp _ _
        rw [ev]
        intro b Hf2 H2 e2 bg2 hb2
        by_cases c : a = 0
        · rw [decide_eq_true c] at hb2
          subst hb2
          rw [if_pos rfl]
          refine ⟨fun σ'' H'' => ∃ Hf'', Sub Hf Hf'' ∧ StS X.K X.mg fx Hf'' H'' σ'' G { s with l := r }, fun σ'' H'' ⟨Hf'', sb2, st2⟩ => ⟨r.length, by rw [← hl]; exact Nat.lt_succ_self _, Hf'', r, sb2, st2, rfl, by simp only [List.length_cons] at h1000; omega, by rw [← he, List.dropWhile_cons]; simp [c]⟩, Hf2, { s with l := a :: r }, st.step e2 bg2, ?_⟩
          have ev2 : (do bagPop; pure (.nx ()) : M (Fl Unit Unit)) { s with l := a :: r } = .ok (.nx ()) { s with l := r } := by
            rw [M.bind_ap]
            have : bagPop { s with l := a :: r } = .ok () { s with l := r } := by unfold bagPop; simp only [hw.1]
            rw [this]
            rfl
          show ((do bagPop; pure (.nx ()) : M (Fl Unit Unit)) { s with l := a :: r }).wp _ _
          rw [ev2]
          exact fun Hf3 H3 σ3 sb3 st3 => ⟨Hf3, (sb.trans e2.sub).trans sb3, st3⟩
        · rw [decide_eq_false c] at hb2
          subst hb2
          rw [if_neg Bool.false_ne_true]
          exact fin Hf2 H2 e2 bg2 (by rw [List.dropWhile_cons]; simp [c])
    · rw [if_neg hw] at w
      exact w.elim
end
/-! ### a wide bag is made -/
def scrOf : D → Option (List Int)
  | .scr is => some is
  | _ => none
def intsOf : List D → Option (List Int)
  | [] => some []
  | .int i :: r => (intsOf r).map (i :: ·)
  | _ => none
theorem intsOf_eq : ∀ {cs : List D} {l : List Int}, intsOf cs = some l → cs = l.map .int
  | [], l, h => by cases h; rfl
  | .int i :: r, l, h => by
    unfold intsOf at h
    cases e : intsOf r with
    | none => rw [e] at h; cases h
    | some l' => rw [e] at h; cases h; rw [intsOf_eq e]; rfl
  | .non :: r, l, h => by cases h
  | .bl _ :: r, l, h => by cases h
  | .str _ :: r, l, h => by cases h
  | .tup _ :: r, l, h => by cases h
  | .lst _ :: r, l, h => by cases h
  | .dic _ _ :: r, l, h => by cases h
  | .ins _ _ _ :: r, l, h => by cases h
  | .scr _ :: r, l, h => by cases h
  | .xc _ _ _ _ :: r, l, h => by cases h
theorem intsOf_map : ∀ l : List Int, intsOf (l.map .int) = some l
  | [] => rfl
  | i :: l => by rw [List.map_cons, intsOf, intsOf_map l]; rfl
def withBagW {α β : Type} (d : D) (body : M (Fl α β)) : R (Fl α β) := match d with
  | .lst [.lst cs, .int y, .int z] => match intsOf cs with
    | some l => match body ⟨0, y, z, l, true⟩ with
      | .ok f _ => .ok f
      | .ex e _ => .ex e
      | .stuck => .stuck
    | none => .stuck
  | _ => .stuck
abbrev Fx.baggedL (fx : Fx) (L : List Addr) : Fx := { fx with bag := L }
section
variable {K : PySem.W.Frag} {mg : Str → Option Value} {fx : Fx}
theorem Ste.unbagL {L : List Addr} {Hf H Hf' H' : Hp} (e : Ste L Hf H Hf' H') (hb : ∀ b ∈ L, H b = none) : Ste [] Hf H Hf' H' :=
  ⟨e.sub, e.top, fun a o q _ => e.keep a o q (fun m => by rw [hb a m] at q; cases q), e.dom, e.fresh⟩
theorem StS.unbagL {L : List Addr} {Hf H : Hp} {σ : L2.St} {G : List Sl} {s s0 : S} (hfx : fx.bag = []) (hme : fx.me = []) (hb : ∀ b ∈ L, fx.H0 b = none) (st : StS K mg (fx.baggedL L) Hf H σ G s) (hG : G.all noBg = true) : StS K mg fx Hf H σ G s0 := by
  have st0 : Ste L fx.Hf0 fx.H0 Hf H := by
    have z := st.ste
    have e : (fx.baggedL L).me = [] := hme
    rw [e] at z
    exact z
  refine ⟨by rw [hfx, hme]; exact Ste.unbagL st0 hb, by rw [hfx]; trivial, by rw [hfx, hme]; intro b hb; (cases hb), st.len, fun i x e => ?_, st.dis⟩
  have so := st.sl i x e
  cases x with
  | un => trivial
  | im d => exact so
  | bg =>
    have := List.all_eq_true.mp hG _ (List.mem_of_getElem? e)
    cases this
  | ow ds =>
    obtain ⟨p, vs, e1, h, hf, h0, nb, l, hz⟩ := so
    exact ⟨p, vs, e1, h, hf, h0, by rw [hfx]; simp, l, hz⟩
  | od ks ds =>
    obtain ⟨p, vs, e1, h, hf, h0, nb, l, l', hz⟩ := so
    exact ⟨p, vs, e1, h, hf, h0, by rw [hfx]; simp, l, l', hz⟩
  | ob ks ds =>
    obtain ⟨p, C, dx, vs, e1, h, hf, h0, nb, l⟩ := so
    exact ⟨p, C, dx, vs, e1, h, hf, h0, by rw [hfx]; simp, l⟩
theorem ints_is {H : Hp} : ∀ {l : List Int} {vs : List V}, IsL K mg H (l.map .int) vs → vs = l.map V.int
  | [], vs, h => h
  | i :: l, vs, h => by
    obtain ⟨v, r, rfl, e, h'⟩ := h
    rw [ints_is h']
    cases e
    rfl
theorem scr_small {Hf : Hp} {is : List Int} {v : V} (h : Is K mg Hf (.scr is) v) : ∃ Hs, Sub Hs Hf ∧ Is K mg Hs (.scr is) v ∧ ∀ a l, Hs a ≠ some (.lst l) := by
  rw [Is] at h
  obtain ⟨z, a, rfl, q⟩ := h
  rcases q with ⟨o, q⟩ | q
  · refine ⟨fun x => if x = a then some (.frz o (.lst (is.map V.int))) else none, fun x u e => ?_, ?_, fun x l e => ?_⟩
    · dsimp only at e
      by_cases c : x = a
      · rw [if_pos c] at e
        cases e
        rw [c]; exact q
      · rw [if_neg c] at e; cases e
    · rw [Is]
      exact ⟨z, a, rfl, .inl ⟨o, if_pos rfl⟩⟩
    · dsimp only at e
      by_cases c : x = a
      · rw [if_pos c] at e; cases e
      · rw [if_neg c] at e; cases e
  · have s0 : Sub (fun _ => none) Hf := fun x u e => by cases e
    refine ⟨fun _ => none, s0, ?_, by intro x l e; cases e⟩
    rw [Is]
    exact ⟨z, a, rfl, .inr q⟩
end
section
variable {X : Cx} {fx : Fx} {G : List Sl} {α β : Type} {kk j : Nat} {rest : List Stmt} {ex : α → List Sl} {exb : β → List Sl} {pos : Pos} {n : Str} {pos' : Pos}
theorem Cok.baggedL (C : Cok X fx kk) (L : List Addr) : Cok X (fx.baggedL L) kk := ⟨C.calm, C.hp, C.tk, C.rm, C.nd, C.gd⟩
theorem StS.setBg2 {i : Nat} {b c : Addr} {Hf H : Hp} {σ : L2.St} {y z : Int} {l : List Int} {s : S} (hfx : fx.bag = []) (hme : fx.me = []) (st : StS X.K X.mg fx Hf H σ G s) (no : ∀ x ∈ [b, c], ∀ (j : Nat) (q : Addr), σ[j]? = some (some (.ref q)) → (∀ u, G[j]? = some u → isOw u = true → q ≠ x)) (ne : b ≠ c) (hb : H b = some (.lst [.ref c, .int y, .int z])) (hc : H c = some (.lst (l.map V.int))) (hf : ∀ x ∈ [b, c], Hf x = none) (hG : G.all noBg = true) :
    StS X.K X.mg (fx.baggedL [b, c]) Hf H (σ.set i (some (.ref b))) (G.set i .bg) ⟨0, y, z, l, true⟩ := by
  refine ⟨⟨st.ste.sub, st.ste.top, fun a o q _ => st.ste.keep a o q (by rw [hfx, hme]; simp), st.ste.dom, st.ste.fresh⟩, ⟨rfl, ne, hb, hc⟩, fun x hx => ?_, by simpa using st.len, fun j u e => ?_, fun j k u w p hjk ex ey ox oy e1 e2 => ?_⟩
  · have hm : (fx.baggedL [b, c]).me = [] := hme
    rw [hm] at hx ⊢
    have hx' : x ∈ [b, c] := hx
    refine ⟨hf x hx', ?_, fun z => nomatch z⟩
    simp only [List.mem_cons, List.not_mem_nil, or_false] at hx'
    rcases hx' with rfl | rfl
    · rw [hb]; simp
    · rw [hc]; simp
  · have nb : ∀ p, σ[j]? = some (some (.ref p)) → ∀ v, G[j]? = some v → isOw v = true → p ∉ [b, c] := fun p e1 v ev ov m => no p m j p e1 v ev ov rfl
    by_cases q : i = j
    · subst q
      have hi : i < G.length := by
        have := (List.getElem?_eq_some_iff.mp e).1
        simpa using this
      rw [List.getElem?_set_self hi] at e
      cases e
      exact ⟨b, [c], rfl, List.getElem?_set_self (by rw [st.len]; exact hi)⟩
    · rw [List.getElem?_set_ne q] at e
      rw [List.getElem?_set_ne q]
      have so := st.sl j u e
      cases u with
      | un => trivial
      | im d => exact so
      | bg =>
        have := List.all_eq_true.mp hG _ (List.mem_of_getElem? e)
        cases this
      | ow ds =>
        obtain ⟨p, vs, e1, h, hf', h0', _, l, hz⟩ := so
        exact ⟨p, vs, e1, h, hf', h0', nb p e1 _ e rfl, l, hz⟩
      | od ks ds =>
        obtain ⟨p, vs, e1, h, hf', h0', _, l, l', hz⟩ := so
        exact ⟨p, vs, e1, h, hf', h0', nb p e1 _ e rfl, l, l', hz⟩
      | ob ks ds =>
        obtain ⟨p, C, dx, vs, e1, h, hf', h0', _, l⟩ := so
        exact ⟨p, C, dx, vs, e1, h, hf', h0', nb p e1 _ e rfl, l⟩
  · have nj : i ≠ j := by
      rintro rfl
      have hi : i < G.length := by
        have := (List.getElem?_eq_some_iff.mp ex).1
        simpa using this
      rw [List.getElem?_set_self hi] at ex
      cases ex; cases ox
    have nk : i ≠ k := by
      rintro rfl
      have hi : i < G.length := by
        have := (List.getElem?_eq_some_iff.mp ey).1
        simpa using this
      rw [List.getElem?_set_self hi] at ey
      cases ey; cases oy
    rw [List.getElem?_set_ne nj] at ex e1
    rw [List.getElem?_set_ne nk] at ey e2
    exact st.dis j k u w p hjk ex ey ox oy e1 e2
/-- bag = _law_bag(script): both its lists are new -/
theorem dss_bagW {a0 : D} {g : List D → R D} {k : M (Fl α β)} {f : Addr} {fd : FuncData} {ps : List Str} {nm sn : Str} {p sp cpos : Pos} (C : Cok X fx kk) (i : Nat) (si : Nat) (F : FnG X.prog X.w X.K X.mg X.base j f fd ps (spR X.K X.mg false 1 g)) (hm : X.mg nm = some (.ref f)) (hk : PySem.W.keepIn X.K (.ref f) = true) (hb : Binds X.K fd ps [])
    (hr : ∀ L, Cok X (fx.baggedL L) kk → PSs X rest (tS X.K X.mg (fx.baggedL L) (G.set i .bg) ex exb k)) (hex : ∀ a, (ex a).all noBg = true) (hexb : ∀ a, (exb a).all noBg = true) (hfx : fx.bag = [] := by rfl) (hme : fx.me = [] := by rfl) (hgx : fx.gx = none := by rfl) (hnr : fx.nr = false := by rfl) (hG : G.all noBg = true := by rfl)
    (hS : G[si]? = some (.im a0) := by rfl) (hNS : X.N[si]? = some sn := by rfl) (hvS : Vis X.env.scope sn := by first | exact Or.inl rfl | exact Or.inr (Or.inl rfl) | exact Or.inr (Or.inr rfl)) (hdS : (sn == ("__debug__" : Str)) = false := by decide) (hcS : (sn == ("__classdict__" : Str)) = false := by decide)
    (hj : j ≤ kk := by decide) (hg : Gl X nm := by rfl) (hdb : (nm == ("__debug__" : Str)) = false := by decide) (he : starEach [(.Name sn sp : Expr)] X.env = (false, eval (.Name sn sp) X.env) :: starEach [] X.env := by rfl) (hpl : (backTo cpos (starEach [] X.env)).any (·.1) = false := by rfl)
    (hi : X.N[i]? = some n := by rfl) (hx : Loc X.env.scope n := by first | exact Or.inl rfl | exact Or.inr rfl)
    (hs : swapsWith (.Call (.Name nm p) [.Name sn sp] [] cpos) (some (.Name n pos')) pos.line X.env = pure false := by rfl) (hf : X.fn n = true ∨ X.env.scope.names.lookup n = some .local := by first | exact .inl rfl | exact .inr rfl) :
    PSs X (.Assign [.Name n pos'] (.Call (.Name nm p) [.Name sn sp] [] cpos) pos :: rest) (tS X.K X.mg fx G ex exb (do let is ← ask (scrOf a0); let d ← Mo.noex (g [.scr is]); withBagW d k)) :=
  pssI (pss_cons (ps_set C.nd hi hx (pe_callG (E := WE fx.W) F C.gd (C.rm.mono hj) hg hm hk hb .nil (fun σ => passAt C.tk σ) (pa_cons (pe_var hNS hvS hdS hcS) pa_nil he) hdb he hpl) hs hf) (pss_ex fun L => hr L (C.baggedL L))) fun De σ H ⟨Hf, s, h⟩ => by
    obtain ⟨st, w⟩ := h
    obtain ⟨v, ev, iv⟩ := st.sl si _ hS
    cases a0 with
    | scr is =>
      have w1 : (R.nx (g [.scr is])).wp s (fun d s1 => R.wp (withBagW d k) s1 (FP X.K X.mg fx Hf ex exb De) (EXS X.K X.mg fx)) (EXS X.K X.mg fx) := Mo.wp_bind (show Mo.wp (Mo.noex (g [.scr is]) >>= fun d => withBagW d k) s (FP X.K X.mg fx Hf ex exb De) (EXS X.K X.mg fx) from w)
      obtain ⟨Hs, ss, is', hno⟩ := scr_small iv
      refine ⟨v, ev, ?_⟩
      show spR X.K X.mg false 1 g [v] H _ _
      refine ⟨rfl, Hs, [.scr is], ss.trans st.top, .cons is' .nil, ?_⟩
      cases hgd : g [.scr is] with
      | ok d =>
        rw [hgd] at w1
        have w2 : R.wp (withBagW d k) s (FP X.K X.mg fx Hf ex exb De) (EXS X.K X.mg fx) := w1
        intro v' Hf' H' e2 i2
        have i3 : Is X.K X.mg Hf' d v' := i2
        unfold withBagW at w2
        split at w2
        · rename_i cs y z
          split at w2
          · rename_i l hl
            have := intsOf_eq hl
            subst this
            rw [Is] at i3
            obtain ⟨_, b, vs, rfl, hb', l1⟩ := i3
            obtain ⟨vc, r1, rfl, ic, v2, r2, rfl, rfl, v3, r3, rfl, rfl, rfl⟩ := l1
            rw [Is] at ic
            obtain ⟨_, c, ws, rfl, hc', l2⟩ := ic
            have := ints_is l2
            subst this
            have fr : ∀ a l, Hf' a = some (.lst l) → H a = none := fun a l q => by
              rcases e2.fresh a _ q with h1 | h1
              · exact absurd h1 (hno a l)
              · exact h1
            have hb0 := fr b _ hb'
            have hc0 := fr c _ hc'
            have ne : b ≠ c := fun z => by
              rw [z, hc'] at hb'
              cases l with
              | nil => cases hb'
              | cons t l => cases hb'
            have nb0 := st.new0 hb0
            have nc0 := st.new0 hc0
            have h00 : ∀ x ∈ [b, c], fx.H0 x = none := fun x hx => by
              simp only [List.mem_cons, List.not_mem_nil, or_false] at hx
              rcases hx with rfl | rfl
              · exact nb0.1
              · exact nc0.1
            have hff : ∀ x ∈ [b, c], Hf x = none := fun x hx => by
              simp only [List.mem_cons, List.not_mem_nil, or_false] at hx
              rcases hx with rfl | rfl
              · exact st.top.none hb0
              · exact st.top.none hc0
            have e3 : Ste [] Hf H Hf H' := ⟨.refl _, fun a o q => e2.keep a o (st.top a o q) (by simp), e2.keep, e2.dom, fun a o q => .inl q⟩
            have st1 : StS X.K X.mg fx Hf H' σ G s := st.step e3.wide (e3.bag st.bag)
            refine ⟨[b, c], Hf, ⟨0, y, z, l, true⟩, StS.setBg2 hfx hme st1 (fun x hx => ?_) ne (e2.top _ _ hb') (e2.top _ _ hc') hff hG, ?_⟩
            · simp only [List.mem_cons, List.not_mem_nil, or_false] at hx
              rcases hx with rfl | rfl
              · exact st.owNe hb0
              · exact st.owNe hc0
            show (k _).wp _ _
            cases q : k ⟨0, y, z, l, true⟩ with
            | ok f s2 =>
              rw [q] at w2
              have w3 : FP X.K X.mg fx Hf ex exb De f s := w2
              show FP X.K X.mg (fx.baggedL [b, c]) Hf ex exb De f s2
              cases f with
              | nx a => exact fun Hf' H' σ' sb st => w3 Hf' H' σ' sb (StS.unbagL hfx hme h00 st (hex a))
              | rt d => exact fun v Hf' H' st bg' r => w3 v Hf' H' (by rw [hfx, hme]; exact Ste.unbagL (by have e : (fx.baggedL [b, c]).me = [] := hme; rw [e] at st; exact st) h00) (by rw [hfx]; trivial) r
              | bk b => exact fun Hf' H' σ' sb st => w3 Hf' H' σ' sb (StS.unbagL hfx hme h00 st (hexb b))
              | ct b => exact fun Hf' H' σ' sb st => w3 Hf' H' σ' sb (StS.unbagL hfx hme h00 st (hexb b))
            | ex e2 s2 =>
              rw [q] at w2
              have w3 : EXS X.K X.mg fx e2 s := w2
              show EXS X.K X.mg (fx.baggedL [b, c]) e2 s2
              intro cls dd σ' Hf' H' xs xi
              refine w3 cls dd σ' Hf' H' ?_ xi
              unfold XSt at xs ⊢
              have hgx' : (fx.baggedL [b, c]).gx = none := hgx
              rw [hgx'] at xs
              rw [hgx]
              exact ⟨by rw [hfx, hme]; exact Ste.unbagL (by have z := xs.1; have e : (fx.baggedL [b, c]).me = [] := hme; rw [e] at z; exact z) h00, by rw [hfx]; trivial⟩
            | stuck => rw [q] at w2; exact w2.elim
          · exact w2.elim
        · exact w2.elim
      | ex e => rw [hgd] at w1; exact w1.elim
      | stuck => rw [hgd] at w1; exact w1.elim
    | _ => exact w.elim
end
/-! ### a + b of lists: a new list -/
end DL
namespace FN
open DL
def k__law_bag_d7b5_0 (q3 : D) (c4 : D) : R (Fl (D) (D)) := (do let v11 ← (do let x23 ← (do let r22 ← (do let x20 ← (do let x18 ← (do let x16 ← (do let x12 ← (pure q3); let y13 ← (pure (.int 6364136223846793005)); DL.ask (mulD x12 y13)); let y17 ← (do let x14 ← (pure c4); let y15 ← (pure (.int 48271)); DL.ask (mulD x14 y15)); DL.ask (addD x16 y17)); let y19 ← (pure (.int 7919)); DL.ask (addD x18 y19)); let r21 ← pure []; pure (x20 :: r21)); DL.ask (intD r22)); let y24 ← (pure (.int 2305843009213693951)); DL.ask (modD x23 y24)); (pure (.nx v11)))
theorem l__law_bag_d7b5_0 (q3 : D) (c4 : D) : k__law_bag_d7b5_0 q3 c4 = (do let v11 ← (do let x23 ← (do let r22 ← (do let x20 ← (do let x18 ← (do let x16 ← (do let x12 ← (pure q3); let y13 ← (pure (.int 6364136223846793005)); DL.ask (mulD x12 y13)); let y17 ← (do let x14 ← (pure c4); let y15 ← (pure (.int 48271)); DL.ask (mulD x14 y15)); DL.ask (addD x16 y17)); let y19 ← (pure (.int 7919)); DL.ask (addD x18 y19)); let r21 ← pure []; pure (x20 :: r21)); DL.ask (intD r22)); let y24 ← (pure (.int 2305843009213693951)); DL.ask (modD x23 y24)); (pure (.nx v11))) := rfl
def k__law_bag_d7b5_1 (a0 : D) (q26 : D) : R (Fl (Unit) (Empty)) := (do let v46 ← (mkL (do let r45 ← (do let x43 ← (mkL (do let r38 ← (do let r27 ← (pure a0); DL.ask (itD r27)); lcF (fun d => some d) (fun (c29 : D) => (do let x33 ← (do let r32 ← (do let x30 ← (pure c29); let r31 ← pure []; pure (x30 :: r31)); DL.ask (absD r32)); let y34 ← (do let x ← (pure (.int 10)); let y ← (pure (.int 18)); DL.ask (powC x y)); DL.ask ((geD x33 y34).bind bOf))) (fun (c29 : D) => (do let r37 ← (do let x35 ← (pure c29); let r36 ← pure []; pure (x35 :: r36)); DL.ask (absD r37))) r38)); let r44 ← (do let x41 ← (pure q26); let r42 ← (do let x39 ← (pure (.int 0)); let r40 ← pure []; pure (x39 :: r40)); pure (x41 :: r42)); pure (x43 :: r44)); DL.ask (szL r45))); pure (.rt v46))
theorem l__law_bag_d7b5_1 (a0 : D) (q26 : D) : k__law_bag_d7b5_1 a0 q26 = (do let v46 ← (mkL (do let r45 ← (do let x43 ← (mkL (do let r38 ← (do let r27 ← (pure a0); DL.ask (itD r27)); lcF (fun d => some d) (fun (c29 : D) => (do let x33 ← (do let r32 ← (do let x30 ← (pure c29); let r31 ← pure []; pure (x30 :: r31)); DL.ask (absD r32)); let y34 ← (do let x ← (pure (.int 10)); let y ← (pure (.int 18)); DL.ask (powC x y)); DL.ask ((geD x33 y34).bind bOf))) (fun (c29 : D) => (do let r37 ← (do let x35 ← (pure c29); let r36 ← pure []; pure (x35 :: r36)); DL.ask (absD r37))) r38)); let r44 ← (do let x41 ← (pure q26); let r42 ← (do let x39 ← (pure (.int 0)); let r40 ← pure []; pure (x39 :: r40)); pure (x41 :: r42)); pure (x43 :: r44)); DL.ask (szL r45))); pure (.rt v46)) := rfl
def k__law_bag_d7b5_2 (a0 : D) (v1 : D) : R (Fl (Unit) (Empty)) := (do let r47 ← (do let r2 ← (pure a0); DL.ask (itD r2)); seqF (forF (fun d => some d) (fun (q3 : D) (c4 : D) => (do let t25 ← (do let x8 ← (do let r7 ← (do let x5 ← (pure c4); let r6 ← pure []; pure (x5 :: r6)); DL.ask (absD r7)); let y9 ← (do let x ← (pure (.int 10)); let y ← (pure (.int 18)); DL.ask (powC x y)); DL.ask ((ltD x8 y9).bind bOf)); seqF (if t25 = true then (k__law_bag_d7b5_0 q3 c4) else (pure (.nx q3))) fun (q10 : D) => (pure (.nx q10)))) r47 v1) fun (q26 : D) => (k__law_bag_d7b5_1 a0 q26))
theorem l__law_bag_d7b5_2 (a0 : D) (v1 : D) : k__law_bag_d7b5_2 a0 v1 = (do let r47 ← (do let r2 ← (pure a0); DL.ask (itD r2)); seqF (forF (fun d => some d) (fun (q3 : D) (c4 : D) => (do let t25 ← (do let x8 ← (do let r7 ← (do let x5 ← (pure c4); let r6 ← pure []; pure (x5 :: r6)); DL.ask (absD r7)); let y9 ← (do let x ← (pure (.int 10)); let y ← (pure (.int 18)); DL.ask (powC x y)); DL.ask ((ltD x8 y9).bind bOf)); seqF (if t25 = true then (k__law_bag_d7b5_0 q3 c4) else (pure (.nx q3))) fun (q10 : D) => (pure (.nx q10)))) r47 v1) fun (q26 : D) => (k__law_bag_d7b5_1 a0 q26)) := rfl
def b__law_bag_d7b5 (a0 : D) : R (Fl Unit Empty) := (do let v1 ← (pure (.int 1299709)); (k__law_bag_d7b5_2 a0 v1))
theorem e__law_bag_d7b5 (a0 : D) : b__law_bag_d7b5 a0 = (do let r47 ← (DL.ask (itD a0)); seqF (forF (fun d => some d) (fun (q3 : D) (c4 : D) => (do let x8 ← (DL.ask (absD [c4])); let y9 ← (DL.ask (powC (.int 10) (.int 18))); let t25 ← (DL.ask ((ltD x8 y9).bind bOf)); seqF (if t25 = true then (do let x16 ← (DL.ask (mulD q3 (.int 6364136223846793005))); let y17 ← (DL.ask (mulD c4 (.int 48271))); let x18 ← (DL.ask (addD x16 y17)); let x20 ← (DL.ask (addD x18 (.int 7919))); let x23 ← (DL.ask (intD [x20])); let v11 ← (DL.ask (modD x23 (.int 2305843009213693951))); (pure (.nx v11))) else (pure (.nx q3))) fun (q10 : D) => (pure (.nx q10)))) r47 (.int 1299709)) fun (q26 : D) => (do let r38 ← (DL.ask (itD a0)); let x43 ← (lcF (fun d => some d) (fun (c29 : D) => (do let x33 ← (DL.ask (absD [c29])); let y34 ← (DL.ask (powC (.int 10) (.int 18))); DL.ask ((geD x33 y34).bind bOf))) (fun (c29 : D) => (DL.ask (absD [c29]))) r38); let v46 ← (DL.ask (szL [(.lst x43), q26, (.int 0)])); pure (.rt (.lst v46)))) := by
  unfold b__law_bag_d7b5; simp only [l__law_bag_d7b5_0, l__law_bag_d7b5_1, l__law_bag_d7b5_2, pure_bind, bind_assoc, mkL]
def m__law_bag_d7b5 : List D → R D := apR1 fun a0 => (runR false (b__law_bag_d7b5 a0))
def k__law_take_bb49_0 (v19 : D) (a1 : D) : M (Fl (Unit) (Empty)) := (do let v31 ← (do let x41 ← (do let r40 ← (do let x38 ← (do let x36 ← (do let x34 ← (pure v19); let y35 ← (do let x32 ← (pure (.int 32452867)); let y33 ← bagZ; DL.ask (mulD x32 y33)); DL.ask (addD x34 y35)); let y37 ← (pure (.int 2)); DL.ask (powC x36 y37)); let r39 ← pure []; pure (x38 :: r39)); DL.ask (intD r40)); let y42 ← (pure (.int 2305843009213693951)); DL.ask (modD x41 y42)); (do let v50 ← (do let x48 ← (do let r47 ← (do let x45 ← (do let x43 ← (pure v31); let y44 ← (pure (.int 4096)); DL.ask (fdivD x43 y44)); let r46 ← pure []; pure (x45 :: r46)); DL.ask (intD r47)); let y49 ← (pure a1); DL.ask (modD x48 y49)); pure (.rt v50)))
theorem l__law_take_bb49_0 (v19 : D) (a1 : D) : k__law_take_bb49_0 v19 a1 = (do let v31 ← (do let x41 ← (do let r40 ← (do let x38 ← (do let x36 ← (do let x34 ← (pure v19); let y35 ← (do let x32 ← (pure (.int 32452867)); let y33 ← bagZ; DL.ask (mulD x32 y33)); DL.ask (addD x34 y35)); let y37 ← (pure (.int 2)); DL.ask (powC x36 y37)); let r39 ← pure []; pure (x38 :: r39)); DL.ask (intD r40)); let y42 ← (pure (.int 2305843009213693951)); DL.ask (modD x41 y42)); (do let v50 ← (do let x48 ← (do let r47 ← (do let x45 ← (do let x43 ← (pure v31); let y44 ← (pure (.int 4096)); DL.ask (fdivD x43 y44)); let r46 ← pure []; pure (x45 :: r46)); DL.ask (intD r47)); let y49 ← (pure a1); DL.ask (modD x48 y49)); pure (.rt v50))) := rfl
def k__law_take_bb49_1 (a1 : D) : M (Fl (Unit) (Empty)) := (do let v19 ← (do let x29 ← (do let r28 ← (do let x26 ← (do let x24 ← (do let x22 ← bagY3; let y23 ← (do let x20 ← (pure (.int 15485863)); let y21 ← bagZ; DL.ask (mulD x20 y21)); DL.ask (addD x22 y23)); let y25 ← (pure (.int 3)); DL.ask (powC x24 y25)); let r27 ← pure []; pure (x26 :: r27)); DL.ask (intD r28)); let y30 ← (pure (.int 2305843009213693921)); DL.ask (modD x29 y30)); (k__law_take_bb49_0 v19 a1))
theorem l__law_take_bb49_1 (a1 : D) : k__law_take_bb49_1 a1 = (do let v19 ← (do let x29 ← (do let r28 ← (do let x26 ← (do let x24 ← (do let x22 ← bagY3; let y23 ← (do let x20 ← (pure (.int 15485863)); let y21 ← bagZ; DL.ask (mulD x20 y21)); DL.ask (addD x22 y23)); let y25 ← (pure (.int 3)); DL.ask (powC x24 y25)); let r27 ← pure []; pure (x26 :: r27)); DL.ask (intD r28)); let y30 ← (pure (.int 2305843009213693921)); DL.ask (modD x29 y30)); (k__law_take_bb49_0 v19 a1)) := rfl
def k__law_take_bb49_2 (a1 : D) : M (Fl (Unit) (Empty)) := (do let t51 ← bagNe; seqF (if t51 = true then (do let v4 ← (do let x8 ← (do let r7 ← (do let x5 ← bagHd; let r6 ← pure []; pure (x5 :: r6)); DL.ask (intD r7)); let y9 ← (pure a1); DL.ask (modD x8 y9)); (do let v10 ← (do let x11 ← bagHd; let y12 ← (pure a1); DL.ask (fdivD x11 y12)); let i13 ← DL.ask (intOf v10); bagSetHd i13; (do let v14 ← (pure v4); pure (.rt v14)))) else (pure (.nx ()))) fun (q3 : Unit) => (do let v15 ← (do let x16 ← bagZ; let y17 ← (pure (.int 1)); DL.ask (addD x16 y17)); let i18 ← DL.ask (intOf v15); bagSetZ i18; (k__law_take_bb49_1 a1)))
theorem l__law_take_bb49_2 (a1 : D) : k__law_take_bb49_2 a1 = (do let t51 ← bagNe; seqF (if t51 = true then (do let v4 ← (do let x8 ← (do let r7 ← (do let x5 ← bagHd; let r6 ← pure []; pure (x5 :: r6)); DL.ask (intD r7)); let y9 ← (pure a1); DL.ask (modD x8 y9)); (do let v10 ← (do let x11 ← bagHd; let y12 ← (pure a1); DL.ask (fdivD x11 y12)); let i13 ← DL.ask (intOf v10); bagSetHd i13; (do let v14 ← (pure v4); pure (.rt v14)))) else (pure (.nx ()))) fun (q3 : Unit) => (do let v15 ← (do let x16 ← bagZ; let y17 ← (pure (.int 1)); DL.ask (addD x16 y17)); let i18 ← DL.ask (intOf v15); bagSetZ i18; (k__law_take_bb49_1 a1))) := rfl
def b__law_take_bb49 (a1 : D) : M (Fl Unit Empty) := (do bagDrop; (k__law_take_bb49_2 a1))
theorem e__law_take_bb49 (a1 : D) : b__law_take_bb49 a1 = (do bagDrop; let t51 ← bagNe; seqF (if t51 = true then (do let x5 ← bagHd; let x8 ← (DL.ask (intD [x5])); let v4 ← (DL.ask (modD x8 a1)); let x11 ← bagHd; let v10 ← (DL.ask (fdivD x11 a1)); let i13 ← DL.ask (intOf v10); bagSetHd i13; (pure (.rt v4))) else (pure (.nx ()))) fun (q3 : Unit) => (do let x16 ← bagZ; let v15 ← (DL.ask (addD x16 (.int 1))); let i18 ← DL.ask (intOf v15); bagSetZ i18; let x22 ← bagY3; let y21 ← bagZ; let y23 ← (DL.ask (mulD (.int 15485863) y21)); let x24 ← (DL.ask (addD x22 y23)); let x26 ← (DL.ask (powC x24 (.int 3))); let x29 ← (DL.ask (intD [x26])); let v19 ← (DL.ask (modD x29 (.int 2305843009213693921))); let y33 ← bagZ; let y35 ← (DL.ask (mulD (.int 32452867) y33)); let x36 ← (DL.ask (addD v19 y35)); let x38 ← (DL.ask (powC x36 (.int 2))); let x41 ← (DL.ask (intD [x38])); let v31 ← (DL.ask (modD x41 (.int 2305843009213693951))); let x45 ← (DL.ask (fdivD v31 (.int 4096))); let x48 ← (DL.ask (intD [x45])); let v50 ← (DL.ask (modD x48 a1)); pure (.rt v50))) := by
  unfold b__law_take_bb49; simp only [l__law_take_bb49_0, l__law_take_bb49_1, l__law_take_bb49_2, pure_bind, bind_assoc, mkL]
def m__law_take_bb49 : List D → M D := apM1 fun a1 => (runM false (b__law_take_bb49 a1))
theorem n__law_take_bb49 : ∀ ds s, m__law_take_bb49 ds s ≠ .stuck → ds.length = 1 := apM1_len _
def b__law_of_8ba0 (a1 : D) : M (Fl Unit Empty) := (do let v9 ← (do let x7 ← (pure a1); let y8 ← (do let r6 ← (do let x4 ← (do let r3 ← (do let x1 ← (pure a1); let r2 ← pure []; pure (x1 :: r2)); DL.ask (lenD r3)); let r5 ← pure []; pure (x4 :: r5)); m__law_take_bb49 r6); DL.ask (ixD x7 y8)); pure (.rt v9))
theorem e__law_of_8ba0 (a1 : D) : b__law_of_8ba0 a1 = (do let x4 ← (DL.ask (lenD [a1])); let y8 ← (m__law_take_bb49 [x4]); let v9 ← (DL.ask (ixD a1 y8)); pure (.rt v9)) := by
  unfold b__law_of_8ba0; simp only [pure_bind, bind_assoc, mkL]
def m__law_of_8ba0 : List D → M D := apM1 fun a1 => (runM false (b__law_of_8ba0 a1))
theorem n__law_of_8ba0 : ∀ ds s, m__law_of_8ba0 ds s ≠ .stuck → ds.length = 1 := apM1_len _
def k__law_label_b886_0 (a1 : D) (v1 : D) : M (Fl (Unit) (Empty)) := (do let v20 ← (do let x18 ← (pure (.str [])); let _ ← DL.ask (strOf x18); let y19 ← (mkL (do let r17 ← (do let r9 ← (do let x7 ← (do let x5 ← (pure (.int 1)); let y6 ← (do let r4 ← (do let x2 ← (pure a1); let r3 ← pure []; pure (x2 :: r3)); m__law_take_bb49 r4); DL.ask (addD x5 y6)); let r8 ← pure []; pure (x7 :: r8)); DL.ask (rng1 r9)); lcF (fun d => some d) (fun (c11 : D) => pure true) (fun (c11 : D) => (do let x15 ← (pure v1); let y16 ← (do let r14 ← (do let x12 ← (pure (.int 36)); let r13 ← pure []; pure (x12 :: r13)); m__law_take_bb49 r14); DL.ask (ixD x15 y16))) r17)); DL.ask (joinD x18 y19)); pure (.rt v20))
theorem l__law_label_b886_0 (a1 : D) (v1 : D) : k__law_label_b886_0 a1 v1 = (do let v20 ← (do let x18 ← (pure (.str [])); let _ ← DL.ask (strOf x18); let y19 ← (mkL (do let r17 ← (do let r9 ← (do let x7 ← (do let x5 ← (pure (.int 1)); let y6 ← (do let r4 ← (do let x2 ← (pure a1); let r3 ← pure []; pure (x2 :: r3)); m__law_take_bb49 r4); DL.ask (addD x5 y6)); let r8 ← pure []; pure (x7 :: r8)); DL.ask (rng1 r9)); lcF (fun d => some d) (fun (c11 : D) => pure true) (fun (c11 : D) => (do let x15 ← (pure v1); let y16 ← (do let r14 ← (do let x12 ← (pure (.int 36)); let r13 ← pure []; pure (x12 :: r13)); m__law_take_bb49 r14); DL.ask (ixD x15 y16))) r17)); DL.ask (joinD x18 y19)); pure (.rt v20)) := rfl
def b__law_label_b886 (a1 : D) : M (Fl Unit Empty) := (do let v1 ← (pure (.str [48, 49, 50, 51, 52, 53, 54, 55, 56, 57, 97, 98, 99, 100, 101, 102, 103, 104, 105, 106, 107, 108, 109, 110, 111, 112, 113, 114, 115, 116, 117, 118, 119, 120, 121, 122])); (k__law_label_b886_0 a1 v1))
theorem e__law_label_b886 (a1 : D) : b__law_label_b886 a1 = (do let _ ← DL.ask (strOf (.str [])); let y6 ← (m__law_take_bb49 [a1]); let x7 ← (DL.ask (addD (.int 1) y6)); let r17 ← (DL.ask (rng1 [x7])); let y19 ← (lcF (fun d => some d) (fun (c11 : D) => pure true) (fun (c11 : D) => (do let y16 ← (m__law_take_bb49 [(.int 36)]); DL.ask (ixD (.str [48, 49, 50, 51, 52, 53, 54, 55, 56, 57, 97, 98, 99, 100, 101, 102, 103, 104, 105, 106, 107, 108, 109, 110, 111, 112, 113, 114, 115, 116, 117, 118, 119, 120, 121, 122]) y16))) r17); let v20 ← (DL.ask (joinD (.str []) (.lst y19))); pure (.rt v20)) := by
  unfold b__law_label_b886; simp only [l__law_label_b886_0, pure_bind, bind_assoc, mkL]
def m__law_label_b886 : List D → M D := apM1 fun a1 => (runM false (b__law_label_b886 a1))
theorem n__law_label_b886 : ∀ ds s, m__law_label_b886 ds s ≠ .stuck → ds.length = 1 := apM1_len _
def k__law_pool_b280_0 (v1 : D) : M (Fl (Unit) (Empty)) := (do let v21 ← (mkL (do let r20 ← (do let r14 ← (do let x12 ← (do let x10 ← (pure (.int 2)); let y11 ← (do let r9 ← (do let x7 ← (pure (.int 2)); let r8 ← pure []; pure (x7 :: r8)); m__law_take_bb49 r9); DL.ask (addD x10 y11)); let r13 ← pure []; pure (x12 :: r13)); DL.ask (rng1 r14)); lcF (fun d => some d) (fun (c16 : D) => pure true) (fun (c16 : D) => (do let r19 ← (do let x17 ← (pure v1); let r18 ← pure []; pure (x17 :: r18)); m__law_label_b886 r19)) r20)); pure (.rt v21))
theorem l__law_pool_b280_0 (v1 : D) : k__law_pool_b280_0 v1 = (do let v21 ← (mkL (do let r20 ← (do let r14 ← (do let x12 ← (do let x10 ← (pure (.int 2)); let y11 ← (do let r9 ← (do let x7 ← (pure (.int 2)); let r8 ← pure []; pure (x7 :: r8)); m__law_take_bb49 r9); DL.ask (addD x10 y11)); let r13 ← pure []; pure (x12 :: r13)); DL.ask (rng1 r14)); lcF (fun d => some d) (fun (c16 : D) => pure true) (fun (c16 : D) => (do let r19 ← (do let x17 ← (pure v1); let r18 ← pure []; pure (x17 :: r18)); m__law_label_b886 r19)) r20)); pure (.rt v21)) := rfl
def b__law_pool_b280 (a1 : D) : M (Fl Unit Empty) := (do let v1 ← (iteM (do let x5 ← (do let r4 ← (do let x2 ← (pure (.int 8)); let r3 ← pure []; pure (x2 :: r3)); m__law_take_bb49 r4); let y6 ← (pure (.int 7)); DL.ask ((eqD x5 y6).bind bOf)) (pure a1) (pure (.int 2))); (k__law_pool_b280_0 v1))
theorem e__law_pool_b280 (a1 : D) : b__law_pool_b280 a1 = (do let v1 ← (iteM (do let x5 ← (m__law_take_bb49 [(.int 8)]); DL.ask ((eqD x5 (.int 7)).bind bOf)) (pure a1) (pure (.int 2))); let y11 ← (m__law_take_bb49 [(.int 2)]); let x12 ← (DL.ask (addD (.int 2) y11)); let r20 ← (DL.ask (rng1 [x12])); let v21 ← (lcF (fun d => some d) (fun (c16 : D) => pure true) (fun (c16 : D) => (m__law_label_b886 [v1])) r20); pure (.rt (.lst v21))) := by
  unfold b__law_pool_b280; simp only [l__law_pool_b280_0, pure_bind, bind_assoc, mkL]
def m__law_pool_b280 : List D → M D := apM1 fun a1 => (runM false (b__law_pool_b280 a1))
theorem n__law_pool_b280 : ∀ ds s, m__law_pool_b280 ds s ≠ .stuck → ds.length = 1 := apM1_len _
def k__law_row_f25d_0 (v1 : D) (v14 : D) (a1 : D) : M (Fl (Unit) (Empty)) := (do let v57 ← (do let x55 ← (pure v1); let y56 ← (do let x53 ← (pure (.str [46])); let _ ← DL.ask (strOf x53); let y54 ← (mkL (do let r52 ← (do let r46 ← (do let x44 ← (pure v14); let r45 ← pure []; pure (x44 :: r45)); DL.ask (rng1 r46)); lcF (fun d => some d) (fun (c48 : D) => pure true) (fun (c48 : D) => (do let r51 ← (do let x49 ← (pure a1); let r50 ← pure []; pure (x49 :: r50)); m__law_of_8ba0 r51)) r52)); DL.ask (joinD x53 y54)); DL.ask (addD x55 y56)); pure (.rt v57))
theorem l__law_row_f25d_0 (v1 : D) (v14 : D) (a1 : D) : k__law_row_f25d_0 v1 v14 a1 = (do let v57 ← (do let x55 ← (pure v1); let y56 ← (do let x53 ← (pure (.str [46])); let _ ← DL.ask (strOf x53); let y54 ← (mkL (do let r52 ← (do let r46 ← (do let x44 ← (pure v14); let r45 ← pure []; pure (x44 :: r45)); DL.ask (rng1 r46)); lcF (fun d => some d) (fun (c48 : D) => pure true) (fun (c48 : D) => (do let r51 ← (do let x49 ← (pure a1); let r50 ← pure []; pure (x49 :: r50)); m__law_of_8ba0 r51)) r52)); DL.ask (joinD x53 y54)); DL.ask (addD x55 y56)); pure (.rt v57)) := rfl
def k__law_row_f25d_1 (v1 : D) (a1 : D) : M (Fl (Unit) (Empty)) := (do let v14 ← (do let r43 ← (do let x41 ← (do let x39 ← (do let r38 ← (do let x36 ← (mkL (do let r35 ← (do let x33 ← (pure (.int 1)); let r34 ← (do let x31 ← (pure (.int 2)); let r32 ← (do let x29 ← (pure (.int 3)); let r30 ← pure []; pure (x29 :: r30)); pure (x31 :: r32)); pure (x33 :: r34)); DL.ask (szL r35))); let r37 ← (do let x27 ← (mkL (do let r26 ← (do let x24 ← (pure (.int 1)); let r25 ← (do let x22 ← (pure (.int 2)); let r23 ← pure []; pure (x22 :: r23)); pure (x24 :: r25)); DL.ask (szL r26))); let r28 ← (do let x20 ← (mkL (do let r19 ← (do let x17 ← (pure (.int 2)); let r18 ← (do let x15 ← (pure (.int 3)); let r16 ← pure []; pure (x15 :: r16)); pure (x17 :: r18)); DL.ask (szL r19))); let r21 ← (pure []); pure (x20 :: r21)); pure (x27 :: r28)); pure (x36 :: r37)); DL.ask (dicK [[], [42, 46], [33]] r38)); let y40 ← (pure v1); DL.ask (dgetD x39 y40)); let r42 ← pure []; pure (x41 :: r42)); m__law_of_8ba0 r43); (k__law_row_f25d_0 v1 v14 a1))
theorem l__law_row_f25d_1 (v1 : D) (a1 : D) : k__law_row_f25d_1 v1 a1 = (do let v14 ← (do let r43 ← (do let x41 ← (do let x39 ← (do let r38 ← (do let x36 ← (mkL (do let r35 ← (do let x33 ← (pure (.int 1)); let r34 ← (do let x31 ← (pure (.int 2)); let r32 ← (do let x29 ← (pure (.int 3)); let r30 ← pure []; pure (x29 :: r30)); pure (x31 :: r32)); pure (x33 :: r34)); DL.ask (szL r35))); let r37 ← (do let x27 ← (mkL (do let r26 ← (do let x24 ← (pure (.int 1)); let r25 ← (do let x22 ← (pure (.int 2)); let r23 ← pure []; pure (x22 :: r23)); pure (x24 :: r25)); DL.ask (szL r26))); let r28 ← (do let x20 ← (mkL (do let r19 ← (do let x17 ← (pure (.int 2)); let r18 ← (do let x15 ← (pure (.int 3)); let r16 ← pure []; pure (x15 :: r16)); pure (x17 :: r18)); DL.ask (szL r19))); let r21 ← (pure []); pure (x20 :: r21)); pure (x27 :: r28)); pure (x36 :: r37)); DL.ask (dicK [[], [42, 46], [33]] r38)); let y40 ← (pure v1); DL.ask (dgetD x39 y40)); let r42 ← pure []; pure (x41 :: r42)); m__law_of_8ba0 r43); (k__law_row_f25d_0 v1 v14 a1)) := rfl
def k__law_row_f25d_2 (a1 : D) : M (Fl (Unit) (Empty)) := (do let v1 ← (do let r13 ← (do let x11 ← (mkL (do let r10 ← (do let x8 ← (pure (.str [])); let r9 ← (do let x6 ← (pure (.str [])); let r7 ← (do let x4 ← (pure (.str [42, 46])); let r5 ← (do let x2 ← (pure (.str [33])); let r3 ← pure []; pure (x2 :: r3)); pure (x4 :: r5)); pure (x6 :: r7)); pure (x8 :: r9)); DL.ask (szL r10))); let r12 ← pure []; pure (x11 :: r12)); m__law_of_8ba0 r13); (k__law_row_f25d_1 v1 a1))
theorem l__law_row_f25d_2 (a1 : D) : k__law_row_f25d_2 a1 = (do let v1 ← (do let r13 ← (do let x11 ← (mkL (do let r10 ← (do let x8 ← (pure (.str [])); let r9 ← (do let x6 ← (pure (.str [])); let r7 ← (do let x4 ← (pure (.str [42, 46])); let r5 ← (do let x2 ← (pure (.str [33])); let r3 ← pure []; pure (x2 :: r3)); pure (x4 :: r5)); pure (x6 :: r7)); pure (x8 :: r9)); DL.ask (szL r10))); let r12 ← pure []; pure (x11 :: r12)); m__law_of_8ba0 r13); (k__law_row_f25d_1 v1 a1)) := rfl
def b__law_row_f25d (a1 : D) : M (Fl Unit Empty) := (k__law_row_f25d_2 a1)
theorem e__law_row_f25d (a1 : D) : b__law_row_f25d a1 = (do let x11 ← (DL.ask (szL [(.str []), (.str []), (.str [42, 46]), (.str [33])])); let v1 ← (m__law_of_8ba0 [(.lst x11)]); let x36 ← (DL.ask (szL [(.int 1), (.int 2), (.int 3)])); let x27 ← (DL.ask (szL [(.int 1), (.int 2)])); let x20 ← (DL.ask (szL [(.int 2), (.int 3)])); let x39 ← (DL.ask (dicK [[], [42, 46], [33]] [(.lst x36), (.lst x27), (.lst x20)])); let x41 ← (DL.ask (dgetD x39 v1)); let v14 ← (m__law_of_8ba0 [x41]); let _ ← DL.ask (strOf (.str [46])); let r52 ← (DL.ask (rng1 [v14])); let y54 ← (lcF (fun d => some d) (fun (c48 : D) => pure true) (fun (c48 : D) => (m__law_of_8ba0 [a1])) r52); let y56 ← (DL.ask (joinD (.str [46]) (.lst y54))); let v57 ← (DL.ask (addD v1 y56)); pure (.rt v57)) := by
  unfold b__law_row_f25d; simp only [l__law_row_f25d_0, l__law_row_f25d_1, l__law_row_f25d_2, pure_bind, bind_assoc, mkL]
def m__law_row_f25d : List D → M D := apM1 fun a1 => (runM false (b__law_row_f25d a1))
theorem n__law_row_f25d : ∀ ds s, m__law_row_f25d ds s ≠ .stuck → ds.length = 1 := apM1_len _
end FN
/-! ### plain laws with the wide bag: the draws are counted -/
namespace DL
def InvW (s : S) : Prop := s.w = true ∧ s.l.length ≤ 1000 ∧ 0 ≤ s.y ∧ s.y < 2305843009213693951 ∧ 0 ≤ s.z
/-- x answers after at most K draws -/
def Bk {α : Type} (K : Nat) (x : M α) (Q : α → Prop) : Prop := ∀ s, InvW s → s.z + K ≤ 100000000000 → ∃ a s', x s = .ok a s' ∧ InvW s' ∧ s'.z ≤ s.z + K ∧ Q a
section
variable {α β γ : Type} {Q : β → Prop} {P : α → Prop} {K K1 : Nat}
theorem bk_pure {a : β} (h : Q a) : Bk K (pure a : M β) Q := fun s i _ => ⟨a, s, rfl, i, by omega, h⟩
theorem bk_mono {x : M α} {P' : α → Prop} (h : Bk K1 x P) (w : ∀ a, P a → P' a) (hk : K1 ≤ K := by omega) : Bk K x P' := fun s i b => by
  obtain ⟨a, s', e, i', z, q⟩ := h s i (by omega)
  exact ⟨a, s', e, i', by omega, w a q⟩
theorem bk_then {x : M α} {f : α → M β} (h : Bk K1 x P) (w : ∀ a, P a → Bk (K - K1) (f a) Q) (hk : K1 ≤ K := by omega) : Bk K (x >>= f) Q := fun s i b => by
  obtain ⟨a, s', e, i', z, q⟩ := h s i (by omega)
  obtain ⟨b, s2, e2, i2, z2, q2⟩ := w a q s' i' (by omega)
  refine ⟨b, s2, ?_, i2, by omega, q2⟩
  show (x s).bd f = _
  rw [e]; exact e2
theorem bk_ask {o : Option α} {a : α} (e : o = some a) (h : P a) : Bk K (ask o : M α) P := by subst e; exact bk_pure h
theorem bk_noex {x : M α} (h : Bk K x P) : Bk K (Mo.noex x) P := fun s i b => by
  obtain ⟨a, s', e, i', z, q⟩ := h s i b
  refine ⟨a, s', ?_, i', z, q⟩
  show (x s).nx = _
  rw [e]; rfl
theorem bk_ite {c : Prop} [Decidable c] {x y : M α} (h1 : c → Bk K x P) (h2 : ¬ c → Bk K y P) : Bk K (if c then x else y) P := by
  by_cases h : c
  · rw [if_pos h]; exact h1 h
  · rw [if_neg h]; exact h2 h
theorem bk_runM {nr : Bool} {x : M (Fl Unit Empty)} {Q : D → Prop} (h : Bk K x (FlQ nr Q)) : Bk K (runM nr x) Q := fun s i b => by
  obtain ⟨a, s', e, i', z, q⟩ := h s i b
  unfold runM
  rw [e]
  cases a with
  | nx a =>
    obtain ⟨q1, q2⟩ := q
    subst q1
    exact ⟨.non, s', rfl, i', z, q2⟩
  | rt d => exact ⟨d, s', rfl, i', z, q⟩
  | bk b => exact b.elim
  | ct b => exact b.elim
theorem bk_seqP {x : M (Fl α β)} {k : α → M (Fl γ β)} {Q : Fl γ β → Prop} (P : α → Prop) (h : Bk K1 x (SeqQ P Q)) (w : ∀ a, P a → Bk (K - K1) (k a) Q) (hk : K1 ≤ K := by omega) : Bk K (seqF x k) Q := bk_then h (fun f q => by
  cases f with
  | nx a => exact w a q
  | rt d => exact bk_pure q
  | bk b => exact bk_pure q
  | ct b => exact bk_pure q) hk
/-- c draws a turn -/
theorem bk_for {u : D → Option γ} {xb : α → γ → M (Fl α α)} {Q : Fl α β → Prop} (c : Nat) (I : Nat → α → Prop) (ds : List D) (a0 : α) (h0 : I 0 a0) (hs : ∀ i d a, ds[i]? = some d → I i a → ∃ c', u d = some c' ∧ Bk c (xb a c') (TurnQ (I (i + 1)) Q)) (he : ∀ a, I ds.length a → Q (.nx a)) {n : Nat} (hl : ds.length ≤ n) (hk : c * n ≤ K := by omega) : Bk K (forF u xb ds a0) Q := by
  have hk' : c * ds.length ≤ K := Nat.le_trans (Nat.mul_le_mul_left c hl) hk
  clear hk hl
  induction ds generalizing I a0 K with
  | nil => exact bk_pure (he _ h0)
  | cons d ds ih =>
    unfold forF
    obtain ⟨c', e, h⟩ := hs 0 d a0 rfl h0
    rw [e]
    rw [List.length_cons, Nat.mul_add, Nat.mul_one] at hk'
    have ih' := fun (a : α) (q : I 1 a) => ih (fun i => I (i + 1)) a q (fun i d' a' e' q' => hs (i + 1) d' a' (by simpa using e') q') (fun a q => he a (by simpa using q)) (K := K - c) (by omega)
    show Bk K (xb a0 c' >>= _) Q
    refine bk_then h (fun f q => ?_) (by omega)
    cases f with
    | nx a => exact ih' a q
    | ct a => exact ih' a q
    | bk a => exact bk_pure q
    | rt d => exact bk_pure q
theorem bk_lc {u : D → Option γ} {xe : γ → M D} {P : D → D → Prop} (c : Nat) : ∀ (ds : List D) {K : Nat}, (∀ d ∈ ds, ∃ c', u d = some c' ∧ Bk c (xe c') (P d)) → ∀ {n : Nat}, ds.length ≤ n → c * n ≤ K → Bk K (lcF u (fun _ => pure true) xe ds) fun rs => All2 P ds rs
  | [], K, _, _, _, _ => bk_pure .nil
  | d :: ds, K, h, n, hl, hk => by
    have hk' : c * ds.length + c ≤ K := by
      have := Nat.le_trans (Nat.mul_le_mul_left c hl) hk
      rwa [List.length_cons, Nat.mul_add, Nat.mul_one] at this
    unfold lcF
    obtain ⟨c', e, hx⟩ := h d (.head _)
    rw [e]
    show Bk K (Mo.noex (xe c') >>= _) _
    exact bk_then (bk_noex hx) (fun y py => bk_then (bk_lc c ds (K := K - c) (fun x m => h x (.tail _ m)) (Nat.le_refl _) (by omega)) (fun r pr => bk_pure (.cons py pr)) (Nat.le_refl _)) (by omega)
theorem bk_iteM {t : M Bool} {x y : M α} (ht : Bk K1 t fun _ => True) (hx : Bk (K - K1) x P) (hy : Bk (K - K1) y P) (hk : K1 ≤ K := by omega) : Bk K (iteM t x y) P := bk_then ht (fun b _ => by
  cases b
  · exact hy
  · exact hx) hk
end
/-! the bag -/
theorem drop_len (l : List Int) : (l.dropWhile fun i => i == 0).length ≤ l.length := (List.dropWhile_sublist _).length_le
theorem okr_bagW {α β : Type} {y : Int} {l : List Int} {k : M (Fl α β)} {Q : Fl α β → Prop} {K : Nat} (hl : l.length ≤ 1000) (h0 : 0 ≤ y) (h1 : y < 2305843009213693951) (h : Bk K k Q) (hk : K ≤ 100000000000 := by omega) : OkR (withBagW (.lst [.lst (l.map .int), .int y, .int 0]) k) Q := by
  obtain ⟨a, s', e, _, _, q⟩ := h ⟨0, y, 0, l, true⟩ ⟨rfl, hl, h0, h1, Int.le_refl 0⟩ (by show (0:Int) + _ ≤ _; omega)
  refine ⟨a, ?_, q⟩
  unfold withBagW
  simp only [intsOf_map, e]
end DL
namespace FN
open DL
/-- one state -/
def MW {α : Type} (x : M α) (s : S) (Q : α → S → Prop) : Prop := ∃ a s', x s = .ok a s' ∧ Q a s'
theorem mw_bind {α β : Type} {x : M α} {f : α → M β} {s : S} {Q : β → S → Prop} (h : MW x s fun a s' => MW (f a) s' Q) : MW (x >>= f) s Q := by
  obtain ⟨a, s', e, b, s2, e2, q⟩ := h
  refine ⟨b, s2, ?_, q⟩
  show (x s).bd f = _
  rw [e]; exact e2
theorem mw_ask {α : Type} {o : Option α} {a : α} {s : S} {Q : α → S → Prop} (e : o = some a) (h : Q a s) : MW (ask o) s Q := by subst e; exact ⟨a, s, rfl, h⟩
theorem mw_pure {α : Type} {a : α} {s : S} {Q : α → S → Prop} (h : Q a s) : MW (pure a) s Q := ⟨a, s, rfl, h⟩
theorem pow_ii {i : Int} {j : Nat} (h0 : j ≤ 100) (h : i.natAbs < 2 ^ 64) : powC (.int i) (.int j) = some (.int (i ^ j)) := by
  show (if 0 ≤ (j : Int) ∧ (j : Int) ≤ 100 ∧ i.natAbs < 2 ^ 64 then some (D.int (i ^ (j : Int).toNat)) else none) = _
  rw [if_pos ⟨by omega, by omega, h⟩, Int.toNat_natCast]
theorem take_okW {n : Int} (h0 : 0 < n) (h1 : n < 4294967296) : Bk 1 (m__law_take_bb49 [.int n]) fun d => ∃ i, d = .int i ∧ 0 ≤ i ∧ i < n := by
  refine bk_runM ?_
  rw [e__law_take_bb49]
  intro s i b
  have key : MW (do bagDrop; let t51 ← bagNe; seqF (if t51 = true then (do let x5 ← bagHd; let x8 ← (DL.ask (intD [x5])); let v4 ← (DL.ask (modD x8 (.int n))); let x11 ← bagHd; let v10 ← (DL.ask (fdivD x11 (.int n))); let i13 ← DL.ask (intOf v10); bagSetHd i13; (pure (.rt v4))) else (pure (.nx ()))) fun (q3 : Unit) => (do let x16 ← bagZ; let v15 ← (DL.ask (addD x16 (.int 1))); let i18 ← DL.ask (intOf v15); bagSetZ i18; let x22 ← bagY3; let y21 ← bagZ; let y23 ← (DL.ask (mulD (.int 15485863) y21)); let x24 ← (DL.ask (addD x22 y23)); let x26 ← (DL.ask (powC x24 (.int 3))); let x29 ← (DL.ask (intD [x26])); let v19 ← (DL.ask (modD x29 (.int 2305843009213693921))); let y33 ← bagZ; let y35 ← (DL.ask (mulD (.int 32452867) y33)); let x36 ← (DL.ask (addD v19 y35)); let x38 ← (DL.ask (powC x36 (.int 2))); let x41 ← (DL.ask (intD [x38])); let v31 ← (DL.ask (modD x41 (.int 2305843009213693951))); let x45 ← (DL.ask (fdivD v31 (.int 4096))); let x48 ← (DL.ask (intD [x45])); let v50 ← (DL.ask (modD x48 (.int n))); pure (.rt v50)) : M (Fl Unit Empty)) s (fun a s' => InvW s' ∧ s'.z ≤ s.z + (1 : Nat) ∧ FlQ false (fun d => ∃ i, d = .int i ∧ 0 ≤ i ∧ i < n) a) := by
    have hm : ∀ j : Int, FlQ false (fun d => ∃ i, d = .int i ∧ 0 ≤ i ∧ i < n) (.rt (.int (j % n))) := fun j => ⟨_, rfl, Int.emod_nonneg _ (by omega), Int.emod_lt_of_pos _ h0⟩
    obtain ⟨iw, il, iy, iy2, iz⟩ := i
    refine mw_bind ⟨(), { s with l := s.l.dropWhile fun i => i == 0 }, by unfold bagDrop; rw [if_pos ⟨iw, il⟩], ?_⟩
    have il2 := Nat.le_trans (drop_len s.l) il
    generalize s.l.dropWhile (fun i => i == 0) = l at il2
    refine mw_bind ⟨!l.isEmpty, { s with l := l }, by unfold bagNe; rw [if_pos ⟨iw, il2⟩], ?_⟩
    cases l with
    | cons t l =>
      refine mw_bind ⟨.rt (.int (t % n)), { s with l := (t / n) :: l }, ?_, mw_pure ⟨⟨iw, by simpa using il2, iy, iy2, iz⟩, by show s.z ≤ _; omega, hm t⟩⟩
      show (do let x5 ← bagHd; let x8 ← (DL.ask (intD [x5])); let v4 ← (DL.ask (modD x8 (.int n))); let x11 ← bagHd; let v10 ← (DL.ask (fdivD x11 (.int n))); let i13 ← DL.ask (intOf v10); bagSetHd i13; (pure (.rt v4)) : M (Fl Unit Empty)) _ = _
      have hh : bagHd { s with l := t :: l } = .ok (.int t) { s with l := t :: l } := by unfold bagHd; simp only [iw]
      have hs : bagSetHd (t / n) { s with l := t :: l } = .ok () { s with l := (t / n) :: l } := by unfold bagSetHd; simp only [iw]
      rw [M.bind_ap, hh]
      show (do let x8 ← (DL.ask (intD [D.int t])); let v4 ← (DL.ask (modD x8 (.int n))); let x11 ← bagHd; let v10 ← (DL.ask (fdivD x11 (.int n))); let i13 ← DL.ask (intOf v10); bagSetHd i13; (pure (.rt v4)) : M (Fl Unit Empty)) _ = _
      simp only [int_int, askM, pure_bind, mod_ii h0]
      rw [M.bind_ap, hh]
      show (do let v10 ← (DL.ask (fdivD (D.int t) (.int n))); let i13 ← DL.ask (intOf v10); bagSetHd i13; (pure (.rt (.int (t % n)))) : M (Fl Unit Empty)) _ = _
      simp only [fdiv_ii h0 (by omega : n.natAbs < 2 ^ 64), int_of, askM, pure_bind]
      rw [M.bind_ap, hs]
      rfl
    | nil =>
      refine mw_bind ⟨.nx (), { s with l := [] }, rfl, ?_⟩
      show MW (do let x16 ← bagZ; _) _ _
      refine mw_bind ⟨.int s.z, { s with l := [] }, by unfold bagZ; rw [if_pos iw], ?_⟩
      refine mw_bind (mw_ask add_ii (mw_bind (mw_ask (int_of) (mw_bind ⟨(), { s with l := [], z := s.z + 1 }, by unfold bagSetZ; rw [if_pos iw], ?_⟩))))
      refine mw_bind ⟨.int s.y, { s with l := [], z := s.z + 1 }, by unfold bagY3; rw [if_pos iw], ?_⟩
      refine mw_bind ⟨.int (s.z + 1), { s with l := [], z := s.z + 1 }, by unfold bagZ; rw [if_pos iw], ?_⟩
      refine mw_bind (mw_ask (mul_ii (by omega) (by omega)) (mw_bind (mw_ask add_ii (mw_bind (mw_ask (pow_ii (j := 3) (by omega) (by omega)) (mw_bind (mw_ask int_int (mw_bind (mw_ask (mod_ii (by omega)) ?_)))))))))
      refine mw_bind ⟨.int (s.z + 1), { s with l := [], z := s.z + 1 }, by unfold bagZ; rw [if_pos iw], ?_⟩
      have g0 := Int.emod_nonneg ((s.y + 15485863 * (s.z + 1)) ^ 3) (by omega : (2305843009213693921 : Int) ≠ 0)
      have g1 := Int.emod_lt_of_pos ((s.y + 15485863 * (s.z + 1)) ^ 3) (by omega : (0 : Int) < 2305843009213693921)
      generalize (s.y + 15485863 * (s.z + 1)) ^ 3 % 2305843009213693921 = g at g0 g1
      refine mw_bind (mw_ask (mul_ii (by omega) (by omega)) (mw_bind (mw_ask add_ii (mw_bind (mw_ask (pow_ii (j := 2) (by omega) (by omega)) (mw_bind (mw_ask int_int (mw_bind (mw_ask (mod_ii (by omega)) ?_)))))))))
      refine mw_bind (mw_ask (fdiv_ii (by omega) (by omega)) (mw_bind (mw_ask int_int (mw_bind (mw_ask (mod_ii h0) (mw_pure ⟨⟨iw, by simp, iy, iy2, by show 0 ≤ s.z + 1; omega⟩, by show s.z + 1 ≤ _; omega, hm _⟩))))))
  obtain ⟨a, s', e, q⟩ := key
  exact ⟨a, s', e, q⟩
theorem of_okW {ds : List D} (h0 : ds ≠ []) (h1 : ds.length ≤ 1000000) : Bk 1 (m__law_of_8ba0 [.lst ds]) fun d => d ∈ ds := by
  refine bk_runM ?_
  rw [e__law_of_8ba0]
  have hp : 0 < ds.length := List.length_pos_iff.mpr h0
  simp only [len_lst, askM, pure_bind]
  refine bk_then (take_okW (n := ds.length) (by omega) (by omega)) ?_
  rintro d ⟨i, rfl, h2, h3⟩
  simp only [ix_lst h2 h3, askM, pure_bind]
  exact bk_pure (List.getElem_mem _)
theorem ints_of : ∀ L : List D, (∀ z ∈ L, ∃ i : Int, z = .int i) → ∃ l : List Int, L = l.map .int ∧ l.length = L.length
  | [], _ => ⟨[], rfl, rfl⟩
  | d :: L, h => by
    obtain ⟨i, rfl⟩ := h d (.head _)
    obtain ⟨l, e, hl⟩ := ints_of L fun z m => h z (.tail _ m)
    exact ⟨i :: l, by rw [e]; rfl, by simp [hl]⟩
def intP : D → Bool
  | .int i => decide ((1000000000000000000 : Int) ≤ if i < 0 then -i else i)
  | _ => false
def intA : D → D
  | .int i => .int (if i < 0 then -i else i)
  | d => d
theorem bag_okW (ns : List Int) (hn : ns.length ≤ 63) : OkR (m__law_bag_d7b5 [.scr ns]) fun d => ∃ (l : List Int) (y : Int), d = .lst [.lst (l.map .int), .int y, .int 0] ∧ l.length ≤ 1000 ∧ 0 ≤ y ∧ y < 2305843009213693951 := by
  have e3 : powC (.int 10) (.int 18) = some (.int 1000000000000000000) := rfl
  have il : itD (.scr ns) = some (ns.map .int) := rfl
  refine okr_runR ?_
  simp only [e__law_bag_d7b5, il, askR, pure_bind]
  refine okr_seqP (fun q => ∃ y : Int, q = .int y ∧ 0 ≤ y ∧ y < 2305843009213693951) (okr_for (fun _ (q : D) => ∃ y : Int, q = .int y ∧ 0 ≤ y ∧ y < 2305843009213693951) _ _ ⟨_, rfl, by omega, by omega⟩ (fun k d q hd hq => ⟨d, rfl, ?_⟩) (fun q hq => by obtain ⟨y, h⟩ := hq; exact ⟨y, h⟩)) ?_
  · obtain ⟨y, rfl, y0, y1⟩ := hq
    rw [List.getElem?_map] at hd
    cases e : ns[k]? with
    | none => rw [e] at hd; cases hd
    | some c =>
      rw [e] at hd
      cases hd
      simp only [abs_i, e3, askR, pure_bind, lt_ii, Option.bind_some, bOf_bl]
      refine okr_seqP (fun q => ∃ y : Int, q = .int y ∧ 0 ≤ y ∧ y < 2305843009213693951) ?_ (fun q hq => okr_p hq)
      by_cases c1 : (if c < 0 then -c else c) < 1000000000000000000
      · have c2 : c.natAbs < 2 ^ 64 := by split at c1 <;> omega
        simp only [decide_eq_true c1, if_true, mul_ii (i := y) (j := 6364136223846793005) (by omega) (by omega), mul_ii (i := c) (j := 48271) c2 (by omega), askR, pure_bind, add_ii, int_int, mod_ii (j := 2305843009213693951) (by omega)]
        exact okr_p ⟨_, rfl, Int.emod_nonneg _ (by omega), Int.emod_lt_of_pos _ (by omega)⟩
      · simp only [decide_eq_false c1, Bool.false_eq_true, if_false]
        exact okr_p ⟨y, rfl, y0, y1⟩
  rintro q ⟨y, rfl, y0, y1⟩
  have lc := lcR (u := fun d => some d) (xt := fun (c29 : D) => (do let x33 ← (DL.ask (absD [c29])); let y34 ← (DL.ask (powC (.int 10) (.int 18))); DL.ask ((geD x33 y34).bind bOf))) (xe := fun (c29 : D) => (DL.ask (absD [c29]))) (c := fun d => d) (p := intP) (f := intA) (ns.map .int) (fun _ _ => rfl) (fun d m => by
    obtain ⟨i, _, rfl⟩ := List.mem_map.mp m
    rfl) (fun d m _ => by
    obtain ⟨i, _, rfl⟩ := List.mem_map.mp m
    rfl)
  rw [lc]
  obtain ⟨l, el, hl⟩ := ints_of (((ns.map .int).filter intP).map intA) fun z m => by
    obtain ⟨d, hd, rfl⟩ := List.mem_map.mp m
    obtain ⟨i, _, rfl⟩ := List.mem_map.mp (List.mem_filter.mp hd).1
    exact ⟨_, rfl⟩
  have hl2 : l.length ≤ 63 := by
    rw [hl, List.length_map]
    exact Nat.le_trans (List.length_filter_le _ _) (by rw [List.length_map]; exact hn)
  rw [el, okpR]
  simp only [pure_bind]
  rw [sz_ok (by simp)]
  simp only [askR, pure_bind]
  exact okr_p ⟨l, y, rfl, by omega, y0, y1⟩
theorem all2_chrs : ∀ {ds rs : List D}, All2 (fun _ r => ∃ c ∈ CH, r = D.str [c]) ds rs → ∃ z : List Nat, rs = chrs z ∧ z.length = ds.length ∧ ∀ c ∈ z, c ∈ CH
  | _, _, .nil => ⟨[], rfl, rfl, by simp⟩
  | _, _, .cons ⟨c, hc, e⟩ t => by
    obtain ⟨z, rfl, hl, hz⟩ := all2_chrs t
    subst e
    exact ⟨c :: z, rfl, by simp [hl], fun x m => by
      rcases List.mem_cons.mp m with rfl | m
      · exact hc
      · exact hz x m⟩
theorem label_okW {m : Int} (m1 : 1 ≤ m) (m2 : m ≤ 20) : Bk 21 (m__law_label_b886 [.int m]) fun d => ∃ z, d = .str z ∧ isLab m.toNat z = true := by
  refine bk_runM ?_
  simp only [e__law_label_b886, str_of, askM, pure_bind]
  refine bk_then (take_okW (n := m) (by omega) (by omega)) ?_
  rintro d ⟨k, rfl, k0, k1⟩
  simp only [add_ii, askM, pure_bind]
  rw [rng1_ok (by omega) (by omega)]
  simp only [askM, pure_bind]
  refine bk_then (K1 := 20) (bk_lc (P := fun _ r => ∃ c ∈ CH, r = D.str [c]) 1 _ (fun d _ => ⟨d, rfl, ?_⟩) (n := 20) (by rw [range_len]; omega) (by omega)) ?_
  · refine bk_then (take_okW (n := 36) (by omega) (by omega)) ?_
    rintro d ⟨i, rfl, i0, i1⟩
    obtain ⟨c, hc, e⟩ := ix_str (z := CH) i0 (by rw [ch36]; exact i1)
    exact bk_ask e ⟨c, hc, rfl⟩
  intro rs hrs
  obtain ⟨z, rfl, hl, hz⟩ := all2_chrs hrs
  rw [range_len] at hl
  rw [join_chrs (by omega)]
  simp only [askM, pure_bind]
  exact bk_pure ⟨z, rfl, isLab_iff.mpr ⟨by omega, by omega, hz⟩⟩
theorem of_labW {zs : List (List Nat)} (h : Lab8 zs) : Bk 1 (m__law_of_8ba0 [.lst (zs.map .str)]) fun d => ∃ z, d = .str z ∧ isLab 20 z = true :=
  bk_mono (of_okW (by simpa using h.1) (by rw [List.length_map]; have := h.2.1; omega)) fun d hd => by
    obtain ⟨z, hz, rfl⟩ := List.mem_map.mp hd
    exact ⟨z, rfl, h.2.2 z hz⟩
end FN
/-! ### tables with the wide bag (k63, k64, k66) -/
namespace FN
open DL PySem PySem.W
theorem pool_okX : Bk 70 (m__law_pool_b280 [.int 20]) fun d => ∃ zs : List (List Nat), d = .lst (zs.map .str) ∧ Lab8 zs := by
  refine bk_runM ?_
  simp only [e__law_pool_b280]
  refine bk_then (K1 := 1) (P := fun d => ∃ m : Int, d = .int m ∧ 1 ≤ m ∧ m ≤ 20) ?_ ?_
  · refine bk_iteM (K1 := 1) (bk_then (take_okW (n := 8) (by omega) (by omega)) fun d hd => by
      obtain ⟨j, rfl, _, _⟩ := hd
      exact bk_ask (by rfl) trivial) (bk_pure ⟨20, rfl, by omega, by omega⟩) (bk_pure ⟨2, rfl, by omega, by omega⟩)
  rintro d ⟨m, rfl, m1, m2⟩
  refine bk_then (take_okW (n := 2) (by omega) (by omega)) ?_
  rintro d ⟨k, rfl, k0, k1⟩
  simp only [add_ii, askM, pure_bind]
  rw [rng1_ok (by omega) (by omega)]
  simp only [askM, pure_bind]
  refine bk_then (K1 := 63) (bk_lc (P := fun _ r => ∃ z, r = .str z ∧ isLab 20 z = true) 21 _ (fun d _ => ⟨d, rfl, bk_mono (label_okW m1 m2) fun d hd => ?_⟩) (n := 3) (by rw [range_len]; omega) (by omega)) ?_
  · obtain ⟨z, rfl, hz⟩ := hd
    exact ⟨z, rfl, isLab_up hz (by omega)⟩
  intro rs hrs
  obtain ⟨zs, rfl, hl, hz⟩ := all2_P hrs
  rw [range_len] at hl
  exact bk_pure ⟨zs, rfl, fun e => by rw [e] at hl; simp at hl; omega, by omega, hz⟩
def sgT : Kd → List Nat
  | .pl => []
  | .wi => [42, 46]
  | .ex => [33]
theorem sg_join {k : Kd} {A : List (List Nat)} : sgT k ++ joinN [46] A = rowT (k, A) := by cases k <;> rfl
theorem row_okX {zs : List (List Nat)} (hL : Lab8 zs) : Bk 5 (m__law_row_f25d [.lst (zs.map .str)]) fun d => ∃ r : Row, d = .str (rowT r) ∧ RowOk r := by
  have sz4 : ∀ a b c d : D, szL [a, b, c, d] = some [a, b, c, d] := fun _ _ _ _ => sz_ok (by simp)
  have sz3 : ∀ a b c : D, szL [a, b, c] = some [a, b, c] := fun _ _ _ => sz_ok (by simp)
  refine bk_runM ?_
  simp only [e__law_row_f25d, sz4, sz3, sz2, askM, pure_bind]
  refine bk_then (of_okW (by simp) (by simp)) ?_
  intro d hd
  obtain ⟨k, rfl⟩ : ∃ k : Kd, d = .str (sgT k) := by
    simp only [List.mem_cons, List.not_mem_nil, or_false] at hd
    rcases hd with rfl | rfl | rfl | rfl
    · exact ⟨.pl, rfl⟩
    · exact ⟨.pl, rfl⟩
    · exact ⟨.wi, rfl⟩
    · exact ⟨.ex, rfl⟩
  have dk : ∃ m, dicK [[], [42, 46], [33]] [.lst [.int 1, .int 2, .int 3], .lst [.int 1, .int 2], .lst [.int 2, .int 3]] = some m ∧ ∀ k : Kd, ∃ L : List Int, dgetD m (.str (sgT k)) = some (.lst (L.map .int)) ∧ L ≠ [] ∧ L.length ≤ 3 ∧ ∀ t ∈ L, 1 ≤ t ∧ t ≤ 3 ∧ (k = .wi → t ≤ 2) ∧ (k = .ex → 2 ≤ t) := by
    refine ⟨_, rfl, fun k => ?_⟩
    cases k with
    | pl => exact ⟨[1, 2, 3], rfl, by simp, by simp, by simp⟩
    | wi => exact ⟨[1, 2], rfl, by simp, by simp, by simp⟩
    | ex => exact ⟨[2, 3], rfl, by simp, by simp, by simp⟩
  obtain ⟨m, dm, dg⟩ := dk
  obtain ⟨L, dg, l0, l1, hLt⟩ := dg k
  simp only [dm, dg, askM, pure_bind]
  refine bk_then (of_okW (by simpa using l0) (by rw [List.length_map]; omega)) ?_
  intro d hd
  obtain ⟨t, ht, rfl⟩ := List.mem_map.mp hd
  obtain ⟨t1, t2, tw, te⟩ := hLt t ht
  simp only [str_of, askM, pure_bind]
  rw [rng1_ok (by omega) (by omega)]
  simp only [askM, pure_bind]
  refine bk_then (K1 := 3) (bk_lc (P := fun _ r => ∃ z, r = .str z ∧ isLab 20 z = true) 1 _ (fun d _ => ⟨d, rfl, of_labW hL⟩) (n := 3) (by rw [range_len]; omega) (by omega)) ?_
  intro rs hrs
  obtain ⟨A, rfl, al, hA⟩ := all2_P hrs
  rw [range_len] at al
  have rok : RowOk (k, A) := ⟨hA, by show 1 ≤ A.length; omega, by show A.length ≤ 3; omega, fun e => by have := tw e; show A.length ≤ 2; omega, fun e => by have := te e; show 2 ≤ A.length; omega⟩
  have j1 : joinD (.str [46]) (.lst (A.map .str)) = some (.str (joinN [46] A)) := join_ok (sum_le8 (k := 20) (fun z m => (isLab_iff.mp (hA z m)).2.1) (by omega) (by omega))
  have jl := labs_join (A := A) hA (by omega)
  have sl : (sgT k).length ≤ 2 := by cases k <;> simp [sgT]
  rw [j1]
  simp only [askM, pure_bind]
  rw [add_ss (by omega), sg_join]
  simp only [askM, pure_bind]
  exact bk_pure ⟨(k, A), rfl, rok⟩
end FN
namespace FN
open DL PySem PySem.W
end FN
namespace DL
open PySem L2
/-! ### a tuple times an int -/
end DL
/-! ### == and != of rows of own objects -/
namespace DL
open PySem PySem.Spec PyProof.Rows L2 PySem.SeqAt PySem.MeetsSeq PySem.MeetsSeq2 PySem.MeetsSeq3 PySem.SeqRoads2
section
variable {prog : Program} {w : World} {A : Around} {R : Result → Shared → Prop}
/-- the pairs are compared, one by one, while J stays -/
inductive Eqs (prog : Program) (w : World) (A : Around) (J : Shared → Prop) : List (Value × Value) → List Bool → Prop where
  | nil : Eqs prog w A J [] []
  | cons {y x : Value} {r : Bool} {l : List (Value × Value)} {rs : List Bool} (h : ∀ (t : Shared) (E : Value → Shared → Prop) (Q : Bool → Shared → Prop), J t → (∀ t', J t' → Q r t') → wpAny (model prog w) A.in1 (eqBool y x) Q E t)
    (tl : Eqs prog w A J l rs) : Eqs prog w A J ((y, x) :: l) (r :: rs)
theorem Eqs.get {J : Shared → Prop} : ∀ {l : List (Value × Value)} {rs : List Bool} {i : Nat} {y x : Value}, Eqs prog w A J l rs → l[i]? = some (y, x) →
    ∃ r, rs[i]? = some r ∧ ∀ (t : Shared) (E : Value → Shared → Prop) (Q : Bool → Shared → Prop), J t → (∀ t', J t' → Q r t') → wpAny (model prog w) A.in1 (eqBool y x) Q E t
  | _, _, _, _, _, .nil, e => by simp at e
  | _, _, 0, _, _, .cons h _, e => by
    simp at e
    obtain ⟨rfl, rfl⟩ := e
    exact ⟨_, rfl, h⟩
  | _, _, i + 1, _, _, .cons _ tl, e => by
    obtain ⟨r, h1, h2⟩ := tl.get (i := i) (by simpa using e)
    exact ⟨r, by simpa using h1, h2⟩
end
def kdD : D → Nat
  | .non => 0
  | .bl _ => 1
  | .int _ => 2
  | .str _ => 3
  | _ => 4
end DL
/-! ### == and != of rows of own objects: the mirrors and their rules -/
namespace DL
open PySem PySem.Spec PyProof.Rows L2
end DL
/-! ### __init__ with a star and keyword-only parameters -/
namespace DL
open PySem PySem.Spec PyProof.Rows L2 StX
section
variable {K : PySem.W.Frag} {mg : Str → Option Value}
/-- the defaults are looked up in the def's own namespace of them -/
def KwRun {α : Type} (D : Addr) : List (Str × Value) → Sem α → Sem α → Prop
  | [], t, r => t = r
  | q :: l, t, r => ∃ (β γ : Type) (k1 : Option Value → Sem β) (k2 : β → Sem γ) (k3 : γ → Sem α) (a : β), t = ((nsGet D q.1 >>= k1) >>= k2) >>= k3 ∧ k1 (some q.2) = pure a ∧ KwRun D l (k2 a >>= k3) r
theorem KwRun.run {α : Type} {M : Model} {A : Around} {D : Addr} {Q : α → Shared → Prop} {E : Value → Shared → Prop} {s : Shared} (X : K.In s.heap) : ∀ {l : List (Str × Value)} {t r : Sem α}, (∀ q ∈ l, PySem.W.nsIn K D q.1 = some (some q.2)) → KwRun D l t r → wpAny M A r Q E s → wpAny M A t Q E s
  | [], _, _, _, e, h => by rw [show _ = _ from e]; exact h
  | q :: l, t, r, hl, e, h => by
    obtain ⟨β, γ, k1, k2, k3, a, rfl, e2, e3⟩ := e
    have flat : ((nsGet D q.1 >>= k1) >>= k2) >>= k3 = nsGet D q.1 >>= fun o => k1 o >>= fun b => k2 b >>= k3 := by simp only [bind_assoc]
    rw [flat]
    refine wpAny_bind ((PySem.W.looks_nsIn X (hl q (.head _))).at ?_)
    rw [e2, pure_bind]
    exact KwRun.run X (fun q hq => hl q (.tail _ hq)) e3 h
end
end DL
/-! ### the head by one run in the kernel: a Hook that tells Bools of a part of the heap, and the defs' texts -/
namespace DL
open PySem PySem.Spec PyProof.Rows L2
/-! a function object, looked at -/
abbrev FnV : Type := Option (Str × Str × Arguments × FuncBody × Scope × Addr × List Str × Addr)
def fnV (K : PySem.W.Frag) (a : Addr) : FnV := match K.lookup a with
  | some ⟨_, _, .func fd, _⟩ => some (fd.name, fd.qualname, fd.params, fd.body, fd.scope, fd.globals, fd.closure.map (·.1), fd.builtins)
  | _ => none
abbrev fnT (x qual : Str) (st : Stmt) (cl : List Str) : FnV := some (x, qual, defArgs st, .stmts (defBody st), defScope st, mainGlobals, cl, builtinsNs)
def isNoneV : Value → Bool
  | .none => true
  | _ => false
theorem isNoneV_ok {v : Value} (h : isNoneV v = true) : v = .none := by cases v <;> first | rfl | cases h
/-- no defaults; its code has this name -/
def codB (K : PySem.W.Frag) (a : Addr) (q : Str) : Bool := match K.lookup a with
  | some ⟨_, _, .func fd, _⟩ => PySem.W.codeIn K fd.code q && isNoneV fd.defaults
  | _ => false
section
variable {K : PySem.W.Frag}
theorem fun_of {a : Addr} {x qual : Str} {pa : Arguments} {bo : List Stmt} {sc : Scope} (e : fnV K a = some (x, qual, pa, .stmts bo, sc, mainGlobals, [], builtinsNs)) (c : codB K a qual = true) : ∃ oc od kV doc pm an cd ct sl,
    K.lookup a = some ⟨oc, od, .func (PySem.W.fnOf x qual pa bo sc .none kV doc pm an cd ct), sl⟩ ∧ PySem.W.codeIn K cd qual = true := by
  unfold fnV at e
  unfold codB at c
  cases q : K.lookup a with
  | none => rw [q] at c; cases c
  | some o =>
    obtain ⟨oc, od, dt, osl⟩ := o
    rw [q] at c e
    cases dt with
    | func fd =>
      obtain ⟨n1, n2, n3, n4, n5, n6, n7, n8, n9, n10, n11, n12, n13, n14, n15⟩ := fd
      have e2 : (some (n1, n2, n3, n4, n5, n6, n7.map (·.1), n15) : FnV) = some (x, qual, pa, .stmts bo, sc, mainGlobals, [], builtinsNs) := e
      simp only [Option.some.injEq, Prod.mk.injEq, List.map_eq_nil_iff] at e2
      obtain ⟨h1, h2, h3, h4, h5, h6, h7, h8⟩ := e2
      subst h1 h2 h3 h4 h5 h6 h7 h8
      have c2 : (PySem.W.codeIn K n13 n2 && isNoneV n8) = true := c
      rw [Bool.and_eq_true] at c2
      have h9 := isNoneV_ok c2.2
      subst h9
      exact ⟨oc, od, n9, n10, n11, n12, n13, n14, osl, rfl, c2.1⟩
    | _ => cases c
/-! own error classes -/
def xcB (K : PySem.W.Frag) (C : Addr) (b : PySem.OwnX.XB) : Bool := match K.lookup C with
  | some ⟨.type "type", _, .cls cd, sl⟩ => (match cd.mro, sl.toList with
    | .ref C' :: bm, [_, _, _, _, some (.builtin n), _] => (C' == C && n == b.nw) && (!cd.hasDel && (cd.hasDict && PySem.OwnX.overB b bm))
    | _, _ => false)
  | _ => false
theorem xc_of {C : Addr} {b : PySem.OwnX.XB} (h : xcB K C b = true) : ∃ (b : PySem.OwnX.XB) (nm q : Str) (N : Addr) (bs bm : List Value) (sn : List Str) (sub : List Value) (ab : Bool) (col : Option Bool) (dd : Option Addr) (k0 k1 k2 k3 k5 : Option Value),
    K.lookup C = some (excClassObj nm q C N bs bm true sn sub ab col dd k0 k1 k2 k3 k5 b.nw) ∧ PySem.OwnX.overB b bm = true := by
  unfold xcB at h
  split at h
  · rename_i dd cd sl ho
    split at h
    · rename_i C' bm k0 k1 k2 k3 n k5 hm hs
      simp only [Bool.and_eq_true, Bool.not_eq_true', beq_iff_eq] at h
      obtain ⟨⟨rfl, rfl⟩, hd, hh, hb⟩ := h
      obtain ⟨a1, a2, a3, a4, a5, a6, a7, a8, a9, a10, a11⟩ := cd
      simp only at hm hd hh
      subst hm hd hh
      have es : sl = #[k0, k1, k2, k3, some (.builtin b.nw), k5] := by
        have := congrArg List.toArray hs
        simpa using this
      subst es
      exact ⟨b, _, _, _, _, bm, _, _, _, _, dd, k0, k1, k2, k3, k5, ho, hb⟩
    · cases h
  · cases h
def kwN (K : PySem.W.Frag) (a : Addr) : Bool := match K.lookup a with
  | some ⟨_, _, .func fd, _⟩ => isNoneV fd.kwdefaults
  | _ => false
/-- a def without any defaults -/
theorem funN_of {a : Addr} {x qual : Str} {pa : Arguments} {bo : List Stmt} {sc : Scope} (e : fnV K a = some (x, qual, pa, .stmts bo, sc, mainGlobals, [], builtinsNs)) (c : codB K a qual = true) (n : kwN K a = true) : ∃ oc od doc pm an cd ct sl,
    K.lookup a = some ⟨oc, od, .func (PySem.W.fnOf x qual pa bo sc .none .none doc pm an cd ct), sl⟩ ∧ PySem.W.codeIn K cd qual = true := by
  obtain ⟨oc, od, kV, doc, pm, an, cd, ct, sl, l, q⟩ := fun_of e c
  have e1 : kV = .none := by
    unfold kwN at n
    rw [l] at n
    exact isNoneV_ok n
  subst e1
  exact ⟨oc, od, doc, pm, an, cd, ct, sl, l, q⟩
/-! descriptors -/
def strB (o : Option (Option Value)) (z : Str) : Bool := match o with
  | some (some (.str y _)) => decide (y = z)
  | _ => false
theorem strB_ok {o : Option (Option Value)} {z : Str} (h : strB o z = true) : ∃ t, o = some (some (.str z t)) := by
  unfold strB at h
  split at h
  · exact ⟨_, by rw [of_decide_eq_true h]⟩
  · cases h
def intB (o : Option (Option Value)) (z : Int) : Bool := match o with
  | some (some (.int y _)) => decide (y = z)
  | _ => false
theorem intB_ok {o : Option (Option Value)} {z : Int} (h : intB o z = true) : ∃ t, o = some (some (.int z t)) := by
  unfold intB at h
  split at h
  · exact ⟨_, by rw [of_decide_eq_true h]⟩
  · cases h
end
/-! ### the Hook -/
def isClsO (o : Obj) : Bool := match o.data with
  | .cls _ => true
  | _ => false
def refsF (o : Obj) : List Addr := match o.data with
  | .func fd => He.refV fd.code ++ (He.refV fd.kwdefaults ++ fd.closure.map (·.2))
  | .cls cd => cd.ns :: cd.mro.tail.flatMap He.refV
  | .dict es _ => es.toList.flatMap fun e => He.refV e.val
  | .fields vs => (match o.cls with
    | .type "code" => []
    | _ => vs.toList.flatMap He.refV)
  | _ => []
def nxF (g : Addr → Option Obj) (as : List Addr) : List Addr := as.flatMap fun a => match g a with
  | some o => refsF o
  | none => []
def clF (g : Addr → Option Obj) (b : Bool) (as : List Addr) : List Addr := as.filter fun a => match g a with
  | some o => isClsO o == b
  | none => false
/-- a list with its numbers worked out -/
def frA {α : Type} : List Addr → (List Addr → α) → α
  | [], k => k []
  | a :: r, k => HandSHeadRun.frNat a fun a => frA r fun r => k (a :: r)
theorem frA_eq {α : Type} : ∀ (as : List Addr) (k : List Addr → α), frA as k = k as
  | [], _ => rfl
  | a :: r, k => by
    show HandSHeadRun.frNat a (fun a => frA r fun r => k (a :: r)) = _
    rw [HandSHeadRun.frNat_eq, frA_eq r]
def frK {α : Type} (g : Addr → Option Obj) : List Addr → (PySem.W.Frag → α) → α
  | [], k => k []
  | a :: r, k => HandSHeadRun.frNat a fun a => match g a with
    | some o => frK g r fun K => k ((a, o) :: K)
    | none => frK g r k
theorem frK_eq {α : Type} (g : Addr → Option Obj) : ∀ (as : List Addr) (k : PySem.W.Frag → α), frK g as k = k (He.frG g as)
  | [], _ => rfl
  | a :: r, k => by
    show HandSHeadRun.frNat a (fun a => match g a with
      | some o => frK g r fun K => k ((a, o) :: K)
      | none => frK g r k) = _
    rw [HandSHeadRun.frNat_eq]
    unfold He.frG
    rw [List.filterMap_cons]
    cases h : g a with
    | none => exact frK_eq g r k
    | some o => exact frK_eq g r fun K => k ((a, o) :: K)
/-- what the module's names reach: classes and what is theirs first -/
def asF {α : Type} (g : Addr → Option Obj) (k : List Addr → α) : α :=
  frA (nxF g [mainGlobals]) fun l1 => frA (clF g true l1) fun lc => frA (clF g false l1) fun lf => frA (nxF g lc) fun ln => frA (nxF g ln) fun lm => frA (nxF g lm) fun lx => frA (nxF g lf) fun lk => frA (nxF g lx) fun ly =>
    k (mainGlobals :: cStatics :: (lc ++ (ln ++ (lm ++ (lf ++ (lx ++ (lk ++ ly)))))))
def asL (g : Addr → Option Obj) : List Addr := asF g fun as => as
theorem asF_eq {α : Type} (g : Addr → Option Obj) (k : List Addr → α) : asF g k = k (asL g) := by
  unfold asL asF
  simp only [frA_eq]
/-- a look at the part of the heap -/
def obF {β : Type} (f : PySem.W.Frag → β) (g : Addr → Option Obj) : β := asF g fun as => frK g as f
theorem obF_eq {β : Type} (f : PySem.W.Frag → β) (g : Addr → Option Obj) : obF f g = f (He.frG g (asL g)) := by
  unfold obF
  rw [asF_eq, frK_eq]
abbrev AlH : Type := Bool × List FnV
def hookH (ex : PySem.W.Frag → Bool) (fs : PySem.W.Frag → List FnV) (vs : List FnV) : PySem.W.Hook where
  α := AlH
  obs := fun s => (ex (He.frG s.heap.get? (asL s.heap.get?)), fs (He.frG s.heap.get? (asL s.heap.get?)))
  val := fun _ => (true, vs)
  says := fun _ h => ∃ K : PySem.W.Frag, K.In h ∧ ex K = true ∧ fs K = vs
  of := fun _ _ e => ⟨_, He.frG_in, congrArg (fun z : AlH => z.1) e, congrArg (fun z : AlH => z.2) e⟩
  keeps := fun _ _ _ ⟨K, hK, c⟩ k => ⟨K, PySem.W.Frag.In.keeps hK k, c⟩
def obH (ex : PySem.W.Frag → Bool) (fs : PySem.W.Frag → List FnV) (s : PySem.W.SharedT) : AlH := (obF ex (HandSHeadRun.getT s), obF fs (HandSHeadRun.getT s))
theorem obH_eq {ex : PySem.W.Frag → Bool} {fs : PySem.W.Frag → List FnV} {vs : List FnV} (s : PySem.W.SharedT) : obH ex fs s = (hookH ex fs vs).obs s.abs := by
  have e : HandSHeadRun.getT s = s.abs.heap.get? := funext (HandSHeadRun.getT_eq s)
  unfold obH
  rw [obF_eq, obF_eq, e]
  rfl
/-! the run's equation, in parts -/
open HandSHeadRun in
def PartEq (r : PySem.W.OpenRow) (M : Nat) (w : World) {β : Type} (f : PySem.W.SharedT → β) (v : β) : Prop := ∀ os : OsState, (endF (stepQ (denQ tabQ) r.prog w) M r.prog w os).map f = some v
section
variable {r : PySem.W.OpenRow} {M : Nat} {w : World}
theorem PartEq.pair {β γ : Type} {f : PySem.W.SharedT → β} {g : PySem.W.SharedT → γ} {v : β} {u : γ} (a : PartEq r M w f v) (b : PartEq r M w g u) : PartEq r M w (fun s => (f s, g s)) (v, u) := fun os => by
  have h1 := a os
  have h2 := b os
  cases e : HandSHeadRun.endF (HandSHeadRun.stepQ (HandSHeadRun.denQ HandSHeadRun.tabQ) r.prog w) M r.prog w os with
  | none => rw [e] at h1; cases h1
  | some s =>
    rw [e] at h1 h2
    have e1 := Option.some.inj h1
    have e2 := Option.some.inj h2
    show some (f s, g s) = some (v, u)
    rw [e1, e2]
open PySem.W PySem.Calls PyProof.Rows in
theorem PartEq.run {q : Program} {loose : List PySem.Str} {ex : PySem.W.Frag → Bool} {fs : PySem.W.Frag → List FnV} {vs : List FnV}
    (a : PartEq r M w (fun s => (HandSHeadRun.looksF r.prog (boot_heap w.params) s.abs, HandSHeadRun.seenQ q loose (importedModules r.prog.main.body) (fun s => xlAt q [] s && recOk r.toRowW.records s) s.abs)) (true, openGood q loose))
    (b : PartEq r M w (fun s => obF ex (HandSHeadRun.getT s)) true) (c : PartEq r M w (fun s => obF fs (HandSHeadRun.getT s)) vs) : HandSHeadRun.RunEq r q (hookH ex fs vs) (obH ex fs) M loose w := fun os => by
  have h := (a.pair (b.pair c)) os
  cases e : HandSHeadRun.endF (HandSHeadRun.stepQ (HandSHeadRun.denQ HandSHeadRun.tabQ) r.prog w) M r.prog w os with
  | none => rw [e] at h; cases h
  | some s =>
    rw [e] at h
    have h1 := Option.some.inj h
    simp only [Prod.mk.injEq] at h1
    obtain ⟨⟨a1, a2⟩, b1, c1⟩ := h1
    exact congrArg some (Prod.ext a1 (Prod.ext a2 (Prod.ext b1 c1)))
end
/-- the end, where the head tells some part of the heap -/
theorem walk_gE {l : PySem.W.OpenLaw} {n k : Nat} {q : Program} {loose : List Str} {XP : (Str → Option Value) → Heap → Prop} {YP : World → Heap → Prop} {d : DefRec} {x : Str} {g : List D → R D}
    (hn : l.most = some n) (hn2 : n ≤ sizeLine) (hdf : d.params.defaults = []) (hr : Room k callerA)
    (F : ∀ (w : World) (mg : Str → Option Value) (fa : Addr) (h : Heap), YP w h → h.Ns mainGlobals mg → mg d.name = some (.ref fa) →
      ∃ (K : PySem.W.Frag) (fd : FuncData), K.In h ∧ (∀ (s : Shared) (u : Value), BindsTo s fd ⟨[u], []⟩ [(x, u)]) ∧ ∀ base : Heap, K.In base → base.Ns mainGlobals mg → FnG l.prog w K mg base k fa fd [x] (spR K mg false 1 g))
    (hg : ∀ ns : List Int, ns.length ≤ n → g [.scr ns] = .ok (.bl true)) :
    PySem.W.WalkO q loose XP YP l.row.toRowW d [] (fun f vs => PySem.call f vs) := by
  refine Att.attach_call hn hdf fun w s0 s1 mg mb fa o pm cd doc a vs ns G Y ho hd hcd hmg hobj hints hlen hgn => ?_
  obtain ⟨K, fd, KX, hb, hF⟩ := F w mg fa _ Y G.T.g hmg
  exact law_callG KX G.T.g G.T.b G.T.builtins G.T.nolimit hgn hobj hints (Nat.le_trans hlen hn2) hr hF hb (hg ns hlen)
end DL
/-! ### two fresh lists unpacked into names (where a comprehension captures one of them) -/
namespace DL
open PySem L2
end DL
/-! ### rows of hosts, walked (k63, k64) -/
namespace FN
open DL PySem PySem.W
theorem exbind {α β : Type} {e : Exn} {f : α → R β} : (R.ex e >>= f) = R.ex e := rfl
end FN
/-! ### rules drawn and made (the laws of books) -/
namespace FN
open DL PySem PySem.W
end FN
/-! ### isinstance of the caught error: own classes, tuples of them -/
namespace DL
open PySem PySem.Spec PyProof.Rows L2
def rIsXT (K : PySem.W.Frag) (C a dd : Addr) (f : Str) : List V → Hp → VK → Prop := fun xs H Q => ∃ (tp : Addr) (cs : List V) (v : V) (ws : List Value) (b : Bool), xs = [.ref a, .ref tp] ∧ H tp = some (.tup cs) ∧ Paired ClsV cs ws ∧ H dd = some (.xd [(f, v)]) ∧ PySem.W.kitAny K (.ref C) ws = some b ∧ Q (.bl b) H
theorem call_isXT {X : Cx} {a C dd : Addr} {f : Str} {oe : Obj} {pn : List (Addr × Obj)} (E : ExcC X.K C) (hz : Zc (.ref C) (some dd) oe) (hf : ∃ vs, oe.data = .fields vs) : CallR (X.suite a ((a, oe) :: pn)) (.builtin "isinstance") (rIsXT X.K C a dd f) := by
  intro pins s σ H xs us Q I r h
  obtain ⟨tp, cs, v, ws, b, rfl, hT, k, hdd, e, q⟩ := h
  obtain ⟨u1, u2, rfl, r1, r2⟩ := vals2 r
  cases (show u2 = Value.ref tp from r2)
  cases (show u1 = Value.ref a from r1)
  obtain ⟨hget, _⟩ := I.pin (a, oe) (List.mem_append.mpr (.inl List.mem_cons_self))
  obtain ⟨vs, hv⟩ := hf
  have hx : ObjOk X.prog X.w H s.heap dd (.xd [(f, v)]) := I.hok dd _ hdd
  obtain ⟨mA, hns, hr⟩ := hx
  obtain ⟨od, ho, hl⟩ := lookIn_ns hns
  have J : PySem.W.InstAt s.heap a oe C (some od) := ⟨hget, hz.1, by unfold PySem.W.notCls; rw [hv] <;> rfl, by rw [hz.2]; exact ho⟩
  have hc : (PySem.W.clsIn X.K C).isSome = true := by
    obtain ⟨cd, hcd, _⟩ := PySem.W.any_some E.hd
    rw [hcd]
    rfl
  obtain ⟨_, its, rv, o, h1, h2, n, h3⟩ := (show ObjOk X.prog X.w H s.heap tp (.tup cs) from I.hok tp _ hT)
  have e3 := ClsV.all k rv
  subst e3
  obtain ⟨oc, od2, dt, sl⟩ := o
  simp only at h2 h3
  subst h2 h3
  exact PySem.W.kia_tup (PySem.W.kitx_exc hc E.hg E.hk E.hs E.ha E.hn E.ht E.hm) I.kIn J h1 e (fun z => nomatch z) fun tk => ⟨.bl b, H, I.kept (t' := tk) fun _ _ z => z, rfl, q⟩
section
variable {X : Cx} {m : Type → Type} [Mo m] {fx : Fx} {G : List Sl} {C a dd : Addr} {f : Str} {oe : Obj} {pn : List (Addr × Obj)} {d : D} {n c1 c2 c3 : Str} {C1 C2 C3 : Addr} {b b1 b2 b3 : Bool} {p p1 p2 p3 p4 pt pos : Pos} {k : Nat}
theorem de_isiX2 (E : ExcC X.K C) (hz : Zc (.ref C) (some dd) oe) (hf : ∃ vs, oe.data = .fields vs) (i : Nat) (hk1 : PySem.W.kitOne X.K (.ref C) (.ref C1) = some b1) (hk2 : PySem.W.kitOne X.K (.ref C) (.ref C2) = some b2)
    (hm1 : X.mg c1 = some (.ref C1)) (hm2 : X.mg c2 = some (.ref C2)) (hg : Gl X "isinstance") (hm : X.mg "isinstance" = none) (hg1 : Gl X c1) (hg2 : Gl X c2) (hG : G[i]? = some (.im (.xc a dd f d)) := by rfl)
    (hN : X.N[i]? = some n := by rfl) (hv : Vis X.env.scope n := by first | exact Or.inl rfl | exact Or.inr (Or.inl rfl) | exact Or.inr (Or.inr rfl)) (hd : (n == ("__debug__" : Str)) = false := by decide) (hcd : (n == ("__classdict__" : Str)) = false := by decide)
    (hdb1 : (c1 == ("__debug__" : Str)) = false := by decide) (hdb2 : (c2 == ("__debug__" : Str)) = false := by decide)
    (hs : starEach [.Name n p1, .Tuple [.Name c1 p2, .Name c2 p3] k pt] X.env = (false, eval (.Name n p1) X.env) :: starEach [.Tuple [.Name c1 p2, .Name c2 p3] k pt] X.env := by rfl) (hs2 : starEach [.Tuple [.Name c1 p2, .Name c2 p3] k pt] X.env = (false, eval (.Tuple [.Name c1 p2, .Name c2 p3] k pt) X.env) :: starEach [] X.env := by rfl)
    (hs3 : starEach [.Name c1 p2, .Name c2 p3] X.env = (false, eval (.Name c1 p2) X.env) :: starEach [.Name c2 p3] X.env := by rfl) (hs4 : starEach [.Name c2 p3] X.env = (false, eval (.Name c2 p3) X.env) :: starEach [] X.env := by rfl)
    (hpl : (backTo pos (starEach [.Tuple [.Name c1 p2, .Name c2 p3] k pt] X.env)).any (·.1) = false := by rfl) (hb : (b1 || b2) = b := by rfl) :
    PE (X.suite a ((a, oe) :: pn)) (.Call (.Name "isinstance" p) [.Name n p1, .Tuple [.Name c1 p2, .Name c2 p3] k pt] [] pos) (tE (X.suite a ((a, oe) :: pn)).K (X.suite a ((a, oe) :: pn)).mg fx G (pure (.bl b) : m D)) := by
  subst hb
  exact peI (pe_callB (X := X.suite a ((a, oe) :: pn)) (call_isXT (f := f) E hz hf) hg hm rfl (pa_cons (pe_var (X := X.suite a ((a, oe) :: pn)) hN hv hd hcd) (pa_cons (pe_tup (pa_cons (pe_own (X := X.suite a ((a, oe) :: pn)) hm1 hg1 hdb1) (pa_cons (pe_own (X := X.suite a ((a, oe) :: pn)) hm2 hg2 hdb2) pa_nil hs4) hs3)) pa_nil hs2) hs) (by decide) (by decide) hs hpl) fun σ H Q ⟨Hf, s, h⟩ => by
    obtain ⟨v, ev, e, u, hu, iu⟩ := h.1.sl i _ hG
    subst e
    refine ⟨.ref a, ev, (by show 2 ≤ sizeLine; decide), fun t ht => ?_⟩
    have sn : Ste ([] : List Addr) Hf H Hf (upd H t (.tup [.ref C1, .ref C2])) := Ste.new' h.1.top ht
    refine ⟨t, [.ref C1, .ref C2], u, [.ref C1, .ref C2], (b1 || b2), rfl, upd_same, .cons (.own C1) (.cons (.own C2) .nil), sn.top _ _ hu, ?_, (Mo.wp_pure h.2) _ Hf _ (Ste.new' h.1.top ht) (sn.bag h.1.bag) (is_bl _)⟩
    exact kitAny_cons hk1 (fun z => by subst z; rw [Bool.false_or]; exact kitAny_cons hk2 (fun z => by subst z; rfl) (fun z => z)) (fun z => by subst z; rfl)
end
end DL
/-! ### list.count of a list of texts -/
namespace DL
open PySem PySem.Spec PyProof.Rows L2
end DL
/-! ### tuple(text) -/
namespace DL
open PySem PySem.Spec PyProof.Rows L2
end DL
/-! ### sorted(xs), sorted(xs, key=f) -/
namespace DL
open PySem PySem.Spec PyProof.Rows L2
/-! keys that can be sorted -/
end DL
/-! ### sorted(xs, key=f), f a def of one's own -/
namespace DL
open PySem PySem.Spec PyProof.Rows L2
end DL
/-! ### orders of labels and rows; what sorted(..) gives -/
namespace DL
open PySem PySem.W
/-- a strict total order, decided -/
structure STO {α : Type} (lt : α → α → Bool) : Prop where
  irr : ∀ a, lt a a = false
  trans : ∀ {a b c}, lt a b = true → lt b c = true → lt a c = true
  tri : ∀ a b, lt a b = true ∨ a = b ∨ lt b a = true
section
variable {α : Type} {lt : α → α → Bool} (O : STO lt)
include O
theorem STO.asym {a b : α} (h : lt a b = true) : lt b a = false := by
  cases q : lt b a with
  | false => rfl
  | true =>
    have := O.trans h q
    rw [O.irr] at this; cases this
/-- not behind: a ≤ b -/
theorem STO.le_iff {a b : α} : (!lt b a) = true ↔ lt a b = true ∨ a = b := by
  rw [Bool.not_eq_true']
  constructor
  · intro h
    rcases O.tri a b with q | q | q
    · exact .inl q
    · exact .inr q
    · rw [h] at q; cases q
  · rintro (h | rfl)
    · exact O.asym h
    · exact O.irr a
theorem STO.le_trans {a b c : α} (h1 : (!lt b a) = true) (h2 : (!lt c b) = true) : (!lt c a) = true := by
  rw [O.le_iff] at *
  rcases h1 with h1 | rfl
  · rcases h2 with h2 | rfl
    · exact .inl (O.trans h1 h2)
    · exact .inl h1
  · exact h2
end
/-! labels by (len(label), label) -/
end DL
/-! ### dicts with int and text keys: one's own, comprehensions, get, in -/
namespace DL
open PySem PySem.Spec PyProof.Rows L2
/-! data -/
end DL
/-! ### dict comprehensions -/
namespace DL
open PySem PySem.Spec PyProof.Rows L2
end DL
/-! ### raise X(..) from e, in a suite «except BadPattern as e» -/
namespace DL
open PySem PySem.Spec PyProof.Rows L2 HotX
end DL
namespace L2
open PySem PySem.Spec PyProof.Rows
end L2
namespace DL
open PySem PySem.Spec PyProof.Rows L2 HotX
end DL
/-! ### [.. for x in ..] whose items may raise -/
namespace DL
open PySem PySem.Spec PyProof.Rows L2
/-! ### as data -/
end DL
namespace FN
open DL PySem PySem.W
/-! rules: any text -/
end FN
/-! ### a, (b, c) as a target -/
namespace DL
open PySem PySem.Spec PyProof.Rows L2
end DL
/-! ### *x among the items of a display or a call -/
namespace DL
open PySem PySem.Spec PyProof.Rows L2
/-! ### calls with a star and names -/
end DL
namespace DL
open PySem PySem.Spec PyProof.Rows L2
/-! ### own classes called so -/
end DL
/-! ### [.. for x in .. for y in ..] -/
namespace DL
open PySem PySem.Spec PyProof.Rows L2
end DL
/-! ### own __iter__: return iter(self.f), f a tuple -/
namespace DL
open PySem PySem.Spec PyProof.Rows L2
end DL
/-! ### list(o), o walked by its own __iter__ -/
namespace DL
open PySem PySem.Spec PyProof.Rows L2
end DL
/-! ### min and max of a list of ints -/
namespace DL
open PySem PySem.Spec PyProof.Rows L2
def intsL : List D → Option (List Int)
  | [] => some []
  | .int i :: ds => (intsL ds).map (i :: ·)
  | _ :: _ => none
def minL : List D → Option D
  | [.lst ds] => match intsL ds with
    | some (i :: is) => some (.int (is.foldl min i))
    | _ => none
  | _ => none
theorem intsL_ok : ∀ (is : List Int), intsL (is.map .int) = some is
  | [] => rfl
  | i :: is => by show (intsL (is.map .int)).map (i :: ·) = _; rw [intsL_ok is]; rfl
theorem intsL_eq : ∀ {ds : List D} {is : List Int}, intsL ds = some is → ds = is.map .int
  | [], is, h => by cases h; rfl
  | d :: ds, is, h => by
    cases d <;> try (cases h; done)
    rename_i i
    have h : (intsL ds).map (i :: ·) = some is := h
    cases e : intsL ds with
    | none => rw [e] at h; cases h
    | some js =>
      rw [e] at h
      cases h
      rw [intsL_eq e]
      rfl
theorem foldl_min_le : ∀ (is : List Int) (i : Int), is.foldl min i ≤ i ∧ (∀ y ∈ is, is.foldl min i ≤ y) ∧ (is.foldl min i = i ∨ is.foldl min i ∈ is)
  | [], i => ⟨Int.le_refl _, (fun _ m => by cases m), .inl rfl⟩
  | j :: is, i => by
    obtain ⟨h1, h2, h3⟩ := foldl_min_le is (min i j)
    rw [List.foldl_cons]
    refine ⟨by omega, fun y m => ?_, ?_⟩
    · rcases List.mem_cons.mp m with rfl | m
      · omega
      · exact h2 y m
    · rcases h3 with h | h
      · by_cases z : i ≤ j
        · exact .inl (by omega)
        · exact .inr (by rw [h, show min i j = j by omega]; exact .head _)
      · exact .inr (.tail _ h)
theorem isL_intsV {K : PySem.W.Frag} {mg : Str → Option Value} {H : Hp} : ∀ {is : List Int} {vs : List V}, IsL K mg H (is.map .int) vs → vs = is.map V.int
  | [], vs, h => h
  | i :: is, vs, h => by
    obtain ⟨v, r, rfl, h1, h2⟩ := h
    have h1 : v = .int i := h1
    rw [h1, isL_intsV h2]
    rfl
section
variable {X : Cx}
theorem oc_minL (hc : X.calm = true) : CallR X (.builtin "min") (rDs X.K X.mg minL) := by
  intro pins s σ H xs us Q I r h
  obtain ⟨Hf, ds, d, sb, l, e, q⟩ := h
  unfold minL at e
  split at e
  · rename_i es
    split at e
    · rename_i i is ei
      have ei := intsL_eq ei
      subst ei
      cases e
      obtain ⟨v0, vr, rfl, ⟨z, a, vs, rfl, hH, lv⟩, rfl⟩ := l
      have lv := isL_intsV (is := i :: is) lv
      subst lv
      obtain ⟨h1, h2, h3⟩ := foldl_min_le is i
      refine cr_min hc pins s σ H _ us Q I r ⟨a, i :: is, rfl, .inl (.inl (sb _ _ hH)), by simp, fun m hm hl => ?_⟩
      have em : m = is.foldl min i := by
        have a1 := hl i (.head _)
        have a2 : m ≤ is.foldl min i := by
          rcases h3 with h | h
          · rw [h]; exact a1
          · exact hl _ (.tail _ h)
        have a3 : is.foldl min i ≤ m := by
          rcases List.mem_cons.mp hm with rfl | hm
          · exact h1
          · exact h2 m hm
        omega
      rw [em]
      exact q _ Hf H (.refl sb) (is_int _)
    · cases e
  · cases e
end
end DL
/-! ### own lists read in place: x[i], list(x), `return x if c else [..]`; a, b, c = [..], [..], e -/
namespace DL
open PySem PySem.Spec PyProof.Rows L2
section
variable {X : Cx} {fx : Fx} {m : Type → Type} [Mo m] {G : List Sl} {b : Expr} {pos p np : Pos} {y : m D} {n : Str} {ds : List D}
/-- x[i], x a list of the frame's own -/
theorem de_owIx (i : Nat) (hb : PE X b (tE X.K X.mg fx G y)) (hG : G[i]? = some (.ow ds) := by rfl) (hN : X.N[i]? = some n := by rfl) (hv : Vis X.env.scope n := by first | exact Or.inl rfl | exact Or.inr (Or.inl rfl) | exact Or.inr (Or.inr rfl))
    (hd : (n == ("__debug__" : Str)) = false := by decide) (hcd : (n == ("__classdict__" : Str)) = false := by decide) (hs : PlainIx b := by exact fun _ _ => rfl) :
    PE X (.Subscript (.Name n np) b pos) (tE X.K X.mg fx G (do let j ← y; ask (ixD (.lst ds) j))) := peI (pe_ix ix_list (pe_var hN hv hd hcd) hb hs) fun σ H Q ⟨Hf, s, h⟩ => by
  obtain ⟨p0, vs0, ep, hp, hf, h0, nb, l, hz⟩ := h.1.sl i _ hG
  refine ⟨.ref p0, ep, (h.bind.mono fun v2 H2 ⟨d2, Hf2, s2, sb2, r2, h2⟩ => ?_).to⟩
  obtain ⟨p1, vs1, ep1, hp1, hf1, _, _, l1, hz1⟩ := h2.1.sl i _ hG
  have eq : p1 = p0 := by rw [ep] at ep1; cases ep1; rfl
  subst eq
  obtain ⟨d, e, q⟩ := h2.ask
  cases d2 with
  | int t =>
    cases r2
    have e : L2.atI ds t = some d := e
    obtain ⟨w, hw, iw⟩ := l1.atI e
    exact ⟨p1, vs1, t, w, rfl, rfl, .inl (.inl hp1), hw, q _ Hf2 H2 (.refl h2.1.top) iw⟩
  | _ => cases e
/-- list(x), x a list of the frame's own -/
theorem df_listOw (i : Nat) (hg : Gl X "list") (hm : X.mg "list" = none) (hG : G[i]? = some (.ow ds) := by rfl) (hN : X.N[i]? = some n := by rfl) (hv : Vis X.env.scope n := by first | exact Or.inl rfl | exact Or.inr (Or.inl rfl) | exact Or.inr (Or.inr rfl))
    (hd : (n == ("__debug__" : Str)) = false := by decide) (hcd : (n == ("__classdict__" : Str)) = false := by decide)
    (he : starEach [.Name n np] X.env = (false, eval (.Name n np) X.env) :: starEach [] X.env := by rfl) (hpl : (backTo pos (starEach [] X.env)).any (·.1) = false := by rfl) :
    PE X (.Call (.Name "list" p) [.Name n np] [] pos) (tF X.K X.mg fx G (pure ds : m (List D))) := peI (pe_callTy call_list_of hg hm rfl (pa_cons (pe_var hN hv hd hcd) pa_nil he) (by decide) (by decide) he hpl) fun σ H Q ⟨Hf, s, st, w⟩ => by
  obtain ⟨p0, vs0, ep, hp, hf, h0, nb, l, hz⟩ := st.sl i _ hG
  have w' := Mo.wp_pure w
  exact ⟨.ref p0, ep, p0, vs0, rfl, .inl (.inl (.inl hp)), fun q hq => frq_new st (.refl st.top) w' l hz q hq⟩
end
end DL
/-! ### a, b = x, y where an exception is handled -/
namespace DL
open PySem PySem.Spec PyProof.Rows L2
section
variable {prog : Program} {w : World} {A : Around} {E : Value → Shared → Prop} {s : Shared}
section
variable {prog : Program} {w : World} {A : Around} {E : Value → Shared → Prop} {s : Shared}
/-- «StopIteration» is raised while another exception is handled -/
theorem stop_hot {α : Type} {x1 : Addr} {Q : α → Shared → Prop} (hot : HotX.HotAt A x1 s.heap)
    (out : ∀ (e : Addr) (o : Obj) (h' : Heap), (∀ b o, s.heap.get? b = some o → h'.get? b = some o) → h'.get? e = some o → o.cls = .type "StopIteration" → E (.ref e) { s with heap := h' }) :
    wpAny (model prog w) A (newExc (.type "StopIteration") [] >>= fun e => (raiseNew e : Sem α)) Q E s := by
  obtain ⟨handled, o1, vs1, lies, rec, noCtx⟩ := hot
  have big : ∀ {b : Addr} {o : Obj} (p q : Obj), s.heap.get? b = some o → ((s.heap.push p).push q).get? b = some o ∧ (s.heap.push p).objs.size ≠ b := fun p q e =>
    have e1 := Heap.get?_push_of_some p e
    ⟨Heap.get?_push_of_some q e1, Nat.ne_of_gt (Heap.lt_size e1)⟩
  simp only [newExc, newTuple]
  have noMember : firstArgMember (.type "StopIteration") [] = pure Value.none := by first | rfl | (simp only [firstArgMember]; rfl)
  rw [noMember]
  refine wpAny_bind (wpAny_bind (wpAny_newObj_type (wpAny_bind (wpAny_pure (wpAny_newObj_type ?_ ?_))) ?_))
  · refine HotX.raiseNew_hot ⟨handled, o1, vs1, (big _ _ lies).1, rec, noCtx⟩ (Ne.symm (big _ { cls := .none, data := .fields #[] } lies).2) (Heap.get?_push_size _ rfl) rfl (by simp only [Array.size_append]; simp; omega) ?_
    exact out _ _ _ (fun b o e => (Heap.get?_update_other _ _ (big _ { cls := .none, data := .fields #[] } e).2).trans (big _ _ e).1) (Heap.get?_update_self _ (Heap.get?_push_size _ rfl) rfl) rfl
  · size_fits
  · size_fits
/-- a tuple's iterator at its end, asked while an exception is handled -/
theorem next_tuple_end_hot {it t x1 : Addr} {i : Nat} {items : Array Value} {Q : Option Value → Shared → Prop} (hot : HotX.HotAt A x1 s.heap)
    (hit : IsTupIter s.heap it t i) (ht : IsTup s.heap t items) (hx : items[i]? = none) (hQ : ∀ h', Heap.ExtBut it s.heap h' → Q none { s with heap := h' }) :
    wpAny (model prog w) A (pyNext (.ref it)) Q E s := by
  obtain ⟨oi, at_, -, flds⟩ := id hit
  obtain ⟨ot, atT, -, n, seq⟩ := ht
  have others : ∀ (f : Obj → Obj) {b : Addr} {o : Obj}, b ≠ it → s.heap.get? b = some o → (s.heap.update it f).get? b = some o := fun f {b o} ne e => (Heap.get?_update_other _ _ (Ne.symm ne)).trans e
  have hot' : ∀ f, HotX.HotAt A x1 (s.heap.update it f) := fun f => by
    obtain ⟨handled, o1, vs1, lies, rec, noCtx⟩ := hot
    refine ⟨handled, o1, vs1, others f (fun e => ?_) lies, rec, noCtx⟩
    subst e
    cases at_.symm.trans lies
    cases flds.symm.trans rec
    exact absurd noCtx (by simp)
  refine wpAny_bind (wpAny_attempt (wpAny_callSpecial?_slot (name := Str.ofString "__next__") hit.typeIs slot_tupleiter_next (wpAny_call_entry slot_tupleiter_next hit.typeIs entry_tupleiter_next ?_ (args_tupleiter_next _))))
  apply wpAny_bind (m := field (.ref it) 0)
  refine wpAny_field at_ flds (x := .ref t) rfl ?_
  have seqThere : (Value.ref t == Value.none) = false := rfl
  simp only [seqThere, Bool.false_eq_true, if_false]
  apply wpAny_bind (m := field (.ref it) 1)
  refine wpAny_field at_ flds (x := .int i 0) rfl ?_
  apply wpAny_bind (m := seqItems? (.ref t))
  refine wpAny_seqItems atT seq ?_
  simp only [Int.toNat_natCast, hx]
  refine wpAny_bind (wpAny_rule (wpAny_bind (wpAny_setField at_ flds (by simp) ?_)))
  refine stop_hot (A := A.in1) (s := { s with heap := s.heap.update it _ }) (hot' _) fun e o h' keeps lies stop => ?_
  exact wpAny_bind (wpAny_isInstance (T := "StopIteration") (b := true) ⟨o, lies, stop⟩ isSubtype_stop (wpAny_pure (hQ h' fun b o ne q => keeps b o (others _ ne q))))
/-- a tuple is taken apart while an exception is handled -/
theorem unpackItems_tuple_hot {t x1 : Addr} {items : Array Value} {Q : List Value → Shared → Prop} (hot : HotX.HotAt A x1 s.heap) (ht : IsTup s.heap t items)
    (hQ : ∀ h', Heap.ExtBut s.heap.objs.size s.heap h' → Q items.toList { s with heap := h' }) : wpAny (model prog w) A (unpackItems (.ref t) items.size none) Q E s := by
  obtain ⟨ot, atT, r⟩ := id ht
  have apart : t ≠ s.heap.objs.size := Nat.ne_of_lt (Heap.lt_size atT)
  obtain ⟨handled, o1, vs1, lies, rest⟩ := hot
  have is : wpAny (model prog w) A (notIterableAtAll (.ref t)) (fun b s' => b = false ∧ s' = s) E s := wpAny_bind (wpAny_specialOf ht.typeIs slot_tuple_iter.lookup (wpAny_pure ⟨rfl, rfl⟩))
  refine wpAny_bind (wpAny_mono is (fun b s' ⟨eb, es⟩ => ?_) fun _ _ z => z)
  rw [eb, es]
  simp only [Bool.false_eq_true, if_false]
  refine wpAny_bind (wpAny_holding (iter_tuple ht (wpAny_bind (wpAny_holding (draw_tuple apart items.size 0 _ _ ⟨_, Heap.get?_push_size _ rfl, rfl, rfl⟩ (ht.push _) (by omega) fun h1 end1 same1 => ?_)))))
  have ext1 : Heap.ExtBut s.heap.objs.size s.heap h1 := fun b o ne e => same1.extBut b o ne (Heap.get?_push_of_some _ e)
  have all : List.take items.size (List.drop 0 items.toList) = items.toList := List.take_of_length_le (by simp)
  rw [all, if_neg (by simp)]
  refine wpAny_bind (wpAny_holding (next_tuple_end_hot ⟨handled, o1, vs1, ext1 _ _ (Nat.ne_of_lt (Heap.lt_size lies)) lies, rest⟩ end1 ((ht.push _).extBut same1.extBut apart) (by simp) fun h2 ext2 => ?_))
  simp only [Option.isSome_none, Bool.false_eq_true, if_false]
  exact wpAny_pure (hQ h2 fun b o ne e => ext2 b o ne (ext1 b o ne e))
end
end
section
variable {X : Cx} {pos : Pos}
section
/-- the target «x, y» -/
abbrev twoTo (x y : Str) (px py : Pos) (kt : Nat) (pt : Pos) : List Expr := [.Tuple [.Name x px, .Name y py] kt pt]
end
section
variable {X : Cx} {pos : Pos}
theorem ps_parH {i j : Nat} {x y : Str} {a b : Expr} {ta : TA} {px py pt : Pos} {kt k2 pt2} (hc : L2H.HotC X) (hN : X.N.Nodup) (hi : X.N[i]? = some x) (hj : X.N[j]? = some y) (hij : i ≠ j) (hx : X.env.scope.names.lookup x = some .local)
    (hy : X.env.scope.names.lookup y = some .local) (ha : PA X [a, b] ta) (hw : swappedStores (twoTo x y px py kt pt) (.Tuple [a, b] k2 pt2) X.env = pure (some [x, y])) (hs : swapsWithSole (twoTo x y px py kt pt) (.Tuple [a, b] k2 pt2) pos.line X.env = pure false := by rfl) :
    PS X (.Assign (twoTo x y px py kt pt) (.Tuple [a, b] k2 pt2) pos) (tPar i j ta) := by
  -- the two stores, the later name first
  have stores : ∀ {pins : List (Addr × Obj)} {σ : L2.St} {H : Hp} {s : Shared} {D : Ends} {v w : V} {u1 u2 : Value}, L2.Inv X pins σ H s → RelV v u1 → RelV w u2 → D.nx ((σ.set i (some v)).set j (some w)) H →
      wpAny (model X.prog X.w) X.A (assignInOrder [fun v => bindName X.env y v, fun v => bindName X.env x v] [u2, u1] >>= fun _ => pure Flow.next) (SP X pins D) X.xe s := fun {pins σ H s D v w u1 u2} I r1 r2 q =>
    wpAny_bind (assignInOrder_cons (wpAny_bindName (store_ok I hN hj (.inl hy) r2 (fun sy Iy => assignInOrder_cons (wpAny_bindName (store_ok Iy hN hi (.inl hx) r1 (fun sx Ix => assignInOrder_nil (wpAny_pure ⟨_, H, List.set_comm _ _ (Ne.symm hij) ▸ Ix, q⟩)) (.inr hx)))) (.inr hy))))
  refine ⟨fun pins s σ H D I h => ?_⟩
  rw [exec_Assign_arm, hs, hw]
  refine wpAny_bind (wpAny_standAt (wpAny_bind (wpAny_pure ?_)))
  simp only [Bool.false_eq_true, if_false]
  refine wpAny_bind (Tuple_ (wpAny_mono (ha.run _ pins s σ H _ I h) (fun us s1 got => ?_) fun _ _ z => z))
  obtain ⟨vs, H1, I1, rel, v, w, rfl, q⟩ := got
  obtain ⟨u1, u2, rfl, r1, r2⟩ := vals2 rel
  refine wpAny_newObj_type ?_ (show 2 ≤ sizeLine by decide)
  have I2 := I1.kept (h' := s1.heap.push { cls := .type "tuple", data := .seq #[u1, u2] }) (t' := s1.toks) fun b o e => Heap.get?_push_of_some _ e
  obtain ⟨x1, hot⟩ := hc.at I2
  refine wpAny_bind (wpAny_pure (wpAny_bind (wpAny_rule (wpAny_bind (unpackItems_tuple_hot (items := #[u1, u2]) hot (IsTup.new s1.heap _) fun h' ext => ?_)))))
  exact stores (I2.kept (h' := h') (t' := s1.toks) fun b o e => ext b o (Nat.ne_of_lt (Heap.lt_size e)) e) r1 r2 q
end
theorem hot_suite {X : Cx} {a C : Addr} {oe : Obj} {dd : Option Addr} {pn : List (Addr × Obj)} (hn : L2N.Zn (.ref C) dd oe) (hf : ∃ vs, oe.data = .fields vs) : L2H.HotC (X.suite a ((a, oe) :: pn)) := by
  obtain ⟨vs, hv⟩ := hf
  exact ⟨(a, oe), ⟨rfl, vs, hv, hn.2.2 vs hv⟩, List.mem_cons_self⟩
end
section
variable {X : Cx} {fx : Fx} {m : Type → Type} [Mo m] {G : List Sl} {α β : Type} {kk : Nat} {a b : Expr} {rest : List Stmt} {ex : α → List Sl} {exb : β → List Sl} {pos px py pt pt2 : Pos} {n1 n2 : Str} {kt k2 : Nat}
/-- a, b = x, y in an except suite -/
theorem dss_parEEH {x y : m D} {k : D → D → m (Fl α β)} (hot : L2H.HotC X) (hnd : X.N.Nodup) (i j : Nat) (ha : PE X a (tE X.K X.mg fx G x)) (hb : PE X b (tE X.K X.mg fx G y)) (hr : ∀ d e, PSs X rest (tS X.K X.mg fx ((G.set i (.im d)).set j (.im e)) ex exb (k d e)))
    (hij : i ≠ j := by decide) (hi : X.N[i]? = some n1 := by rfl) (hj : X.N[j]? = some n2 := by rfl) (hx : X.env.scope.names.lookup n1 = some .local := by rfl) (hy : X.env.scope.names.lookup n2 = some .local := by rfl)
    (hw : swappedStores [.Tuple [.Name n1 px, .Name n2 py] kt pt] (.Tuple [a, b] k2 pt2) X.env = pure (some [n1, n2]) := by rfl)
    (hs : swapsWithSole [.Tuple [.Name n1 px, .Name n2 py] kt pt] (.Tuple [a, b] k2 pt2) pos.line X.env = pure false := by rfl)
    (hsa : starEach [a, b] X.env = (false, eval a X.env) :: starEach [b] X.env := by rfl) (hsb : starEach [b] X.env = (false, eval b X.env) :: starEach [] X.env := by rfl) (hg : GxOk fx G := by first | exact True.intro | repeat' (first | exact True.intro | exact Or.inl rfl | exact Or.inr rfl | refine And.intro ?_ ?_)) :
    PSs X (.Assign [.Tuple [.Name n1 px, .Name n2 py] kt pt] (.Tuple [a, b] k2 pt2) pos :: rest) (tS X.K X.mg fx G ex exb (do let d ← x; let e ← y; k d e)) :=
  pssI (pss_cons (ps_parH hot hnd hi hj hij hx hy (pa_cons ha (pa_cons hb pa_nil hsb) hsa) hw hs) (pss_ex (ι := D × D) fun r => hr r.1 r.2)) fun De σ H ⟨Hf, s, h⟩ =>
    ((h.bind hg).mono fun v H1 ⟨d, Hf1, s1, sb, r, h1⟩ => ((h1.bind hg).mono fun v2 H2 ⟨e, Hf2, s2, sb2, r2, h2⟩ => ⟨v, v2, rfl, (d, e), Hf2, s2, (h2.1.set (r.mono sb2)).set r2, h2.2⟩).to).to
end
theorem cool_none {mg : Str → Option Value} {cls : Value} (h : mg "BadRule" = none) : Cool mg cls := fun z => by rw [h] at z; cases z
end DL
namespace FN
open DL
def k__law_due_22c8_0 (a0 : D) (a1 : D) : R (Fl (Unit) (Empty)) := (do let v16 ← (do let r14 ← (do let x12 ← (pure (.str [114, 111, 119])); let r13 ← (do let x10 ← (do let x8 ← (pure a0); let y9 ← (do let r7 ← (do let x5 ← (pure a1); let r6 ← pure []; pure (x5 :: r6)); DL.ask (minL r7)); DL.ask (ixD x8 y9)); let r11 ← pure []; pure (x10 :: r11)); pure (x12 :: r13)); let r15 ← DL.ask (szL r14); pure (.tup r15)); pure (.rt v16))
theorem l__law_due_22c8_0 (a0 : D) (a1 : D) : k__law_due_22c8_0 a0 a1 = (do let v16 ← (do let r14 ← (do let x12 ← (pure (.str [114, 111, 119])); let r13 ← (do let x10 ← (do let x8 ← (pure a0); let y9 ← (do let r7 ← (do let x5 ← (pure a1); let r6 ← pure []; pure (x5 :: r6)); DL.ask (minL r7)); DL.ask (ixD x8 y9)); let r11 ← pure []; pure (x10 :: r11)); pure (x12 :: r13)); let r15 ← DL.ask (szL r14); pure (.tup r15)); pure (.rt v16)) := rfl
def k__law_due_22c8_1 (a0 : D) (c24 : D) : R (Fl (Unit) (Unit)) := (do let t44 ← (do let x32 ← (do let x25 ← (pure a0); let y26 ← (pure c24); DL.ask (ixD x25 y26)); let y33 ← (do let x29 ← (pure a0); let l30 ← (pure none); let u31 ← (do let x27 ← (pure c24); let i28 ← DL.ask (intOf x27); pure (some i28)); DL.ask (sliceD x29 l30 u31)); DL.ask ((inD x32 y33).bind bOf)); seqF (if t44 = true then (do let v43 ← (do let r41 ← (do let x39 ← (pure (.str [116, 119, 105, 99, 101])); let r40 ← (do let x37 ← (do let x35 ← (pure a0); let y36 ← (pure c24); DL.ask (ixD x35 y36)); let r38 ← pure []; pure (x37 :: r38)); pure (x39 :: r40)); let r42 ← DL.ask (szL r41); pure (.tup r42)); pure (.rt v43)) else (pure (.nx ()))) fun (q34 : Unit) => (pure (.nx ())))
theorem l__law_due_22c8_1 (a0 : D) (c24 : D) : k__law_due_22c8_1 a0 c24 = (do let t44 ← (do let x32 ← (do let x25 ← (pure a0); let y26 ← (pure c24); DL.ask (ixD x25 y26)); let y33 ← (do let x29 ← (pure a0); let l30 ← (pure none); let u31 ← (do let x27 ← (pure c24); let i28 ← DL.ask (intOf x27); pure (some i28)); DL.ask (sliceD x29 l30 u31)); DL.ask ((inD x32 y33).bind bOf)); seqF (if t44 = true then (do let v43 ← (do let r41 ← (do let x39 ← (pure (.str [116, 119, 105, 99, 101])); let r40 ← (do let x37 ← (do let x35 ← (pure a0); let y36 ← (pure c24); DL.ask (ixD x35 y36)); let r38 ← pure []; pure (x37 :: r38)); pure (x39 :: r40)); let r42 ← DL.ask (szL r41); pure (.tup r42)); pure (.rt v43)) else (pure (.nx ()))) fun (q34 : Unit) => (pure (.nx ()))) := rfl
def k__law_due_22c8_2 (a0 : D) : R (Fl (Unit) (Empty)) := (do let v57 ← (iteM (do let x49 ← (do let r48 ← (do let x46 ← (pure a0); let r47 ← pure []; pure (x46 :: r47)); DL.ask (lenD r48)); let y50 ← (pure (.int 8)); DL.ask ((gtD x49 y50).bind bOf)) (do let r55 ← (do let x53 ← (pure (.str [109, 97, 110, 121])); let r54 ← (do let x51 ← (pure (.int 8)); let r52 ← pure []; pure (x51 :: r52)); pure (x53 :: r54)); let r56 ← DL.ask (szL r55); pure (.tup r56)) (pure .non)); pure (.rt v57))
theorem l__law_due_22c8_2 (a0 : D) : k__law_due_22c8_2 a0 = (do let v57 ← (iteM (do let x49 ← (do let r48 ← (do let x46 ← (pure a0); let r47 ← pure []; pure (x46 :: r47)); DL.ask (lenD r48)); let y50 ← (pure (.int 8)); DL.ask ((gtD x49 y50).bind bOf)) (do let r55 ← (do let x53 ← (pure (.str [109, 97, 110, 121])); let r54 ← (do let x51 ← (pure (.int 8)); let r52 ← pure []; pure (x51 :: r52)); pure (x53 :: r54)); let r56 ← DL.ask (szL r55); pure (.tup r56)) (pure .non)); pure (.rt v57)) := rfl
def k__law_due_22c8_3 (a1 : D) (a0 : D) : R (Fl (Unit) (Empty)) := (do let t59 ← (do let x2 ← (pure a1); let y3 ← (mkL (do let r1 ← pure []; DL.ask (szL r1))); DL.ask ((neD x2 y3).bind bOf)); seqF (if t59 = true then (k__law_due_22c8_0 a0 a1) else (pure (.nx ()))) fun (q4 : Unit) => (do let r58 ← (do let r22 ← (do let x20 ← (do let r19 ← (do let x17 ← (pure a0); let r18 ← pure []; pure (x17 :: r18)); DL.ask (lenD r19)); let r21 ← pure []; pure (x20 :: r21)); DL.ask (rng1 r22)); seqF (forF (fun d => some d) (fun (q23 : Unit) (c24 : D) => (k__law_due_22c8_1 a0 c24)) r58 ()) fun (q45 : Unit) => (k__law_due_22c8_2 a0)))
theorem l__law_due_22c8_3 (a1 : D) (a0 : D) : k__law_due_22c8_3 a1 a0 = (do let t59 ← (do let x2 ← (pure a1); let y3 ← (mkL (do let r1 ← pure []; DL.ask (szL r1))); DL.ask ((neD x2 y3).bind bOf)); seqF (if t59 = true then (k__law_due_22c8_0 a0 a1) else (pure (.nx ()))) fun (q4 : Unit) => (do let r58 ← (do let r22 ← (do let x20 ← (do let r19 ← (do let x17 ← (pure a0); let r18 ← pure []; pure (x17 :: r18)); DL.ask (lenD r19)); let r21 ← pure []; pure (x20 :: r21)); DL.ask (rng1 r22)); seqF (forF (fun d => some d) (fun (q23 : Unit) (c24 : D) => (k__law_due_22c8_1 a0 c24)) r58 ()) fun (q45 : Unit) => (k__law_due_22c8_2 a0))) := rfl
def b__law_due_22c8 (a0 a1 : D) : R (Fl Unit Empty) := (k__law_due_22c8_3 a1 a0)
theorem e__law_due_22c8 (a0 a1 : D) : b__law_due_22c8 a0 a1 = (do let y3 ← (DL.ask (szL [])); let t59 ← (DL.ask ((neD a1 (.lst y3)).bind bOf)); seqF (if t59 = true then (do let y9 ← (DL.ask (minL [a1])); let x10 ← (DL.ask (ixD a0 y9)); let r15 ← DL.ask (szL [(.str [114, 111, 119]), x10]); pure (.rt (.tup r15))) else (pure (.nx ()))) fun (q4 : Unit) => (do let x20 ← (DL.ask (lenD [a0])); let r58 ← (DL.ask (rng1 [x20])); seqF (forF (fun d => some d) (fun (q23 : Unit) (c24 : D) => (do let x32 ← (DL.ask (ixD a0 c24)); let i28 ← DL.ask (intOf c24); let y33 ← (DL.ask (sliceD a0 none (some i28))); let t44 ← (DL.ask ((inD x32 y33).bind bOf)); seqF (if t44 = true then (do let x37 ← (DL.ask (ixD a0 c24)); let r42 ← DL.ask (szL [(.str [116, 119, 105, 99, 101]), x37]); pure (.rt (.tup r42))) else (pure (.nx ()))) fun (q34 : Unit) => (pure (.nx ())))) r58 ()) fun (q45 : Unit) => (do let v57 ← (iteM (do let x49 ← (DL.ask (lenD [a0])); DL.ask ((gtD x49 (.int 8)).bind bOf)) (do let r56 ← DL.ask (szL [(.str [109, 97, 110, 121]), (.int 8)]); pure (.tup r56)) (pure .non)); pure (.rt v57)))) := by
  unfold b__law_due_22c8; simp only [l__law_due_22c8_0, l__law_due_22c8_1, l__law_due_22c8_2, l__law_due_22c8_3, pure_bind, bind_assoc, mkL]
def m__law_due_22c8 : List D → R D := apR2 fun a0 a1 => (runR false (b__law_due_22c8 a0 a1))
theorem n__law_due_22c8 : ∀ ds : List D, m__law_due_22c8 ds ≠ .stuck → ds.length = 2 := apR2_len _
def b__law_same_9288 (a0 a1 : D) : R (Fl Unit Empty) := (do let v7 ← (andV (do let x1 ← (pure a0); let y2 ← (pure a1); DL.ask (eqD x1 y2)) (do let x5 ← (do let x3 ← (pure a0); DL.ask (isiD "bool" x3)); let y6 ← (do let x4 ← (pure a1); DL.ask (isiD "bool" x4)); DL.ask (eqD x5 y6))); pure (.rt v7))
theorem e__law_same_9288 (a0 a1 : D) : b__law_same_9288 a0 a1 = (do let v7 ← (andV (DL.ask (eqD a0 a1)) (do let x5 ← (DL.ask (isiD "bool" a0)); let y6 ← (DL.ask (isiD "bool" a1)); DL.ask (eqD x5 y6))); pure (.rt v7)) := by
  unfold b__law_same_9288; simp only [pure_bind, bind_assoc, mkL]
def m__law_same_9288 : List D → R D := apR2 fun a0 a1 => (runR false (b__law_same_9288 a0 a1))
theorem n__law_same_9288 : ∀ ds : List D, m__law_same_9288 ds ≠ .stuck → ds.length = 2 := apR2_len _
def k__law_odd_69a0_0 (v39 : D) (v1 : D) : M (Fl (Unit) (Empty)) := (do let v71 ← (do let x110 ← (pure v39); let y111 ← (mkL (do let r109 ← (do let x107 ← (do let x72 ← (pure v1); let y73 ← (pure (.str [10])); DL.ask (addD x72 y73)); let r108 ← (do let x105 ← (do let x74 ← (pure (.str [42, 46, 33])); let y75 ← (pure v1); DL.ask (addD x74 y75)); let r106 ← (do let x103 ← (do let x76 ← (pure (.str [33, 97, 46, 98, 46, 99, 46])); let y77 ← (pure v1); DL.ask (addD x76 y77)); let r104 ← (do let x101 ← (do let x78 ← (pure (.str [97])); let y79 ← (pure (.int 21)); DL.ask (mulD x78 y79)); let r102 ← (do let x99 ← (pure .non); let r100 ← (do let x97 ← (pure (.bl true)); let r98 ← (do let x95 ← (pure (.int 1)); let r96 ← (do let x93 ← (do let r82 ← (do let x80 ← (pure v1); let r81 ← pure []; pure (x80 :: r81)); let r83 ← DL.ask (szL r82); pure (.tup r83)); let r94 ← (do let x91 ← (mkL (do let r86 ← (do let x84 ← (pure v1); let r85 ← pure []; pure (x84 :: r85)); DL.ask (szL r86))); let r92 ← (do let x89 ← (do let x87 ← (pure (.str [42, 42, 46])); let y88 ← (pure v1); DL.ask (addD x87 y88)); let r90 ← pure []; pure (x89 :: r90)); pure (x91 :: r92)); pure (x93 :: r94)); pure (x95 :: r96)); pure (x97 :: r98)); pure (x99 :: r100)); pure (x101 :: r102)); pure (x103 :: r104)); pure (x105 :: r106)); pure (x107 :: r108)); DL.ask (szL r109))); DL.ask (addD x110 y111)); (do let v115 ← (do let r114 ← (do let x112 ← (pure v71); let r113 ← pure []; pure (x112 :: r113)); m__law_of_8ba0 r114); pure (.rt v115)))
theorem l__law_odd_69a0_0 (v39 : D) (v1 : D) : k__law_odd_69a0_0 v39 v1 = (do let v71 ← (do let x110 ← (pure v39); let y111 ← (mkL (do let r109 ← (do let x107 ← (do let x72 ← (pure v1); let y73 ← (pure (.str [10])); DL.ask (addD x72 y73)); let r108 ← (do let x105 ← (do let x74 ← (pure (.str [42, 46, 33])); let y75 ← (pure v1); DL.ask (addD x74 y75)); let r106 ← (do let x103 ← (do let x76 ← (pure (.str [33, 97, 46, 98, 46, 99, 46])); let y77 ← (pure v1); DL.ask (addD x76 y77)); let r104 ← (do let x101 ← (do let x78 ← (pure (.str [97])); let y79 ← (pure (.int 21)); DL.ask (mulD x78 y79)); let r102 ← (do let x99 ← (pure .non); let r100 ← (do let x97 ← (pure (.bl true)); let r98 ← (do let x95 ← (pure (.int 1)); let r96 ← (do let x93 ← (do let r82 ← (do let x80 ← (pure v1); let r81 ← pure []; pure (x80 :: r81)); let r83 ← DL.ask (szL r82); pure (.tup r83)); let r94 ← (do let x91 ← (mkL (do let r86 ← (do let x84 ← (pure v1); let r85 ← pure []; pure (x84 :: r85)); DL.ask (szL r86))); let r92 ← (do let x89 ← (do let x87 ← (pure (.str [42, 42, 46])); let y88 ← (pure v1); DL.ask (addD x87 y88)); let r90 ← pure []; pure (x89 :: r90)); pure (x91 :: r92)); pure (x93 :: r94)); pure (x95 :: r96)); pure (x97 :: r98)); pure (x99 :: r100)); pure (x101 :: r102)); pure (x103 :: r104)); pure (x105 :: r106)); pure (x107 :: r108)); DL.ask (szL r109))); DL.ask (addD x110 y111)); (do let v115 ← (do let r114 ← (do let x112 ← (pure v71); let r113 ← pure []; pure (x112 :: r113)); m__law_of_8ba0 r114); pure (.rt v115))) := rfl
def k__law_odd_69a0_1 (v5 : D) (v1 : D) : M (Fl (Unit) (Empty)) := (do let v39 ← (do let x69 ← (pure v5); let y70 ← (mkL (do let r68 ← (do let x66 ← (do let x40 ← (pure (.str [97, 46, 98, 46, 99, 46])); let y41 ← (pure v1); DL.ask (addD x40 y41)); let r67 ← (do let x64 ← (do let x42 ← (pure v1); let y43 ← (pure (.str [42])); DL.ask (addD x42 y43)); let r65 ← (do let x62 ← (do let x44 ← (pure (.str [42])); let y45 ← (pure v1); DL.ask (addD x44 y45)); let r63 ← (do let x60 ← (do let x46 ← (pure (.str [42, 46, 42, 46])); let y47 ← (pure v1); DL.ask (addD x46 y47)); let r61 ← (do let x58 ← (do let x48 ← (pure (.str [33, 42, 46])); let y49 ← (pure v1); DL.ask (addD x48 y49)); let r59 ← (do let x56 ← (do let x50 ← (pure v1); let y51 ← (pure (.str [46, 65])); DL.ask (addD x50 y51)); let r57 ← (do let x54 ← (do let x52 ← (pure v1); let y53 ← (pure (.str [32])); DL.ask (addD x52 y53)); let r55 ← pure []; pure (x54 :: r55)); pure (x56 :: r57)); pure (x58 :: r59)); pure (x60 :: r61)); pure (x62 :: r63)); pure (x64 :: r65)); pure (x66 :: r67)); DL.ask (szL r68))); DL.ask (addD x69 y70)); (k__law_odd_69a0_0 v39 v1))
theorem l__law_odd_69a0_1 (v5 : D) (v1 : D) : k__law_odd_69a0_1 v5 v1 = (do let v39 ← (do let x69 ← (pure v5); let y70 ← (mkL (do let r68 ← (do let x66 ← (do let x40 ← (pure (.str [97, 46, 98, 46, 99, 46])); let y41 ← (pure v1); DL.ask (addD x40 y41)); let r67 ← (do let x64 ← (do let x42 ← (pure v1); let y43 ← (pure (.str [42])); DL.ask (addD x42 y43)); let r65 ← (do let x62 ← (do let x44 ← (pure (.str [42])); let y45 ← (pure v1); DL.ask (addD x44 y45)); let r63 ← (do let x60 ← (do let x46 ← (pure (.str [42, 46, 42, 46])); let y47 ← (pure v1); DL.ask (addD x46 y47)); let r61 ← (do let x58 ← (do let x48 ← (pure (.str [33, 42, 46])); let y49 ← (pure v1); DL.ask (addD x48 y49)); let r59 ← (do let x56 ← (do let x50 ← (pure v1); let y51 ← (pure (.str [46, 65])); DL.ask (addD x50 y51)); let r57 ← (do let x54 ← (do let x52 ← (pure v1); let y53 ← (pure (.str [32])); DL.ask (addD x52 y53)); let r55 ← pure []; pure (x54 :: r55)); pure (x56 :: r57)); pure (x58 :: r59)); pure (x60 :: r61)); pure (x62 :: r63)); pure (x64 :: r65)); pure (x66 :: r67)); DL.ask (szL r68))); DL.ask (addD x69 y70)); (k__law_odd_69a0_0 v39 v1)) := rfl
def k__law_odd_69a0_2 (v1 : D) : M (Fl (Unit) (Empty)) := (do let v5 ← (mkL (do let r38 ← (do let x36 ← (pure (.str [])); let r37 ← (do let x34 ← (pure (.str [42])); let r35 ← (do let x32 ← (pure (.str [42, 46])); let r33 ← (do let x30 ← (pure (.str [33])); let r31 ← (do let x28 ← (do let x6 ← (pure (.str [33])); let y7 ← (pure v1); DL.ask (addD x6 y7)); let r29 ← (do let x26 ← (do let x8 ← (pure v1); let y9 ← (pure (.str [46])); DL.ask (addD x8 y9)); let r27 ← (do let x24 ← (do let x10 ← (pure (.str [46])); let y11 ← (pure v1); DL.ask (addD x10 y11)); let r25 ← (do let x22 ← (do let x14 ← (do let x12 ← (pure v1); let y13 ← (pure (.str [46, 46])); DL.ask (addD x12 y13)); let y15 ← (pure v1); DL.ask (addD x14 y15)); let r23 ← (do let x20 ← (do let x18 ← (do let x16 ← (pure (.str [42, 46])); let y17 ← (pure v1); DL.ask (addD x16 y17)); let y19 ← (pure (.str [46, 97, 46, 98])); DL.ask (addD x18 y19)); let r21 ← pure []; pure (x20 :: r21)); pure (x22 :: r23)); pure (x24 :: r25)); pure (x26 :: r27)); pure (x28 :: r29)); pure (x30 :: r31)); pure (x32 :: r33)); pure (x34 :: r35)); pure (x36 :: r37)); DL.ask (szL r38))); (k__law_odd_69a0_1 v5 v1))
theorem l__law_odd_69a0_2 (v1 : D) : k__law_odd_69a0_2 v1 = (do let v5 ← (mkL (do let r38 ← (do let x36 ← (pure (.str [])); let r37 ← (do let x34 ← (pure (.str [42])); let r35 ← (do let x32 ← (pure (.str [42, 46])); let r33 ← (do let x30 ← (pure (.str [33])); let r31 ← (do let x28 ← (do let x6 ← (pure (.str [33])); let y7 ← (pure v1); DL.ask (addD x6 y7)); let r29 ← (do let x26 ← (do let x8 ← (pure v1); let y9 ← (pure (.str [46])); DL.ask (addD x8 y9)); let r27 ← (do let x24 ← (do let x10 ← (pure (.str [46])); let y11 ← (pure v1); DL.ask (addD x10 y11)); let r25 ← (do let x22 ← (do let x14 ← (do let x12 ← (pure v1); let y13 ← (pure (.str [46, 46])); DL.ask (addD x12 y13)); let y15 ← (pure v1); DL.ask (addD x14 y15)); let r23 ← (do let x20 ← (do let x18 ← (do let x16 ← (pure (.str [42, 46])); let y17 ← (pure v1); DL.ask (addD x16 y17)); let y19 ← (pure (.str [46, 97, 46, 98])); DL.ask (addD x18 y19)); let r21 ← pure []; pure (x20 :: r21)); pure (x22 :: r23)); pure (x24 :: r25)); pure (x26 :: r27)); pure (x28 :: r29)); pure (x30 :: r31)); pure (x32 :: r33)); pure (x34 :: r35)); pure (x36 :: r37)); DL.ask (szL r38))); (k__law_odd_69a0_1 v5 v1)) := rfl
def b__law_odd_69a0 (a1 : D) : M (Fl Unit Empty) := (do let v1 ← (do let r4 ← (do let x2 ← (pure a1); let r3 ← pure []; pure (x2 :: r3)); m__law_of_8ba0 r4); (k__law_odd_69a0_2 v1))
theorem e__law_odd_69a0 (a1 : D) : b__law_odd_69a0 a1 = (do let v1 ← (m__law_of_8ba0 [a1]); let x28 ← (DL.ask (addD (.str [33]) v1)); let x26 ← (DL.ask (addD v1 (.str [46]))); let x24 ← (DL.ask (addD (.str [46]) v1)); let x14 ← (DL.ask (addD v1 (.str [46, 46]))); let x22 ← (DL.ask (addD x14 v1)); let x18 ← (DL.ask (addD (.str [42, 46]) v1)); let x20 ← (DL.ask (addD x18 (.str [46, 97, 46, 98]))); let v5 ← (DL.ask (szL [(.str []), (.str [42]), (.str [42, 46]), (.str [33]), x28, x26, x24, x22, x20])); let x66 ← (DL.ask (addD (.str [97, 46, 98, 46, 99, 46]) v1)); let x64 ← (DL.ask (addD v1 (.str [42]))); let x62 ← (DL.ask (addD (.str [42]) v1)); let x60 ← (DL.ask (addD (.str [42, 46, 42, 46]) v1)); let x58 ← (DL.ask (addD (.str [33, 42, 46]) v1)); let x56 ← (DL.ask (addD v1 (.str [46, 65]))); let x54 ← (DL.ask (addD v1 (.str [32]))); let y70 ← (DL.ask (szL [x66, x64, x62, x60, x58, x56, x54])); let v39 ← (DL.ask (addD (.lst v5) (.lst y70))); let x107 ← (DL.ask (addD v1 (.str [10]))); let x105 ← (DL.ask (addD (.str [42, 46, 33]) v1)); let x103 ← (DL.ask (addD (.str [33, 97, 46, 98, 46, 99, 46]) v1)); let x101 ← (DL.ask (mulD (.str [97]) (.int 21))); let r83 ← DL.ask (szL [v1]); let x91 ← (DL.ask (szL [v1])); let x89 ← (DL.ask (addD (.str [42, 42, 46]) v1)); let y111 ← (DL.ask (szL [x107, x105, x103, x101, .non, (.bl true), (.int 1), (.tup r83), (.lst x91), x89])); let v71 ← (DL.ask (addD v39 (.lst y111))); let v115 ← (m__law_of_8ba0 [v71]); pure (.rt v115)) := by
  unfold b__law_odd_69a0; simp only [l__law_odd_69a0_0, l__law_odd_69a0_1, l__law_odd_69a0_2, pure_bind, bind_assoc, mkL]
def m__law_odd_69a0 : List D → M D := apM1 fun a1 => (runM false (b__law_odd_69a0 a1))
theorem n__law_odd_69a0 : ∀ ds s, m__law_odd_69a0 ds s ≠ .stuck → ds.length = 1 := apM1_len _
def k_Table_init_f8f8_0 (c17 : D × D) (a1 : D) : R (Fl (Unit) (Unit)) := (do let t27 ← (do let x23 ← (pure c17.2); let y24 ← (do let x20 ← (pure a1); let l21 ← (pure none); let u22 ← (do let x18 ← (pure c17.1); let i19 ← DL.ask (intOf x18); pure (some i19)); DL.ask (sliceD x20 l21 u22)); DL.ask ((inD x23 y24).bind bOf)); seqF (if t27 = true then (do let v26 ← (pure c17.2); raiseX "Twice" "name" v26) else (pure (.nx ()))) fun (q25 : Unit) => (pure (.nx ())))
theorem l_Table_init_f8f8_0 (c17 : D × D) (a1 : D) : k_Table_init_f8f8_0 c17 a1 = (do let t27 ← (do let x23 ← (pure c17.2); let y24 ← (do let x20 ← (pure a1); let l21 ← (pure none); let u22 ← (do let x18 ← (pure c17.1); let i19 ← DL.ask (intOf x18); pure (some i19)); DL.ask (sliceD x20 l21 u22)); DL.ask ((inD x23 y24).bind bOf)); seqF (if t27 = true then (do let v26 ← (pure c17.2); raiseX "Twice" "name" v26) else (pure (.nx ()))) fun (q25 : Unit) => (pure (.nx ()))) := rfl
def k_Table_init_f8f8_1 (a1 : D) (v36 : D) : R (Fl (List D) (Empty)) := (do let v40 ← (do let r50 ← (do let x48 ← (mkL (do let r47 ← (do let r41 ← (pure a1); DL.ask (itD r41)); lcF (fun d => some d) (fun (c43 : D) => pure true) (fun (c43 : D) => (do let r46 ← (do let x44 ← (pure c43); let r45 ← pure []; pure (x44 :: r45)); Mo.lift (m_parsed_row_b892 r46))) r47)); let r49 ← pure []; pure (x48 :: r49)); DL.ask (tupleD r50)); (pure (.nx [v36, v40])))
theorem l_Table_init_f8f8_1 (a1 : D) (v36 : D) : k_Table_init_f8f8_1 a1 v36 = (do let v40 ← (do let r50 ← (do let x48 ← (mkL (do let r47 ← (do let r41 ← (pure a1); DL.ask (itD r41)); lcF (fun d => some d) (fun (c43 : D) => pure true) (fun (c43 : D) => (do let r46 ← (do let x44 ← (pure c43); let r45 ← pure []; pure (x44 :: r45)); Mo.lift (m_parsed_row_b892 r46))) r47)); let r49 ← pure []; pure (x48 :: r49)); DL.ask (tupleD r50)); (pure (.nx [v36, v40]))) := rfl
def k_Table_init_f8f8_2 (a1 : D) : R (Fl (List D) (Empty)) := (do let t51 ← (do let x32 ← (do let r31 ← (do let x29 ← (pure a1); let r30 ← pure []; pure (x29 :: r30)); DL.ask (lenD r31)); let y33 ← (pure c_MOST_ROWS); DL.ask ((gtD x32 y33).bind bOf)); seqF (if t51 = true then (do let v35 ← (pure c_MOST_ROWS); raiseX "TooMany" "limit" v35) else (pure (.nx ()))) fun (q34 : Unit) => (do let v36 ← (do let r39 ← (do let x37 ← (pure a1); let r38 ← pure []; pure (x37 :: r38)); DL.ask (tupleD r39)); (k_Table_init_f8f8_1 a1 v36)))
theorem l_Table_init_f8f8_2 (a1 : D) : k_Table_init_f8f8_2 a1 = (do let t51 ← (do let x32 ← (do let r31 ← (do let x29 ← (pure a1); let r30 ← pure []; pure (x29 :: r30)); DL.ask (lenD r31)); let y33 ← (pure c_MOST_ROWS); DL.ask ((gtD x32 y33).bind bOf)); seqF (if t51 = true then (do let v35 ← (pure c_MOST_ROWS); raiseX "TooMany" "limit" v35) else (pure (.nx ()))) fun (q34 : Unit) => (do let v36 ← (do let r39 ← (do let x37 ← (pure a1); let r38 ← pure []; pure (x37 :: r38)); DL.ask (tupleD r39)); (k_Table_init_f8f8_1 a1 v36))) := rfl
def k_Table_init_f8f8_3 (a1 : D) : R (Fl (List D) (Empty)) := (do let r53 ← (do let r1 ← (pure a1); DL.ask (itD r1)); seqF (forF (fun d => some d) (fun (q2 : Unit) (c3 : D) => (do let t11 ← (do let x7 ← (do let r6 ← (do let x4 ← (pure c3); let r5 ← pure []; pure (x4 :: r5)); Mo.lift (m_parsed_row_b892 r6)); let y8 ← (pure .non); DL.ask ((isD x7 y8).bind bOf)); seqF (if t11 = true then (do let v10 ← (pure c3); raiseX "BadRow" "row" v10) else (pure (.nx ()))) fun (q9 : Unit) => (pure (.nx ())))) r53 ()) fun (q12 : Unit) => (do let r52 ← (do let r15 ← (do let x13 ← (pure a1); let r14 ← pure []; pure (x13 :: r14)); DL.ask (enumT r15)); seqF (forF un2 (fun (q16 : Unit) (c17 : D × D) => (k_Table_init_f8f8_0 c17 a1)) r52 ()) fun (q28 : Unit) => (k_Table_init_f8f8_2 a1)))
theorem l_Table_init_f8f8_3 (a1 : D) : k_Table_init_f8f8_3 a1 = (do let r53 ← (do let r1 ← (pure a1); DL.ask (itD r1)); seqF (forF (fun d => some d) (fun (q2 : Unit) (c3 : D) => (do let t11 ← (do let x7 ← (do let r6 ← (do let x4 ← (pure c3); let r5 ← pure []; pure (x4 :: r5)); Mo.lift (m_parsed_row_b892 r6)); let y8 ← (pure .non); DL.ask ((isD x7 y8).bind bOf)); seqF (if t11 = true then (do let v10 ← (pure c3); raiseX "BadRow" "row" v10) else (pure (.nx ()))) fun (q9 : Unit) => (pure (.nx ())))) r53 ()) fun (q12 : Unit) => (do let r52 ← (do let r15 ← (do let x13 ← (pure a1); let r14 ← pure []; pure (x13 :: r14)); DL.ask (enumT r15)); seqF (forF un2 (fun (q16 : Unit) (c17 : D × D) => (k_Table_init_f8f8_0 c17 a1)) r52 ()) fun (q28 : Unit) => (k_Table_init_f8f8_2 a1))) := rfl
def b_Table_init_f8f8 (a1 : D) : R (Fl (List D) Empty) := (k_Table_init_f8f8_3 a1)
theorem e_Table_init_f8f8 (a1 : D) : b_Table_init_f8f8 a1 = (do let r53 ← (DL.ask (itD a1)); seqF (forF (fun d => some d) (fun (q2 : Unit) (c3 : D) => (do let x7 ← (Mo.lift (m_parsed_row_b892 [c3])); let t11 ← (DL.ask ((isD x7 .non).bind bOf)); seqF (if t11 = true then (raiseX "BadRow" "row" c3) else (pure (.nx ()))) fun (q9 : Unit) => (pure (.nx ())))) r53 ()) fun (q12 : Unit) => (do let r52 ← (DL.ask (enumT [a1])); seqF (forF un2 (fun (q16 : Unit) (c17 : D × D) => (do let i19 ← DL.ask (intOf c17.1); let y24 ← (DL.ask (sliceD a1 none (some i19))); let t27 ← (DL.ask ((inD c17.2 y24).bind bOf)); seqF (if t27 = true then (raiseX "Twice" "name" c17.2) else (pure (.nx ()))) fun (q25 : Unit) => (pure (.nx ())))) r52 ()) fun (q28 : Unit) => (do let x32 ← (DL.ask (lenD [a1])); let t51 ← (DL.ask ((gtD x32 c_MOST_ROWS).bind bOf)); seqF (if t51 = true then (raiseX "TooMany" "limit" c_MOST_ROWS) else (pure (.nx ()))) fun (q34 : Unit) => (do let v36 ← (DL.ask (tupleD [a1])); let r47 ← (DL.ask (itD a1)); let x48 ← (lcF (fun d => some d) (fun (c43 : D) => pure true) (fun (c43 : D) => (Mo.lift (m_parsed_row_b892 [c43]))) r47); let v40 ← (DL.ask (tupleD [(.lst x48)])); (pure (.nx [v36, v40])))))) := by
  unfold b_Table_init_f8f8; simp only [l_Table_init_f8f8_0, l_Table_init_f8f8_1, l_Table_init_f8f8_2, l_Table_init_f8f8_3, pure_bind, bind_assoc, mkL]
def m_Table_init_f8f8 : List D → R (List D) := apI1 fun a1 => runI (b_Table_init_f8f8 a1)
def k__law_table_289a_0 (a0 : D) : R (Fl (Unit) (Empty)) := (do let v33 ← (iteM (do let x8 ← (pure a0); let y9 ← (mkL (do let r7 ← pure []; DL.ask (szL r7))); DL.ask ((eqD x8 y9).bind bOf)) (do let r10 ← pure []; let o11 ← Mo.lift (starD 0 m_Table_init_f8f8 r10); pure (D.ins "Table" ["rows", "parsed"] o11)) (iteM (do let x15 ← (do let r14 ← (do let x12 ← (pure a0); let r13 ← pure []; pure (x12 :: r13)); DL.ask (lenD r14)); let y16 ← (pure (.int 1)); DL.ask ((eqD x15 y16).bind bOf)) (do let r21 ← (do let x19 ← (do let x17 ← (pure a0); let y18 ← (pure (.int 0)); DL.ask (ixD x17 y18)); let r20 ← pure []; pure (x19 :: r20)); let o22 ← Mo.lift (starD 0 m_Table_init_f8f8 r21); pure (D.ins "Table" ["rows", "parsed"] o22)) (do let r31 ← (do let x29 ← (do let x23 ← (pure a0); let y24 ← (pure (.int 0)); DL.ask (ixD x23 y24)); let r30 ← (do let x27 ← (do let x25 ← (pure a0); let y26 ← (pure (.int 1)); DL.ask (ixD x25 y26)); let r28 ← pure []; pure (x27 :: r28)); pure (x29 :: r30)); let o32 ← Mo.lift (starD 0 m_Table_init_f8f8 r31); pure (D.ins "Table" ["rows", "parsed"] o32)))); pure (.rt v33))
theorem l__law_table_289a_0 (a0 : D) : k__law_table_289a_0 a0 = (do let v33 ← (iteM (do let x8 ← (pure a0); let y9 ← (mkL (do let r7 ← pure []; DL.ask (szL r7))); DL.ask ((eqD x8 y9).bind bOf)) (do let r10 ← pure []; let o11 ← Mo.lift (starD 0 m_Table_init_f8f8 r10); pure (D.ins "Table" ["rows", "parsed"] o11)) (iteM (do let x15 ← (do let r14 ← (do let x12 ← (pure a0); let r13 ← pure []; pure (x12 :: r13)); DL.ask (lenD r14)); let y16 ← (pure (.int 1)); DL.ask ((eqD x15 y16).bind bOf)) (do let r21 ← (do let x19 ← (do let x17 ← (pure a0); let y18 ← (pure (.int 0)); DL.ask (ixD x17 y18)); let r20 ← pure []; pure (x19 :: r20)); let o22 ← Mo.lift (starD 0 m_Table_init_f8f8 r21); pure (D.ins "Table" ["rows", "parsed"] o22)) (do let r31 ← (do let x29 ← (do let x23 ← (pure a0); let y24 ← (pure (.int 0)); DL.ask (ixD x23 y24)); let r30 ← (do let x27 ← (do let x25 ← (pure a0); let y26 ← (pure (.int 1)); DL.ask (ixD x25 y26)); let r28 ← pure []; pure (x27 :: r28)); pure (x29 :: r30)); let o32 ← Mo.lift (starD 0 m_Table_init_f8f8 r31); pure (D.ins "Table" ["rows", "parsed"] o32)))); pure (.rt v33)) := rfl
def k__law_table_289a_1 (a0 : D) : R (Fl (Unit) (Empty)) := (do let v54 ← (do let r52 ← (do let x50 ← (do let x40 ← (pure a0); let y41 ← (pure (.int 0)); DL.ask (ixD x40 y41)); let r51 ← (do let x48 ← (do let x42 ← (pure a0); let y43 ← (pure (.int 1)); DL.ask (ixD x42 y43)); let r49 ← (do let x46 ← (do let x44 ← (pure a0); let y45 ← (pure (.int 2)); DL.ask (ixD x44 y45)); let r47 ← pure []; pure (x46 :: r47)); pure (x48 :: r49)); pure (x50 :: r51)); let o53 ← Mo.lift (starD 0 m_Table_init_f8f8 r52); pure (D.ins "Table" ["rows", "parsed"] o53)); pure (.rt v54))
theorem l__law_table_289a_1 (a0 : D) : k__law_table_289a_1 a0 = (do let v54 ← (do let r52 ← (do let x50 ← (do let x40 ← (pure a0); let y41 ← (pure (.int 0)); DL.ask (ixD x40 y41)); let r51 ← (do let x48 ← (do let x42 ← (pure a0); let y43 ← (pure (.int 1)); DL.ask (ixD x42 y43)); let r49 ← (do let x46 ← (do let x44 ← (pure a0); let y45 ← (pure (.int 2)); DL.ask (ixD x44 y45)); let r47 ← pure []; pure (x46 :: r47)); pure (x48 :: r49)); pure (x50 :: r51)); let o53 ← Mo.lift (starD 0 m_Table_init_f8f8 r52); pure (D.ins "Table" ["rows", "parsed"] o53)); pure (.rt v54)) := rfl
def k__law_table_289a_2 (a0 : D) : R (Fl (Unit) (Empty)) := (do let v79 ← (do let r77 ← (do let x75 ← (do let x61 ← (pure a0); let y62 ← (pure (.int 0)); DL.ask (ixD x61 y62)); let r76 ← (do let x73 ← (do let x63 ← (pure a0); let y64 ← (pure (.int 1)); DL.ask (ixD x63 y64)); let r74 ← (do let x71 ← (do let x65 ← (pure a0); let y66 ← (pure (.int 2)); DL.ask (ixD x65 y66)); let r72 ← (do let x69 ← (do let x67 ← (pure a0); let y68 ← (pure (.int 3)); DL.ask (ixD x67 y68)); let r70 ← pure []; pure (x69 :: r70)); pure (x71 :: r72)); pure (x73 :: r74)); pure (x75 :: r76)); let o78 ← Mo.lift (starD 0 m_Table_init_f8f8 r77); pure (D.ins "Table" ["rows", "parsed"] o78)); pure (.rt v79))
theorem l__law_table_289a_2 (a0 : D) : k__law_table_289a_2 a0 = (do let v79 ← (do let r77 ← (do let x75 ← (do let x61 ← (pure a0); let y62 ← (pure (.int 0)); DL.ask (ixD x61 y62)); let r76 ← (do let x73 ← (do let x63 ← (pure a0); let y64 ← (pure (.int 1)); DL.ask (ixD x63 y64)); let r74 ← (do let x71 ← (do let x65 ← (pure a0); let y66 ← (pure (.int 2)); DL.ask (ixD x65 y66)); let r72 ← (do let x69 ← (do let x67 ← (pure a0); let y68 ← (pure (.int 3)); DL.ask (ixD x67 y68)); let r70 ← pure []; pure (x69 :: r70)); pure (x71 :: r72)); pure (x73 :: r74)); pure (x75 :: r76)); let o78 ← Mo.lift (starD 0 m_Table_init_f8f8 r77); pure (D.ins "Table" ["rows", "parsed"] o78)); pure (.rt v79)) := rfl
def k__law_table_289a_3 (a0 : D) : R (Fl (Unit) (Empty)) := (do let v108 ← (do let r106 ← (do let x104 ← (do let x86 ← (pure a0); let y87 ← (pure (.int 0)); DL.ask (ixD x86 y87)); let r105 ← (do let x102 ← (do let x88 ← (pure a0); let y89 ← (pure (.int 1)); DL.ask (ixD x88 y89)); let r103 ← (do let x100 ← (do let x90 ← (pure a0); let y91 ← (pure (.int 2)); DL.ask (ixD x90 y91)); let r101 ← (do let x98 ← (do let x92 ← (pure a0); let y93 ← (pure (.int 3)); DL.ask (ixD x92 y93)); let r99 ← (do let x96 ← (do let x94 ← (pure a0); let y95 ← (pure (.int 4)); DL.ask (ixD x94 y95)); let r97 ← pure []; pure (x96 :: r97)); pure (x98 :: r99)); pure (x100 :: r101)); pure (x102 :: r103)); pure (x104 :: r105)); let o107 ← Mo.lift (starD 0 m_Table_init_f8f8 r106); pure (D.ins "Table" ["rows", "parsed"] o107)); pure (.rt v108))
theorem l__law_table_289a_3 (a0 : D) : k__law_table_289a_3 a0 = (do let v108 ← (do let r106 ← (do let x104 ← (do let x86 ← (pure a0); let y87 ← (pure (.int 0)); DL.ask (ixD x86 y87)); let r105 ← (do let x102 ← (do let x88 ← (pure a0); let y89 ← (pure (.int 1)); DL.ask (ixD x88 y89)); let r103 ← (do let x100 ← (do let x90 ← (pure a0); let y91 ← (pure (.int 2)); DL.ask (ixD x90 y91)); let r101 ← (do let x98 ← (do let x92 ← (pure a0); let y93 ← (pure (.int 3)); DL.ask (ixD x92 y93)); let r99 ← (do let x96 ← (do let x94 ← (pure a0); let y95 ← (pure (.int 4)); DL.ask (ixD x94 y95)); let r97 ← pure []; pure (x96 :: r97)); pure (x98 :: r99)); pure (x100 :: r101)); pure (x102 :: r103)); pure (x104 :: r105)); let o107 ← Mo.lift (starD 0 m_Table_init_f8f8 r106); pure (D.ins "Table" ["rows", "parsed"] o107)); pure (.rt v108)) := rfl
def k__law_table_289a_4 (a0 : D) : R (Fl (Unit) (Empty)) := (do let v141 ← (do let r139 ← (do let x137 ← (do let x115 ← (pure a0); let y116 ← (pure (.int 0)); DL.ask (ixD x115 y116)); let r138 ← (do let x135 ← (do let x117 ← (pure a0); let y118 ← (pure (.int 1)); DL.ask (ixD x117 y118)); let r136 ← (do let x133 ← (do let x119 ← (pure a0); let y120 ← (pure (.int 2)); DL.ask (ixD x119 y120)); let r134 ← (do let x131 ← (do let x121 ← (pure a0); let y122 ← (pure (.int 3)); DL.ask (ixD x121 y122)); let r132 ← (do let x129 ← (do let x123 ← (pure a0); let y124 ← (pure (.int 4)); DL.ask (ixD x123 y124)); let r130 ← (do let x127 ← (do let x125 ← (pure a0); let y126 ← (pure (.int 5)); DL.ask (ixD x125 y126)); let r128 ← pure []; pure (x127 :: r128)); pure (x129 :: r130)); pure (x131 :: r132)); pure (x133 :: r134)); pure (x135 :: r136)); pure (x137 :: r138)); let o140 ← Mo.lift (starD 0 m_Table_init_f8f8 r139); pure (D.ins "Table" ["rows", "parsed"] o140)); pure (.rt v141))
theorem l__law_table_289a_4 (a0 : D) : k__law_table_289a_4 a0 = (do let v141 ← (do let r139 ← (do let x137 ← (do let x115 ← (pure a0); let y116 ← (pure (.int 0)); DL.ask (ixD x115 y116)); let r138 ← (do let x135 ← (do let x117 ← (pure a0); let y118 ← (pure (.int 1)); DL.ask (ixD x117 y118)); let r136 ← (do let x133 ← (do let x119 ← (pure a0); let y120 ← (pure (.int 2)); DL.ask (ixD x119 y120)); let r134 ← (do let x131 ← (do let x121 ← (pure a0); let y122 ← (pure (.int 3)); DL.ask (ixD x121 y122)); let r132 ← (do let x129 ← (do let x123 ← (pure a0); let y124 ← (pure (.int 4)); DL.ask (ixD x123 y124)); let r130 ← (do let x127 ← (do let x125 ← (pure a0); let y126 ← (pure (.int 5)); DL.ask (ixD x125 y126)); let r128 ← pure []; pure (x127 :: r128)); pure (x129 :: r130)); pure (x131 :: r132)); pure (x133 :: r134)); pure (x135 :: r136)); pure (x137 :: r138)); let o140 ← Mo.lift (starD 0 m_Table_init_f8f8 r139); pure (D.ins "Table" ["rows", "parsed"] o140)); pure (.rt v141)) := rfl
def k__law_table_289a_5 (a0 : D) : R (Fl (Unit) (Empty)) := (do let v178 ← (do let r176 ← (do let x174 ← (do let x148 ← (pure a0); let y149 ← (pure (.int 0)); DL.ask (ixD x148 y149)); let r175 ← (do let x172 ← (do let x150 ← (pure a0); let y151 ← (pure (.int 1)); DL.ask (ixD x150 y151)); let r173 ← (do let x170 ← (do let x152 ← (pure a0); let y153 ← (pure (.int 2)); DL.ask (ixD x152 y153)); let r171 ← (do let x168 ← (do let x154 ← (pure a0); let y155 ← (pure (.int 3)); DL.ask (ixD x154 y155)); let r169 ← (do let x166 ← (do let x156 ← (pure a0); let y157 ← (pure (.int 4)); DL.ask (ixD x156 y157)); let r167 ← (do let x164 ← (do let x158 ← (pure a0); let y159 ← (pure (.int 5)); DL.ask (ixD x158 y159)); let r165 ← (do let x162 ← (do let x160 ← (pure a0); let y161 ← (pure (.int 6)); DL.ask (ixD x160 y161)); let r163 ← pure []; pure (x162 :: r163)); pure (x164 :: r165)); pure (x166 :: r167)); pure (x168 :: r169)); pure (x170 :: r171)); pure (x172 :: r173)); pure (x174 :: r175)); let o177 ← Mo.lift (starD 0 m_Table_init_f8f8 r176); pure (D.ins "Table" ["rows", "parsed"] o177)); pure (.rt v178))
theorem l__law_table_289a_5 (a0 : D) : k__law_table_289a_5 a0 = (do let v178 ← (do let r176 ← (do let x174 ← (do let x148 ← (pure a0); let y149 ← (pure (.int 0)); DL.ask (ixD x148 y149)); let r175 ← (do let x172 ← (do let x150 ← (pure a0); let y151 ← (pure (.int 1)); DL.ask (ixD x150 y151)); let r173 ← (do let x170 ← (do let x152 ← (pure a0); let y153 ← (pure (.int 2)); DL.ask (ixD x152 y153)); let r171 ← (do let x168 ← (do let x154 ← (pure a0); let y155 ← (pure (.int 3)); DL.ask (ixD x154 y155)); let r169 ← (do let x166 ← (do let x156 ← (pure a0); let y157 ← (pure (.int 4)); DL.ask (ixD x156 y157)); let r167 ← (do let x164 ← (do let x158 ← (pure a0); let y159 ← (pure (.int 5)); DL.ask (ixD x158 y159)); let r165 ← (do let x162 ← (do let x160 ← (pure a0); let y161 ← (pure (.int 6)); DL.ask (ixD x160 y161)); let r163 ← pure []; pure (x162 :: r163)); pure (x164 :: r165)); pure (x166 :: r167)); pure (x168 :: r169)); pure (x170 :: r171)); pure (x172 :: r173)); pure (x174 :: r175)); let o177 ← Mo.lift (starD 0 m_Table_init_f8f8 r176); pure (D.ins "Table" ["rows", "parsed"] o177)); pure (.rt v178)) := rfl
def k__law_table_289a_6 (a0 : D) : R (Fl (Unit) (Empty)) := (do let v219 ← (do let r217 ← (do let x215 ← (do let x185 ← (pure a0); let y186 ← (pure (.int 0)); DL.ask (ixD x185 y186)); let r216 ← (do let x213 ← (do let x187 ← (pure a0); let y188 ← (pure (.int 1)); DL.ask (ixD x187 y188)); let r214 ← (do let x211 ← (do let x189 ← (pure a0); let y190 ← (pure (.int 2)); DL.ask (ixD x189 y190)); let r212 ← (do let x209 ← (do let x191 ← (pure a0); let y192 ← (pure (.int 3)); DL.ask (ixD x191 y192)); let r210 ← (do let x207 ← (do let x193 ← (pure a0); let y194 ← (pure (.int 4)); DL.ask (ixD x193 y194)); let r208 ← (do let x205 ← (do let x195 ← (pure a0); let y196 ← (pure (.int 5)); DL.ask (ixD x195 y196)); let r206 ← (do let x203 ← (do let x197 ← (pure a0); let y198 ← (pure (.int 6)); DL.ask (ixD x197 y198)); let r204 ← (do let x201 ← (do let x199 ← (pure a0); let y200 ← (pure (.int 7)); DL.ask (ixD x199 y200)); let r202 ← pure []; pure (x201 :: r202)); pure (x203 :: r204)); pure (x205 :: r206)); pure (x207 :: r208)); pure (x209 :: r210)); pure (x211 :: r212)); pure (x213 :: r214)); pure (x215 :: r216)); let o218 ← Mo.lift (starD 0 m_Table_init_f8f8 r217); pure (D.ins "Table" ["rows", "parsed"] o218)); pure (.rt v219))
theorem l__law_table_289a_6 (a0 : D) : k__law_table_289a_6 a0 = (do let v219 ← (do let r217 ← (do let x215 ← (do let x185 ← (pure a0); let y186 ← (pure (.int 0)); DL.ask (ixD x185 y186)); let r216 ← (do let x213 ← (do let x187 ← (pure a0); let y188 ← (pure (.int 1)); DL.ask (ixD x187 y188)); let r214 ← (do let x211 ← (do let x189 ← (pure a0); let y190 ← (pure (.int 2)); DL.ask (ixD x189 y190)); let r212 ← (do let x209 ← (do let x191 ← (pure a0); let y192 ← (pure (.int 3)); DL.ask (ixD x191 y192)); let r210 ← (do let x207 ← (do let x193 ← (pure a0); let y194 ← (pure (.int 4)); DL.ask (ixD x193 y194)); let r208 ← (do let x205 ← (do let x195 ← (pure a0); let y196 ← (pure (.int 5)); DL.ask (ixD x195 y196)); let r206 ← (do let x203 ← (do let x197 ← (pure a0); let y198 ← (pure (.int 6)); DL.ask (ixD x197 y198)); let r204 ← (do let x201 ← (do let x199 ← (pure a0); let y200 ← (pure (.int 7)); DL.ask (ixD x199 y200)); let r202 ← pure []; pure (x201 :: r202)); pure (x203 :: r204)); pure (x205 :: r206)); pure (x207 :: r208)); pure (x209 :: r210)); pure (x211 :: r212)); pure (x213 :: r214)); pure (x215 :: r216)); let o218 ← Mo.lift (starD 0 m_Table_init_f8f8 r217); pure (D.ins "Table" ["rows", "parsed"] o218)); pure (.rt v219)) := rfl
def k__law_table_289a_7 (a0 : D) : R (Fl (Unit) (Empty)) := (do let v258 ← (do let r256 ← (do let x254 ← (do let x220 ← (pure a0); let y221 ← (pure (.int 0)); DL.ask (ixD x220 y221)); let r255 ← (do let x252 ← (do let x222 ← (pure a0); let y223 ← (pure (.int 1)); DL.ask (ixD x222 y223)); let r253 ← (do let x250 ← (do let x224 ← (pure a0); let y225 ← (pure (.int 2)); DL.ask (ixD x224 y225)); let r251 ← (do let x248 ← (do let x226 ← (pure a0); let y227 ← (pure (.int 3)); DL.ask (ixD x226 y227)); let r249 ← (do let x246 ← (do let x228 ← (pure a0); let y229 ← (pure (.int 4)); DL.ask (ixD x228 y229)); let r247 ← (do let x244 ← (do let x230 ← (pure a0); let y231 ← (pure (.int 5)); DL.ask (ixD x230 y231)); let r245 ← (do let x242 ← (do let x232 ← (pure a0); let y233 ← (pure (.int 6)); DL.ask (ixD x232 y233)); let r243 ← (do let x240 ← (do let x234 ← (pure a0); let y235 ← (pure (.int 7)); DL.ask (ixD x234 y235)); let r241 ← (do let x238 ← (do let x236 ← (pure a0); let y237 ← (pure (.int 8)); DL.ask (ixD x236 y237)); let r239 ← pure []; pure (x238 :: r239)); pure (x240 :: r241)); pure (x242 :: r243)); pure (x244 :: r245)); pure (x246 :: r247)); pure (x248 :: r249)); pure (x250 :: r251)); pure (x252 :: r253)); pure (x254 :: r255)); let o257 ← Mo.lift (starD 0 m_Table_init_f8f8 r256); pure (D.ins "Table" ["rows", "parsed"] o257)); pure (.rt v258))
theorem l__law_table_289a_7 (a0 : D) : k__law_table_289a_7 a0 = (do let v258 ← (do let r256 ← (do let x254 ← (do let x220 ← (pure a0); let y221 ← (pure (.int 0)); DL.ask (ixD x220 y221)); let r255 ← (do let x252 ← (do let x222 ← (pure a0); let y223 ← (pure (.int 1)); DL.ask (ixD x222 y223)); let r253 ← (do let x250 ← (do let x224 ← (pure a0); let y225 ← (pure (.int 2)); DL.ask (ixD x224 y225)); let r251 ← (do let x248 ← (do let x226 ← (pure a0); let y227 ← (pure (.int 3)); DL.ask (ixD x226 y227)); let r249 ← (do let x246 ← (do let x228 ← (pure a0); let y229 ← (pure (.int 4)); DL.ask (ixD x228 y229)); let r247 ← (do let x244 ← (do let x230 ← (pure a0); let y231 ← (pure (.int 5)); DL.ask (ixD x230 y231)); let r245 ← (do let x242 ← (do let x232 ← (pure a0); let y233 ← (pure (.int 6)); DL.ask (ixD x232 y233)); let r243 ← (do let x240 ← (do let x234 ← (pure a0); let y235 ← (pure (.int 7)); DL.ask (ixD x234 y235)); let r241 ← (do let x238 ← (do let x236 ← (pure a0); let y237 ← (pure (.int 8)); DL.ask (ixD x236 y237)); let r239 ← pure []; pure (x238 :: r239)); pure (x240 :: r241)); pure (x242 :: r243)); pure (x244 :: r245)); pure (x246 :: r247)); pure (x248 :: r249)); pure (x250 :: r251)); pure (x252 :: r253)); pure (x254 :: r255)); let o257 ← Mo.lift (starD 0 m_Table_init_f8f8 r256); pure (D.ins "Table" ["rows", "parsed"] o257)); pure (.rt v258)) := rfl
def k__law_table_289a_8 (a0 : D) : R (Fl (Unit) (Empty)) := (do let t260 ← (do let x145 ← (do let r144 ← (do let x142 ← (pure a0); let r143 ← pure []; pure (x142 :: r143)); DL.ask (lenD r144)); let y146 ← (pure (.int 7)); DL.ask ((eqD x145 y146).bind bOf)); seqF (if t260 = true then (k__law_table_289a_5 a0) else (pure (.nx ()))) fun (q147 : Unit) => (do let t259 ← (do let x182 ← (do let r181 ← (do let x179 ← (pure a0); let r180 ← pure []; pure (x179 :: r180)); DL.ask (lenD r181)); let y183 ← (pure (.int 8)); DL.ask ((eqD x182 y183).bind bOf)); seqF (if t259 = true then (k__law_table_289a_6 a0) else (pure (.nx ()))) fun (q184 : Unit) => (k__law_table_289a_7 a0)))
theorem l__law_table_289a_8 (a0 : D) : k__law_table_289a_8 a0 = (do let t260 ← (do let x145 ← (do let r144 ← (do let x142 ← (pure a0); let r143 ← pure []; pure (x142 :: r143)); DL.ask (lenD r144)); let y146 ← (pure (.int 7)); DL.ask ((eqD x145 y146).bind bOf)); seqF (if t260 = true then (k__law_table_289a_5 a0) else (pure (.nx ()))) fun (q147 : Unit) => (do let t259 ← (do let x182 ← (do let r181 ← (do let x179 ← (pure a0); let r180 ← pure []; pure (x179 :: r180)); DL.ask (lenD r181)); let y183 ← (pure (.int 8)); DL.ask ((eqD x182 y183).bind bOf)); seqF (if t259 = true then (k__law_table_289a_6 a0) else (pure (.nx ()))) fun (q184 : Unit) => (k__law_table_289a_7 a0))) := rfl
def k__law_table_289a_9 (a0 : D) : R (Fl (Unit) (Empty)) := (do let t262 ← (do let x83 ← (do let r82 ← (do let x80 ← (pure a0); let r81 ← pure []; pure (x80 :: r81)); DL.ask (lenD r82)); let y84 ← (pure (.int 5)); DL.ask ((eqD x83 y84).bind bOf)); seqF (if t262 = true then (k__law_table_289a_3 a0) else (pure (.nx ()))) fun (q85 : Unit) => (do let t261 ← (do let x112 ← (do let r111 ← (do let x109 ← (pure a0); let r110 ← pure []; pure (x109 :: r110)); DL.ask (lenD r111)); let y113 ← (pure (.int 6)); DL.ask ((eqD x112 y113).bind bOf)); seqF (if t261 = true then (k__law_table_289a_4 a0) else (pure (.nx ()))) fun (q114 : Unit) => (k__law_table_289a_8 a0)))
theorem l__law_table_289a_9 (a0 : D) : k__law_table_289a_9 a0 = (do let t262 ← (do let x83 ← (do let r82 ← (do let x80 ← (pure a0); let r81 ← pure []; pure (x80 :: r81)); DL.ask (lenD r82)); let y84 ← (pure (.int 5)); DL.ask ((eqD x83 y84).bind bOf)); seqF (if t262 = true then (k__law_table_289a_3 a0) else (pure (.nx ()))) fun (q85 : Unit) => (do let t261 ← (do let x112 ← (do let r111 ← (do let x109 ← (pure a0); let r110 ← pure []; pure (x109 :: r110)); DL.ask (lenD r111)); let y113 ← (pure (.int 6)); DL.ask ((eqD x112 y113).bind bOf)); seqF (if t261 = true then (k__law_table_289a_4 a0) else (pure (.nx ()))) fun (q114 : Unit) => (k__law_table_289a_8 a0))) := rfl
def k__law_table_289a_10 (a0 : D) : R (Fl (Unit) (Empty)) := (do let t264 ← (do let x37 ← (do let r36 ← (do let x34 ← (pure a0); let r35 ← pure []; pure (x34 :: r35)); DL.ask (lenD r36)); let y38 ← (pure (.int 3)); DL.ask ((eqD x37 y38).bind bOf)); seqF (if t264 = true then (k__law_table_289a_1 a0) else (pure (.nx ()))) fun (q39 : Unit) => (do let t263 ← (do let x58 ← (do let r57 ← (do let x55 ← (pure a0); let r56 ← pure []; pure (x55 :: r56)); DL.ask (lenD r57)); let y59 ← (pure (.int 4)); DL.ask ((eqD x58 y59).bind bOf)); seqF (if t263 = true then (k__law_table_289a_2 a0) else (pure (.nx ()))) fun (q60 : Unit) => (k__law_table_289a_9 a0)))
theorem l__law_table_289a_10 (a0 : D) : k__law_table_289a_10 a0 = (do let t264 ← (do let x37 ← (do let r36 ← (do let x34 ← (pure a0); let r35 ← pure []; pure (x34 :: r35)); DL.ask (lenD r36)); let y38 ← (pure (.int 3)); DL.ask ((eqD x37 y38).bind bOf)); seqF (if t264 = true then (k__law_table_289a_1 a0) else (pure (.nx ()))) fun (q39 : Unit) => (do let t263 ← (do let x58 ← (do let r57 ← (do let x55 ← (pure a0); let r56 ← pure []; pure (x55 :: r56)); DL.ask (lenD r57)); let y59 ← (pure (.int 4)); DL.ask ((eqD x58 y59).bind bOf)); seqF (if t263 = true then (k__law_table_289a_2 a0) else (pure (.nx ()))) fun (q60 : Unit) => (k__law_table_289a_9 a0))) := rfl
def b__law_table_289a (a0 : D) : R (Fl Unit Empty) := (do let t265 ← (do let x4 ← (do let r3 ← (do let x1 ← (pure a0); let r2 ← pure []; pure (x1 :: r2)); DL.ask (lenD r3)); let y5 ← (pure (.int 3)); DL.ask ((ltD x4 y5).bind bOf)); seqF (if t265 = true then (k__law_table_289a_0 a0) else (pure (.nx ()))) fun (q6 : Unit) => (k__law_table_289a_10 a0))
theorem e__law_table_289a (a0 : D) : b__law_table_289a a0 = (do let x4 ← (DL.ask (lenD [a0])); let t265 ← (DL.ask ((ltD x4 (.int 3)).bind bOf)); seqF (if t265 = true then (do let v33 ← (iteM (do let y9 ← (DL.ask (szL [])); DL.ask ((eqD a0 (.lst y9)).bind bOf)) (do let o11 ← Mo.lift (starD 0 m_Table_init_f8f8 []); pure (D.ins "Table" ["rows", "parsed"] o11)) (iteM (do let x15 ← (DL.ask (lenD [a0])); DL.ask ((eqD x15 (.int 1)).bind bOf)) (do let x19 ← (DL.ask (ixD a0 (.int 0))); let o22 ← Mo.lift (starD 0 m_Table_init_f8f8 [x19]); pure (D.ins "Table" ["rows", "parsed"] o22)) (do let x29 ← (DL.ask (ixD a0 (.int 0))); let x27 ← (DL.ask (ixD a0 (.int 1))); let o32 ← Mo.lift (starD 0 m_Table_init_f8f8 [x29, x27]); pure (D.ins "Table" ["rows", "parsed"] o32)))); pure (.rt v33)) else (pure (.nx ()))) fun (q6 : Unit) => (do let x37 ← (DL.ask (lenD [a0])); let t264 ← (DL.ask ((eqD x37 (.int 3)).bind bOf)); seqF (if t264 = true then (do let x50 ← (DL.ask (ixD a0 (.int 0))); let x48 ← (DL.ask (ixD a0 (.int 1))); let x46 ← (DL.ask (ixD a0 (.int 2))); let o53 ← Mo.lift (starD 0 m_Table_init_f8f8 [x50, x48, x46]); pure (.rt (D.ins "Table" ["rows", "parsed"] o53))) else (pure (.nx ()))) fun (q39 : Unit) => (do let x58 ← (DL.ask (lenD [a0])); let t263 ← (DL.ask ((eqD x58 (.int 4)).bind bOf)); seqF (if t263 = true then (do let x75 ← (DL.ask (ixD a0 (.int 0))); let x73 ← (DL.ask (ixD a0 (.int 1))); let x71 ← (DL.ask (ixD a0 (.int 2))); let x69 ← (DL.ask (ixD a0 (.int 3))); let o78 ← Mo.lift (starD 0 m_Table_init_f8f8 [x75, x73, x71, x69]); pure (.rt (D.ins "Table" ["rows", "parsed"] o78))) else (pure (.nx ()))) fun (q60 : Unit) => (do let x83 ← (DL.ask (lenD [a0])); let t262 ← (DL.ask ((eqD x83 (.int 5)).bind bOf)); seqF (if t262 = true then (do let x104 ← (DL.ask (ixD a0 (.int 0))); let x102 ← (DL.ask (ixD a0 (.int 1))); let x100 ← (DL.ask (ixD a0 (.int 2))); let x98 ← (DL.ask (ixD a0 (.int 3))); let x96 ← (DL.ask (ixD a0 (.int 4))); let o107 ← Mo.lift (starD 0 m_Table_init_f8f8 [x104, x102, x100, x98, x96]); pure (.rt (D.ins "Table" ["rows", "parsed"] o107))) else (pure (.nx ()))) fun (q85 : Unit) => (do let x112 ← (DL.ask (lenD [a0])); let t261 ← (DL.ask ((eqD x112 (.int 6)).bind bOf)); seqF (if t261 = true then (do let x137 ← (DL.ask (ixD a0 (.int 0))); let x135 ← (DL.ask (ixD a0 (.int 1))); let x133 ← (DL.ask (ixD a0 (.int 2))); let x131 ← (DL.ask (ixD a0 (.int 3))); let x129 ← (DL.ask (ixD a0 (.int 4))); let x127 ← (DL.ask (ixD a0 (.int 5))); let o140 ← Mo.lift (starD 0 m_Table_init_f8f8 [x137, x135, x133, x131, x129, x127]); pure (.rt (D.ins "Table" ["rows", "parsed"] o140))) else (pure (.nx ()))) fun (q114 : Unit) => (do let x145 ← (DL.ask (lenD [a0])); let t260 ← (DL.ask ((eqD x145 (.int 7)).bind bOf)); seqF (if t260 = true then (do let x174 ← (DL.ask (ixD a0 (.int 0))); let x172 ← (DL.ask (ixD a0 (.int 1))); let x170 ← (DL.ask (ixD a0 (.int 2))); let x168 ← (DL.ask (ixD a0 (.int 3))); let x166 ← (DL.ask (ixD a0 (.int 4))); let x164 ← (DL.ask (ixD a0 (.int 5))); let x162 ← (DL.ask (ixD a0 (.int 6))); let o177 ← Mo.lift (starD 0 m_Table_init_f8f8 [x174, x172, x170, x168, x166, x164, x162]); pure (.rt (D.ins "Table" ["rows", "parsed"] o177))) else (pure (.nx ()))) fun (q147 : Unit) => (do let x182 ← (DL.ask (lenD [a0])); let t259 ← (DL.ask ((eqD x182 (.int 8)).bind bOf)); seqF (if t259 = true then (do let x215 ← (DL.ask (ixD a0 (.int 0))); let x213 ← (DL.ask (ixD a0 (.int 1))); let x211 ← (DL.ask (ixD a0 (.int 2))); let x209 ← (DL.ask (ixD a0 (.int 3))); let x207 ← (DL.ask (ixD a0 (.int 4))); let x205 ← (DL.ask (ixD a0 (.int 5))); let x203 ← (DL.ask (ixD a0 (.int 6))); let x201 ← (DL.ask (ixD a0 (.int 7))); let o218 ← Mo.lift (starD 0 m_Table_init_f8f8 [x215, x213, x211, x209, x207, x205, x203, x201]); pure (.rt (D.ins "Table" ["rows", "parsed"] o218))) else (pure (.nx ()))) fun (q184 : Unit) => (do let x254 ← (DL.ask (ixD a0 (.int 0))); let x252 ← (DL.ask (ixD a0 (.int 1))); let x250 ← (DL.ask (ixD a0 (.int 2))); let x248 ← (DL.ask (ixD a0 (.int 3))); let x246 ← (DL.ask (ixD a0 (.int 4))); let x244 ← (DL.ask (ixD a0 (.int 5))); let x242 ← (DL.ask (ixD a0 (.int 6))); let x240 ← (DL.ask (ixD a0 (.int 7))); let x238 ← (DL.ask (ixD a0 (.int 8))); let o257 ← Mo.lift (starD 0 m_Table_init_f8f8 [x254, x252, x250, x248, x246, x244, x242, x240, x238]); pure (.rt (D.ins "Table" ["rows", "parsed"] o257)))))))))) := by
  unfold b__law_table_289a; simp only [l__law_table_289a_0, l__law_table_289a_1, l__law_table_289a_2, l__law_table_289a_3, l__law_table_289a_4, l__law_table_289a_5, l__law_table_289a_6, l__law_table_289a_7, l__law_table_289a_8, l__law_table_289a_9, l__law_table_289a_10, pure_bind, bind_assoc, mkL]
def m__law_table_289a : List D → R D := apR1 fun a0 => (runR false (b__law_table_289a a0))
theorem n__law_table_289a : ∀ ds : List D, m__law_table_289a ds ≠ .stuck → ds.length = 1 := apR1_len _
def k_law_7f41_0 (v9 : List D) : M (Fl (List D) (Empty)) := (do let v30 ← (do let r51 ← (do let r37 ← (do let x35 ← (do let w31 ← Mo.noex (do let r34 ← (do let x32 ← (pure (.lst v9)); let r33 ← pure []; pure (x32 :: r33)); DL.ask (lenD r34)); DL.ask (flatD w31)); let r36 ← pure []; pure (x35 :: r36)); DL.ask (rng1 r37)); lcF (fun d => some d) (fun (c39 : D) => (Mo.noex (do let x48 ← (do let x41 ← (pure (.lst v9)); let y42 ← (pure c39); DL.ask (ixD x41 y42)); let y49 ← (do let x45 ← (pure (.lst v9)); let l46 ← (pure none); let u47 ← (do let x43 ← (pure c39); let i44 ← DL.ask (intOf x43); pure (some i44)); DL.ask (sliceD x45 l46 u47)); DL.ask ((notInD x48 y49).bind bOf)))) (fun (c39 : D) => (do let y50 ← (pure c39); DL.ask (ixD (.lst v9) y50))) r51); (pure (.nx v30)))
theorem l_law_7f41_0 (v9 : List D) : k_law_7f41_0 v9 = (do let v30 ← (do let r51 ← (do let r37 ← (do let x35 ← (do let w31 ← Mo.noex (do let r34 ← (do let x32 ← (pure (.lst v9)); let r33 ← pure []; pure (x32 :: r33)); DL.ask (lenD r34)); DL.ask (flatD w31)); let r36 ← pure []; pure (x35 :: r36)); DL.ask (rng1 r37)); lcF (fun d => some d) (fun (c39 : D) => (Mo.noex (do let x48 ← (do let x41 ← (pure (.lst v9)); let y42 ← (pure c39); DL.ask (ixD x41 y42)); let y49 ← (do let x45 ← (pure (.lst v9)); let l46 ← (pure none); let u47 ← (do let x43 ← (pure c39); let i44 ← DL.ask (intOf x43); pure (some i44)); DL.ask (sliceD x45 l46 u47)); DL.ask ((notInD x48 y49).bind bOf)))) (fun (c39 : D) => (do let y50 ← (pure c39); DL.ask (ixD (.lst v9) y50))) r51); (pure (.nx v30))) := rfl
def k_law_7f41_1 (q61 : List D × List D) (v5 : D) : M (Fl (List D × List D) (List D × List D)) := (do let v63 ← (do let r71 ← (do let x69 ← (do let w65 ← Mo.noex (do let r68 ← (do let x66 ← (pure (.lst q61.1)); let r67 ← pure []; pure (x66 :: r67)); DL.ask (lenD r68)); DL.ask (flatD w65)); let r70 ← pure []; pure (x69 :: r70)); m__law_take_bb49 r71); let v64 ← DL.ask (apd q61.2 v63); (do let v72 ← (do let r75 ← (do let x73 ← (pure v5); let r74 ← pure []; pure (x73 :: r74)); m__law_odd_69a0 r75); let j78 ← (do let y77 ← (do let x76 ← (pure (.int 1)); DL.ask (negD x76)); DL.ask (ixD (.lst v64) y77)); let v79 ← DL.ask (setI q61.1 j78 v72); (pure (.nx (v79, v64)))))
theorem l_law_7f41_1 (q61 : List D × List D) (v5 : D) : k_law_7f41_1 q61 v5 = (do let v63 ← (do let r71 ← (do let x69 ← (do let w65 ← Mo.noex (do let r68 ← (do let x66 ← (pure (.lst q61.1)); let r67 ← pure []; pure (x66 :: r67)); DL.ask (lenD r68)); DL.ask (flatD w65)); let r70 ← pure []; pure (x69 :: r70)); m__law_take_bb49 r71); let v64 ← DL.ask (apd q61.2 v63); (do let v72 ← (do let r75 ← (do let x73 ← (pure v5); let r74 ← pure []; pure (x73 :: r74)); m__law_odd_69a0 r75); let j78 ← (do let y77 ← (do let x76 ← (pure (.int 1)); DL.ask (negD x76)); DL.ask (ixD (.lst v64) y77)); let v79 ← DL.ask (setI q61.1 j78 v72); (pure (.nx (v79, v64))))) := rfl
def k_law_7f41_2 (e96 : D) : M (Fl (D × D) (Empty)) := (do let v97 ← (do let r103 ← (do let x101 ← (pure (.str [114, 111, 119])); let r102 ← (do let x99 ← (pure e96); let r100 ← pure []; pure (x99 :: r100)); pure (x101 :: r102)); let r104 ← DL.ask (szL r103); pure (.tup r104)); let v98 ← (mkL (do let r109 ← (do let x107 ← (pure (.bl true)); let r108 ← (do let x105 ← (notV (pure (.bl false))); let r106 ← pure []; pure (x105 :: r106)); pure (x107 :: r108)); DL.ask (szL r109))); (pure (.nx (v97, v98))))
theorem l_law_7f41_2 (e96 : D) : k_law_7f41_2 e96 = (do let v97 ← (do let r103 ← (do let x101 ← (pure (.str [114, 111, 119])); let r102 ← (do let x99 ← (pure e96); let r100 ← pure []; pure (x99 :: r100)); pure (x101 :: r102)); let r104 ← DL.ask (szL r103); pure (.tup r104)); let v98 ← (mkL (do let r109 ← (do let x107 ← (pure (.bl true)); let r108 ← (do let x105 ← (notV (pure (.bl false))); let r106 ← pure []; pure (x105 :: r106)); pure (x107 :: r108)); DL.ask (szL r109))); (pure (.nx (v97, v98)))) := rfl
def k_law_7f41_3 (e110 : D) : M (Fl (D × D) (Empty)) := (do let v111 ← (do let r117 ← (do let x115 ← (pure (.str [116, 119, 105, 99, 101])); let r116 ← (do let x113 ← (pure e110); let r114 ← pure []; pure (x113 :: r114)); pure (x115 :: r116)); let r118 ← DL.ask (szL r117); pure (.tup r118)); let v112 ← (mkL (do let r123 ← (do let x121 ← (pure (.bl true)); let r122 ← (do let x119 ← (notV (pure (.bl false))); let r120 ← pure []; pure (x119 :: r120)); pure (x121 :: r122)); DL.ask (szL r123))); (pure (.nx (v111, v112))))
theorem l_law_7f41_3 (e110 : D) : k_law_7f41_3 e110 = (do let v111 ← (do let r117 ← (do let x115 ← (pure (.str [116, 119, 105, 99, 101])); let r116 ← (do let x113 ← (pure e110); let r114 ← pure []; pure (x113 :: r114)); pure (x115 :: r116)); let r118 ← DL.ask (szL r117); pure (.tup r118)); let v112 ← (mkL (do let r123 ← (do let x121 ← (pure (.bl true)); let r122 ← (do let x119 ← (notV (pure (.bl false))); let r120 ← pure []; pure (x119 :: r120)); pure (x121 :: r122)); DL.ask (szL r123))); (pure (.nx (v111, v112)))) := rfl
def k_law_7f41_4 (e124 : D) : M (Fl (D × D) (Empty)) := (do let v125 ← (do let r131 ← (do let x129 ← (pure (.str [109, 97, 110, 121])); let r130 ← (do let x127 ← (pure e124); let r128 ← pure []; pure (x127 :: r128)); pure (x129 :: r130)); let r132 ← DL.ask (szL r131); pure (.tup r132)); let v126 ← (mkL (do let r137 ← (do let x135 ← (pure (.bl true)); let r136 ← (do let x133 ← (notV (pure (.bl false))); let r134 ← pure []; pure (x133 :: r134)); pure (x135 :: r136)); DL.ask (szL r137))); (pure (.nx (v125, v126))))
theorem l_law_7f41_4 (e124 : D) : k_law_7f41_4 e124 = (do let v125 ← (do let r131 ← (do let x129 ← (pure (.str [109, 97, 110, 121])); let r130 ← (do let x127 ← (pure e124); let r128 ← pure []; pure (x127 :: r128)); pure (x129 :: r130)); let r132 ← DL.ask (szL r131); pure (.tup r132)); let v126 ← (mkL (do let r137 ← (do let x135 ← (pure (.bl true)); let r136 ← (do let x133 ← (notV (pure (.bl false))); let r134 ← pure []; pure (x133 :: r134)); pure (x135 :: r136)); DL.ask (szL r137))); (pure (.nx (v125, v126)))) := rfl
def k_law_7f41_5 (q90 : D × D) (v81 : D) : M (Fl (Unit) (Empty)) := (do let t177 ← (DL.orM (DL.notM (do let x150 ← (do let x149 ← (pure q90.1); DL.ask (isiD "tuple" x149)); DL.ask (truD x150))) (DL.orM (do let x155 ← (do let x151 ← (pure q90.1); let y152 ← (pure (.int 0)); DL.ask (ixD x151 y152)); let y156 ← (do let x153 ← (pure v81); let y154 ← (pure (.int 0)); DL.ask (ixD x153 y154)); DL.ask ((neD x155 y156).bind bOf)) (DL.notM (do let x166 ← (do let r165 ← (do let x163 ← (do let x157 ← (pure q90.1); let y158 ← (pure (.int 1)); DL.ask (ixD x157 y158)); let r164 ← (do let x161 ← (do let x159 ← (pure v81); let y160 ← (pure (.int 1)); DL.ask (ixD x159 y160)); let r162 ← pure []; pure (x161 :: r162)); pure (x163 :: r164)); Mo.lift (m__law_same_9288 r165)); DL.ask (truD x166))))); seqF (if t177 = true then (do let v168 ← (pure (.bl false)); pure (.rt v168)) else (pure (.nx ()))) fun (q167 : Unit) => (do let v176 ← (do let x174 ← (pure q90.2); let y175 ← (mkL (do let r173 ← (do let x171 ← (pure (.bl true)); let r172 ← (do let x169 ← (pure (.bl true)); let r170 ← pure []; pure (x169 :: r170)); pure (x171 :: r172)); DL.ask (szL r173))); DL.ask (eqD x174 y175)); pure (.rt v176)))
theorem l_law_7f41_5 (q90 : D × D) (v81 : D) : k_law_7f41_5 q90 v81 = (do let t177 ← (DL.orM (DL.notM (do let x150 ← (do let x149 ← (pure q90.1); DL.ask (isiD "tuple" x149)); DL.ask (truD x150))) (DL.orM (do let x155 ← (do let x151 ← (pure q90.1); let y152 ← (pure (.int 0)); DL.ask (ixD x151 y152)); let y156 ← (do let x153 ← (pure v81); let y154 ← (pure (.int 0)); DL.ask (ixD x153 y154)); DL.ask ((neD x155 y156).bind bOf)) (DL.notM (do let x166 ← (do let r165 ← (do let x163 ← (do let x157 ← (pure q90.1); let y158 ← (pure (.int 1)); DL.ask (ixD x157 y158)); let r164 ← (do let x161 ← (do let x159 ← (pure v81); let y160 ← (pure (.int 1)); DL.ask (ixD x159 y160)); let r162 ← pure []; pure (x161 :: r162)); pure (x163 :: r164)); Mo.lift (m__law_same_9288 r165)); DL.ask (truD x166))))); seqF (if t177 = true then (do let v168 ← (pure (.bl false)); pure (.rt v168)) else (pure (.nx ()))) fun (q167 : Unit) => (do let v176 ← (do let x174 ← (pure q90.2); let y175 ← (mkL (do let r173 ← (do let x171 ← (pure (.bl true)); let r172 ← (do let x169 ← (pure (.bl true)); let r170 ← pure []; pure (x169 :: r170)); pure (x171 :: r172)); DL.ask (szL r173))); DL.ask (eqD x174 y175)); pure (.rt v176))) := rfl
def k_law_7f41_6 (v81 : D) (q90 : D × D) (v52 : D) : M (Fl (Unit) (Empty)) := (do let t178 ← (do let x138 ← (pure v81); let y139 ← (pure D.non); DL.ask ((isD x138 y139).bind bOf)); seqF (if t178 = true then (do let v148 ← (andV (do let x141 ← (pure q90.1); DL.ask (isiT [("Table", true)] noneOfB x141)) (do let x146 ← (do let x142 ← (pure q90.1); DL.ask (fldD ["Table"] "rows" x142)); let y147 ← (do let r145 ← (do let x143 ← (pure v52); let r144 ← pure []; pure (x143 :: r144)); DL.ask (tupleD r145)); DL.ask (eqD x146 y147))); pure (.rt v148)) else (pure (.nx ()))) fun (q140 : Unit) => (k_law_7f41_5 q90 v81))
theorem l_law_7f41_6 (v81 : D) (q90 : D × D) (v52 : D) : k_law_7f41_6 v81 q90 v52 = (do let t178 ← (do let x138 ← (pure v81); let y139 ← (pure D.non); DL.ask ((isD x138 y139).bind bOf)); seqF (if t178 = true then (do let v148 ← (andV (do let x141 ← (pure q90.1); DL.ask (isiT [("Table", true)] noneOfB x141)) (do let x146 ← (do let x142 ← (pure q90.1); DL.ask (fldD ["Table"] "rows" x142)); let y147 ← (do let r145 ← (do let x143 ← (pure v52); let r144 ← pure []; pure (x143 :: r144)); DL.ask (tupleD r145)); DL.ask (eqD x146 y147))); pure (.rt v148)) else (pure (.nx ()))) fun (q140 : Unit) => (k_law_7f41_5 q90 v81)) := rfl
def k_law_7f41_7 (q80 : List D × List D) (v88 : D) (v81 : D) (v52 : D) : M (Fl (Unit) (Empty)) := (seqF (tryFs [("BadRow", "row"), ("TooMany", "limit"), ("Twice", "name")] (do let v92 ← (do let r95 ← (do let x93 ← (pure (.lst q80.1)); let r94 ← pure []; pure (x93 :: r94)); Mo.lift (m__law_table_289a r95)); (pure (.nx (v92, v88)))) [("BadRow", fun e96 => (k_law_7f41_2 e96)), ("Twice", fun e110 => (k_law_7f41_3 e110)), ("TooMany", fun e124 => (k_law_7f41_4 e124))]) fun (q90 : D × D) => (k_law_7f41_6 v81 q90 v52))
theorem l_law_7f41_7 (q80 : List D × List D) (v88 : D) (v81 : D) (v52 : D) : k_law_7f41_7 q80 v88 v81 v52 = (seqF (tryFs [("BadRow", "row"), ("TooMany", "limit"), ("Twice", "name")] (do let v92 ← (do let r95 ← (do let x93 ← (pure (.lst q80.1)); let r94 ← pure []; pure (x93 :: r94)); Mo.lift (m__law_table_289a r95)); (pure (.nx (v92, v88)))) [("BadRow", fun e96 => (k_law_7f41_2 e96)), ("Twice", fun e110 => (k_law_7f41_3 e110)), ("TooMany", fun e124 => (k_law_7f41_4 e124))]) fun (q90 : D × D) => (k_law_7f41_6 v81 q90 v52)) := rfl
def k_law_7f41_8 (v5 : D) (q29 : List D) (v53 : List D) (v52 : D) : M (Fl (Unit) (Empty)) := (do let r179 ← (do let r60 ← (do let x58 ← (do let r57 ← (do let x55 ← (pure (.int 3)); let r56 ← pure []; pure (x55 :: r56)); m__law_take_bb49 r57); let r59 ← pure []; pure (x58 :: r59)); DL.ask (rng1 r60)); seqF (forF (fun d => some d) (fun (q61 : List D × List D) (c62 : D) => (k_law_7f41_1 q61 v5)) r179 (q29, v53)) fun (q80 : List D × List D) => (do let v81 ← (do let r86 ← (do let x84 ← (pure (.lst q80.1)); let r85 ← (do let x82 ← (pure (.lst q80.2)); let r83 ← pure []; pure (x82 :: r83)); pure (x84 :: r85)); Mo.lift (m__law_due_22c8 r86)); (do let v87 ← (pure D.non); let v88 ← (mkL (do let r89 ← pure []; DL.ask (szL r89))); (k_law_7f41_7 q80 v88 v81 v52))))
theorem l_law_7f41_8 (v5 : D) (q29 : List D) (v53 : List D) (v52 : D) : k_law_7f41_8 v5 q29 v53 v52 = (do let r179 ← (do let r60 ← (do let x58 ← (do let r57 ← (do let x55 ← (pure (.int 3)); let r56 ← pure []; pure (x55 :: r56)); m__law_take_bb49 r57); let r59 ← pure []; pure (x58 :: r59)); DL.ask (rng1 r60)); seqF (forF (fun d => some d) (fun (q61 : List D × List D) (c62 : D) => (k_law_7f41_1 q61 v5)) r179 (q29, v53)) fun (q80 : List D × List D) => (do let v81 ← (do let r86 ← (do let x84 ← (pure (.lst q80.1)); let r85 ← (do let x82 ← (pure (.lst q80.2)); let r83 ← pure []; pure (x82 :: r83)); pure (x84 :: r85)); Mo.lift (m__law_due_22c8 r86)); (do let v87 ← (pure D.non); let v88 ← (mkL (do let r89 ← pure []; DL.ask (szL r89))); (k_law_7f41_7 q80 v88 v81 v52)))) := rfl
def k_law_7f41_9 (v9 : List D) (v5 : D) : M (Fl (Unit) (Empty)) := (do let t180 ← (do let x27 ← (do let r26 ← (do let x24 ← (pure (.int 2)); let r25 ← pure []; pure (x24 :: r25)); m__law_take_bb49 r26); let y28 ← (pure (.int 0)); DL.ask ((eqD x27 y28).bind bOf)); seqF (if t180 = true then (k_law_7f41_0 v9) else (pure (.nx v9))) fun (q29 : List D) => (do let v52 ← (mkL (pure q29)); (do let v53 ← (do let r54 ← pure []; DL.ask (szL r54)); (k_law_7f41_8 v5 q29 v53 v52))))
theorem l_law_7f41_9 (v9 : List D) (v5 : D) : k_law_7f41_9 v9 v5 = (do let t180 ← (do let x27 ← (do let r26 ← (do let x24 ← (pure (.int 2)); let r25 ← pure []; pure (x24 :: r25)); m__law_take_bb49 r26); let y28 ← (pure (.int 0)); DL.ask ((eqD x27 y28).bind bOf)); seqF (if t180 = true then (k_law_7f41_0 v9) else (pure (.nx v9))) fun (q29 : List D) => (do let v52 ← (mkL (pure q29)); (do let v53 ← (do let r54 ← pure []; DL.ask (szL r54)); (k_law_7f41_8 v5 q29 v53 v52)))) := rfl
def k_law_7f41_10 (v5 : D) : M (Fl (Unit) (Empty)) := (do let v9 ← (do let r23 ← (do let r17 ← (do let x15 ← (do let x13 ← (pure (.int 1)); let y14 ← (do let r12 ← (do let x10 ← (pure (.int 9)); let r11 ← pure []; pure (x10 :: r11)); m__law_take_bb49 r12); DL.ask (addD x13 y14)); let r16 ← pure []; pure (x15 :: r16)); DL.ask (rng1 r17)); lcF (fun d => some d) (fun (c19 : D) => pure true) (fun (c19 : D) => (do let r22 ← (do let x20 ← (pure v5); let r21 ← pure []; pure (x20 :: r21)); m__law_row_f25d r22)) r23); (k_law_7f41_9 v9 v5))
theorem l_law_7f41_10 (v5 : D) : k_law_7f41_10 v5 = (do let v9 ← (do let r23 ← (do let r17 ← (do let x15 ← (do let x13 ← (pure (.int 1)); let y14 ← (do let r12 ← (do let x10 ← (pure (.int 9)); let r11 ← pure []; pure (x10 :: r11)); m__law_take_bb49 r12); DL.ask (addD x13 y14)); let r16 ← pure []; pure (x15 :: r16)); DL.ask (rng1 r17)); lcF (fun d => some d) (fun (c19 : D) => pure true) (fun (c19 : D) => (do let r22 ← (do let x20 ← (pure v5); let r21 ← pure []; pure (x20 :: r21)); m__law_row_f25d r22)) r23); (k_law_7f41_9 v9 v5)) := rfl
def b_law_7f41 (a0 : D) : R (Fl Unit Empty) := (do let i2 ← DL.ask (scrOf a0); let v1 ← Mo.noex (m__law_bag_d7b5 [.scr i2]); withBagW v1 (do let v5 ← (do let r8 ← (do let x6 ← (pure (.int 20)); let r7 ← pure []; pure (x6 :: r7)); m__law_pool_b280 r8); (k_law_7f41_10 v5)))
theorem e_law_7f41 (a0 : D) : b_law_7f41 a0 = (do let i2 ← DL.ask (scrOf a0); let v1 ← Mo.noex (m__law_bag_d7b5 [.scr i2]); withBagW v1 (do let v5 ← (m__law_pool_b280 [(.int 20)]); let y14 ← (m__law_take_bb49 [(.int 9)]); let x15 ← (DL.ask (addD (.int 1) y14)); let r23 ← (DL.ask (rng1 [x15])); let v9 ← (lcF (fun d => some d) (fun (c19 : D) => pure true) (fun (c19 : D) => (m__law_row_f25d [v5])) r23); let x27 ← (m__law_take_bb49 [(.int 2)]); let t180 ← (DL.ask ((eqD x27 (.int 0)).bind bOf)); seqF (if t180 = true then (do let w31 ← Mo.noex (DL.ask (lenD [(.lst v9)])); let x35 ← (DL.ask (flatD w31)); let r51 ← (DL.ask (rng1 [x35])); let v30 ← (lcF (fun d => some d) (fun (c39 : D) => (Mo.noex (do let x48 ← (DL.ask (ixD (.lst v9) c39)); let i44 ← DL.ask (intOf c39); let y49 ← (DL.ask (sliceD (.lst v9) none (some i44))); DL.ask ((notInD x48 y49).bind bOf)))) (fun (c39 : D) => (DL.ask (ixD (.lst v9) c39))) r51); (pure (.nx v30))) else (pure (.nx v9))) fun (q29 : List D) => (do let v53 ← (DL.ask (szL [])); let x58 ← (m__law_take_bb49 [(.int 3)]); let r179 ← (DL.ask (rng1 [x58])); seqF (forF (fun d => some d) (fun (q61 : List D × List D) (c62 : D) => (do let w65 ← Mo.noex (DL.ask (lenD [(.lst q61.1)])); let x69 ← (DL.ask (flatD w65)); let v63 ← (m__law_take_bb49 [x69]); let v64 ← DL.ask (apd q61.2 v63); let v72 ← (m__law_odd_69a0 [v5]); let y77 ← (DL.ask (negD (.int 1))); let j78 ← (DL.ask (ixD (.lst v64) y77)); let v79 ← DL.ask (setI q61.1 j78 v72); (pure (.nx (v79, v64))))) r179 (q29, v53)) fun (q80 : List D × List D) => (do let v81 ← (Mo.lift (m__law_due_22c8 [(.lst q80.1), (.lst q80.2)])); let v88 ← (DL.ask (szL [])); (seqF (tryFs [("BadRow", "row"), ("TooMany", "limit"), ("Twice", "name")] (do let v92 ← (Mo.lift (m__law_table_289a [(.lst q80.1)])); (pure (.nx (v92, (.lst v88))))) [("BadRow", fun e96 => (do let r104 ← DL.ask (szL [(.str [114, 111, 119]), e96]); let x105 ← (notV (pure (.bl false))); let v98 ← (DL.ask (szL [(.bl true), x105])); (pure (.nx ((.tup r104), (.lst v98)))))), ("Twice", fun e110 => (do let r118 ← DL.ask (szL [(.str [116, 119, 105, 99, 101]), e110]); let x119 ← (notV (pure (.bl false))); let v112 ← (DL.ask (szL [(.bl true), x119])); (pure (.nx ((.tup r118), (.lst v112)))))), ("TooMany", fun e124 => (do let r132 ← DL.ask (szL [(.str [109, 97, 110, 121]), e124]); let x133 ← (notV (pure (.bl false))); let v126 ← (DL.ask (szL [(.bl true), x133])); (pure (.nx ((.tup r132), (.lst v126))))))]) fun (q90 : D × D) => (do let t178 ← (DL.ask ((isD v81 D.non).bind bOf)); seqF (if t178 = true then (do let v148 ← (andV (DL.ask (isiT [("Table", true)] noneOfB q90.1)) (do let x146 ← (DL.ask (fldD ["Table"] "rows" q90.1)); let y147 ← (DL.ask (tupleD [(.lst q29)])); DL.ask (eqD x146 y147))); pure (.rt v148)) else (pure (.nx ()))) fun (q140 : Unit) => (do let t177 ← (DL.orM (DL.notM (do let x150 ← (DL.ask (isiD "tuple" q90.1)); DL.ask (truD x150))) (DL.orM (do let x155 ← (DL.ask (ixD q90.1 (.int 0))); let y156 ← (DL.ask (ixD v81 (.int 0))); DL.ask ((neD x155 y156).bind bOf)) (DL.notM (do let x163 ← (DL.ask (ixD q90.1 (.int 1))); let x161 ← (DL.ask (ixD v81 (.int 1))); let x166 ← (Mo.lift (m__law_same_9288 [x163, x161])); DL.ask (truD x166))))); seqF (if t177 = true then (pure (.rt (.bl false))) else (pure (.nx ()))) fun (q167 : Unit) => (do let y175 ← (DL.ask (szL [(.bl true), (.bl true)])); let v176 ← (DL.ask (eqD q90.2 (.lst y175))); pure (.rt v176))))))))) := by
  unfold b_law_7f41; simp only [l_law_7f41_0, l_law_7f41_1, l_law_7f41_2, l_law_7f41_3, l_law_7f41_4, l_law_7f41_5, l_law_7f41_6, l_law_7f41_7, l_law_7f41_8, l_law_7f41_9, l_law_7f41_10, pure_bind, bind_assoc, mkL]
def m_law_7f41 : List D → R D := apR1 fun a0 => (runR false (b_law_7f41 a0))
end FN
namespace FN
open DL PySem PySem.W
theorem lc_bads (P : List (List Nat)) : (lcF (fun d => some d) (fun (c58 : D) => (DL.notM (do let x62 ← (Mo.lift (m_is_label_344b [c58])); DL.ask (truD x62)))) (fun (c58 : D) => (pure c58)) (P.map .str) : R (List D)) = .ok ((P.filter fun z => !isLab 20 z).map .str) := by
  have := lcR (u := fun d => some d) (xt := fun (c58 : D) => (DL.notM (do let x62 ← (Mo.lift (m_is_label_344b [c58])); DL.ask (truD x62)) : R Bool)) (xe := fun (c58 : D) => (pure c58)) id (fun d => !labD d) id (P.map .str) (fun d _ => rfl) (fun d m => by
    obtain ⟨z, hz, rfl⟩ := List.mem_map.mp m
    have e : m_is_label_344b [.str z] = .ok (.bl (labD (.str z))) := is_label_ok (T := "str") rfl
    show (DL.notM (do let x62 ← (Mo.lift (m_is_label_344b [.str z])); DL.ask (truD x62)) : R Bool) = _
    rw [lift_pR, e]
    rfl) (fun d _ q => rfl)
  refine this.trans ?_
  rw [List.map_id, List.filter_map]
  rfl
def loK : Kd → Nat
  | .ex => 2
  | _ => 1
def hiK : Kd → Nat
  | .wi => 2
  | _ => 3
theorem parse_bad {k : Kd} {P : List (List Nat)} (h0 : P ≠ []) (hf : ∀ p ∈ P, 46 ∉ p) (hl : (joinN [46] P).length ≤ 900) (hb : P.length < loK k ∨ hiK k < P.length ∨ ∃ z ∈ P, isLab 20 z = false) (hp : k = .pl → (joinN [46] P).take 1 ≠ [33] ∧ (joinN [46] P).take 2 ≠ [42, 46]) :
    m_parsed_row_b892 [.str (rowT (k, P))] = .ok .non := by
  have sp : splitD (.str (joinN [46] P)) (.str [46]) = some (P.map .str) := by
    show (if 46 < 256 ∧ (joinN [46] P).length ≤ 1000000 then some ((TL.spl [46] 0 [] (joinN [46] P)).map D.str) else none) = _
    rw [if_pos ⟨by omega, by omega⟩, joinN_eq, TL.spl_join h0 hf]
  have sz4 : ∀ a b c d : D, szL [a, b, c, d] = some [a, b, c, d] := fun _ _ _ _ => sz_ok (by simp)
  have u4 : ∀ a b c d : D, unN 4 (.tup [a, b, c, d]) = some [a, b, c, d] := fun _ _ _ _ => rfl
  have isS : ∀ z, isiD "str" (.str z) = some (.bl true) := fun _ => rfl
  have nb := lc_bads P
  simp only [DL.notM] at nb
  have stm : ∀ (a b : List Nat), strM (fun a b => .bl (PySem.Txt.startswith ⟨a.toArray⟩ ⟨b.toArray⟩)) (.str a) (.str b) = some (.bl (decide (b.length ≤ a.length) && decide (a.take b.length = b))) := fun a b => by rw [← starts_eq]; rfl
  have il : itD (.tup (P.map D.str)) = some (P.map .str) := rfl
  have fin : ∀ (q : D), (decide (loK k ≤ P.length) && decide (P.length ≤ hiK k)) = false ∨ (P.filter fun z => !isLab 20 z) ≠ [] := fun _ => by
    rcases hb with h | h | ⟨z, hz, e⟩
    · exact .inl (by rw [decide_eq_false (by omega)]; rfl)
    · exact .inl (by rw [decide_eq_false (show ¬ P.length ≤ hiK k by omega), Bool.and_false])
    · exact .inr fun n => by
        have := List.filter_eq_nil_iff.mp n z hz
        rw [e] at this
        exact this rfl
  have tail : ∀ (q1 : D) (lo hi : Nat), lo = loK k → hi = hiK k → (do
      let t74 ← (DL.orM (DL.notM (do let x55 ← (chainM leD leD (pure (.int (lo : Int))) (DL.ask (lenD [.tup (P.map D.str)])) (pure (.int (hi : Int)))); DL.ask (bOf x55))) (do let r63 ← (DL.ask (itD (.tup (P.map D.str)))); let x64 ← (lcF (fun d => some d) (fun (c58 : D) => (DL.notM (do let x62 ← (Mo.lift (m_is_label_344b [c58])); DL.ask (truD x62)))) (fun (c58 : D) => (pure c58)) r63); DL.ask (truD (.lst x64))) : R Bool)
      seqF (if t74 = true then (pure (.rt .non)) else (pure (.nx ()))) fun (q65 : Unit) => (do let r72 ← DL.ask (szL [q1, .tup (P.map D.str)]); pure (.rt (.tup r72))) : R (Fl Unit Empty)) = pure (.rt .non) := fun q1 lo hi e1 e2 => by
    subst e1 e2
    have ch : (chainM leD leD (pure (.int (loK k : Int))) (pure (.int (P.length : Int))) (pure (.int (hiK k : Int))) : R D) = .ok (.bl (decide (loK k ≤ P.length) && decide (P.length ≤ hiK k))) := by
      rw [chain_ii]
      congr 3
      · exact decide_eq_decide.mpr (by omega)
      · exact decide_eq_decide.mpr (by omega)
    simp only [lenT, askR, pure_bind, ch, okpR, bOf_bl, DL.orM, DL.notM, il, nb]
    rcases fin .non with h | h
    · simp only [h, Bool.not_false, if_true]; rfl
    · have tr : truD (.lst ((P.filter fun z => !isLab 20 z).map D.str)) = some true := by
        cases e : P.filter fun z => !isLab 20 z with
        | nil => exact absurd e h
        | cons a b => rfl
      cases (decide (loK k ≤ P.length) && decide (P.length ≤ hiK k))
      · simp only [Bool.not_false, if_true]; rfl
      · simp only [Bool.not_true, Bool.false_eq_true, if_false, tr, askR, okpR, pure_bind, if_true]; rfl
  unfold m_parsed_row_b892 apR1
  simp only [e_parsed_row_b892, isS, askR, pure_bind, tru_bl, DL.notM, Bool.not_true, Bool.false_eq_true, if_false, sqp, sz4, u4, str_of, stm]
  simp only [DL.notM] at tail
  cases k with
  | pl =>
    obtain ⟨p1, p2⟩ := hp rfl
    have s1 : (decide (([33] : List Nat).length ≤ (rowT (.pl, P)).length) && decide ((rowT (.pl, P)).take ([33] : List Nat).length = [33])) = false := by
      show (_ && decide ((joinN [46] P).take 1 = [33])) = false
      rw [decide_eq_false p1, Bool.and_false]
    have s2 : (decide (([42, 46] : List Nat).length ≤ (rowT (.pl, P)).length) && decide ((rowT (.pl, P)).take ([42, 46] : List Nat).length = [42, 46])) = false := by
      show (_ && decide ((joinN [46] P).take 2 = [42, 46])) = false
      rw [decide_eq_false p2, Bool.and_false]
    have g0 : List.getD [c_PLAIN, D.str (rowT (.pl, P)), .int 1, c_MOST_LABELS_OF_ROW] 0 D.non = c_PLAIN := rfl
    have g1 : List.getD [c_PLAIN, D.str (rowT (.pl, P)), .int 1, c_MOST_LABELS_OF_ROW] 1 D.non = D.str (joinN [46] P) := rfl
    have g2 : List.getD [c_PLAIN, D.str (rowT (.pl, P)), .int 1, c_MOST_LABELS_OF_ROW] 2 D.non = .int ((1 : Nat) : Int) := rfl
    have g3 : List.getD [c_PLAIN, D.str (rowT (.pl, P)), .int 1, c_MOST_LABELS_OF_ROW] 3 D.non = .int ((3 : Nat) : Int) := rfl
    simp only [s1, s2, g0, g1, g2, g3, tru_bl, askR, pure_bind, Bool.false_eq_true, if_false, sqp, str_of, sp, tup_lst]
    rw [tail c_PLAIN 1 3 rfl rfl]; rfl
  | wi =>
    have s1 : (decide (([33] : List Nat).length ≤ (rowT (.wi, P)).length) && decide ((rowT (.wi, P)).take ([33] : List Nat).length = [33])) = false := by
      show (_ && decide ((42 :: 46 :: joinN [46] P).take 1 = [33])) = false
      simp
    have s2 : (decide (([42, 46] : List Nat).length ≤ (rowT (.wi, P)).length) && decide ((rowT (.wi, P)).take ([42, 46] : List Nat).length = [42, 46])) = true := by
      show (decide (2 ≤ (42 :: 46 :: joinN [46] P).length) && decide ((42 :: 46 :: joinN [46] P).take 2 = [42, 46])) = true
      simp
    have g2 : List.getD [c_PLAIN, D.str (rowT (.wi, P)), .int 1, c_MOST_LABELS_OF_ROW] 2 D.non = .int ((1 : Nat) : Int) := rfl
    have cu : cutL (rowT (.wi, P)) (some 2) none = joinN [46] P := by
      rw [cut_lo (by omega)]; rfl
    have sb : subD c_MOST_LABELS_OF_ROW (.int 1) = some (.int ((2 : Nat) : Int)) := rfl
    simp only [s1, s2, g2, int_of, slice_s, cu, sb, tru_bl, askR, pure_bind, Bool.false_eq_true, if_false, if_true, sqp, str_of, sp, tup_lst]
    rw [tail c_WILD 1 2 rfl rfl]; rfl
  | ex =>
    have s1 : (decide (([33] : List Nat).length ≤ (rowT (.ex, P)).length) && decide ((rowT (.ex, P)).take ([33] : List Nat).length = [33])) = true := by
      show (decide (1 ≤ (33 :: joinN [46] P).length) && decide ((33 :: joinN [46] P).take 1 = [33])) = true
      simp
    have g3 : List.getD [c_PLAIN, D.str (rowT (.ex, P)), .int 1, c_MOST_LABELS_OF_ROW] 3 D.non = .int ((3 : Nat) : Int) := rfl
    have cu : cutL (rowT (.ex, P)) (some 1) none = joinN [46] P := by
      rw [cut_lo (by omega)]; rfl
    have e2 : D.int 2 = .int ((2 : Nat) : Int) := rfl
    simp only [s1, g3, int_of, slice_s, cu, tru_bl, askR, pure_bind, Bool.false_eq_true, if_false, if_true, sqp, str_of, sp, tup_lst]
    rw [e2, tail c_EXCEPTION 2 3 rfl rfl]; rfl
theorem parse_not {d : D} (h : isiD "str" d = some (.bl false)) : m_parsed_row_b892 [d] = .ok .non := by
  unfold m_parsed_row_b892 apR1
  simp only [e_parsed_row_b892, h, askR, pure_bind, tru_bl, DL.notM, Bool.not_false, if_true]
  rfl
end FN
namespace FN
open DL PySem PySem.W
theorem called65 {xs : List D} (h1 : 1 ≤ xs.length) (h : xs.length ≤ 9) (hn : nic 5 (.lst xs) = true) : m__law_table_289a [.lst xs] = (do let o ← m_Table_init_f8f8 [.tup xs]; pure (.ins "Table" ["rows", "parsed"] o) : R D) := by
  have st : starD 0 m_Table_init_f8f8 xs = m_Table_init_f8f8 [.tup xs] := star0 (by omega)
  have en : (eqD (.lst xs) (.lst [])).bind bOf = some false := by
    rw [eq_nic (n := 5) (m := 3) hn rfl (by omega) (by omega)]
    cases xs with
    | nil => simp at h1
    | cons a b => rfl
  have e := fun (i j : Int) => (show (eqD (.int i) (.int j)).bind bOf = some (decide (i = j)) from rfl)
  have e2 := fun (i j : Int) => (show (ltD (.int i) (.int j)).bind bOf = some (decide (i < j)) from rfl)
  have s0 : szL [] = some [] := sz_ok (by simp)
  have ll : lenD [.lst xs] = some (.int (xs.length : Int)) := rfl
  unfold m__law_table_289a apR1
  simp only [e__law_table_289a, ll, e, e2, s0, en, askR, pure_bind, lift_pR]
  match xs, h1, h, st with
  | [x0], _, _, st =>
    have i0 : ixD (.lst ([x0] : List D)) (.int 0) = some x0 := rfl
    have d0 : decide ((([x0] : List D).length : Int) < 3) = true := rfl
    have d1 : decide ((([x0] : List D).length : Int) = 1) = true := rfl
    simp only [d0, d1, if_true, Bool.false_eq_true, if_false, iteM, sqp, i0, askR, pure_bind, st]
    cases m_Table_init_f8f8 [.tup [x0]] <;> rfl
  | [x0, x1], _, _, st =>
    have i0 : ixD (.lst ([x0, x1] : List D)) (.int 0) = some x0 := rfl
    have i1 : ixD (.lst ([x0, x1] : List D)) (.int 1) = some x1 := rfl
    have d0 : decide ((([x0, x1] : List D).length : Int) < 3) = true := rfl
    have d1 : decide ((([x0, x1] : List D).length : Int) = 1) = false := rfl
    simp only [d0, d1, if_true, Bool.false_eq_true, if_false, iteM, sqp, i0, i1, askR, pure_bind, st]
    cases m_Table_init_f8f8 [.tup [x0, x1]] <;> rfl
  | [x0, x1, x2], _, _, st =>
    have i0 : ixD (.lst ([x0, x1, x2] : List D)) (.int 0) = some x0 := rfl
    have i1 : ixD (.lst ([x0, x1, x2] : List D)) (.int 1) = some x1 := rfl
    have i2 : ixD (.lst ([x0, x1, x2] : List D)) (.int 2) = some x2 := rfl
    have d0 : decide ((([x0, x1, x2] : List D).length : Int) < 3) = false := rfl
    have d3 : decide ((([x0, x1, x2] : List D).length : Int) = 3) = true := rfl
    simp only [d0, d3, if_true, Bool.false_eq_true, if_false, iteM, sqp, i0, i1, i2, askR, pure_bind, st]
    cases m_Table_init_f8f8 [.tup [x0, x1, x2]] <;> rfl
  | [x0, x1, x2, x3], _, _, st =>
    have i0 : ixD (.lst ([x0, x1, x2, x3] : List D)) (.int 0) = some x0 := rfl
    have i1 : ixD (.lst ([x0, x1, x2, x3] : List D)) (.int 1) = some x1 := rfl
    have i2 : ixD (.lst ([x0, x1, x2, x3] : List D)) (.int 2) = some x2 := rfl
    have i3 : ixD (.lst ([x0, x1, x2, x3] : List D)) (.int 3) = some x3 := rfl
    have d0 : decide ((([x0, x1, x2, x3] : List D).length : Int) < 3) = false := rfl
    have d3 : decide ((([x0, x1, x2, x3] : List D).length : Int) = 3) = false := rfl
    have d4 : decide ((([x0, x1, x2, x3] : List D).length : Int) = 4) = true := rfl
    simp only [d0, d3, d4, if_true, Bool.false_eq_true, if_false, iteM, sqp, i0, i1, i2, i3, askR, pure_bind, st]
    cases m_Table_init_f8f8 [.tup [x0, x1, x2, x3]] <;> rfl
  | [x0, x1, x2, x3, x4], _, _, st =>
    have i0 : ixD (.lst ([x0, x1, x2, x3, x4] : List D)) (.int 0) = some x0 := rfl
    have i1 : ixD (.lst ([x0, x1, x2, x3, x4] : List D)) (.int 1) = some x1 := rfl
    have i2 : ixD (.lst ([x0, x1, x2, x3, x4] : List D)) (.int 2) = some x2 := rfl
    have i3 : ixD (.lst ([x0, x1, x2, x3, x4] : List D)) (.int 3) = some x3 := rfl
    have i4 : ixD (.lst ([x0, x1, x2, x3, x4] : List D)) (.int 4) = some x4 := rfl
    have d0 : decide ((([x0, x1, x2, x3, x4] : List D).length : Int) < 3) = false := rfl
    have d3 : decide ((([x0, x1, x2, x3, x4] : List D).length : Int) = 3) = false := rfl
    have d4 : decide ((([x0, x1, x2, x3, x4] : List D).length : Int) = 4) = false := rfl
    have d5 : decide ((([x0, x1, x2, x3, x4] : List D).length : Int) = 5) = true := rfl
    simp only [d0, d3, d4, d5, if_true, Bool.false_eq_true, if_false, iteM, sqp, i0, i1, i2, i3, i4, askR, pure_bind, st]
    cases m_Table_init_f8f8 [.tup [x0, x1, x2, x3, x4]] <;> rfl
  | [x0, x1, x2, x3, x4, x5], _, _, st =>
    have i0 : ixD (.lst ([x0, x1, x2, x3, x4, x5] : List D)) (.int 0) = some x0 := rfl
    have i1 : ixD (.lst ([x0, x1, x2, x3, x4, x5] : List D)) (.int 1) = some x1 := rfl
    have i2 : ixD (.lst ([x0, x1, x2, x3, x4, x5] : List D)) (.int 2) = some x2 := rfl
    have i3 : ixD (.lst ([x0, x1, x2, x3, x4, x5] : List D)) (.int 3) = some x3 := rfl
    have i4 : ixD (.lst ([x0, x1, x2, x3, x4, x5] : List D)) (.int 4) = some x4 := rfl
    have i5 : ixD (.lst ([x0, x1, x2, x3, x4, x5] : List D)) (.int 5) = some x5 := rfl
    have d0 : decide ((([x0, x1, x2, x3, x4, x5] : List D).length : Int) < 3) = false := rfl
    have d3 : decide ((([x0, x1, x2, x3, x4, x5] : List D).length : Int) = 3) = false := rfl
    have d4 : decide ((([x0, x1, x2, x3, x4, x5] : List D).length : Int) = 4) = false := rfl
    have d5 : decide ((([x0, x1, x2, x3, x4, x5] : List D).length : Int) = 5) = false := rfl
    have d6 : decide ((([x0, x1, x2, x3, x4, x5] : List D).length : Int) = 6) = true := rfl
    simp only [d0, d3, d4, d5, d6, if_true, Bool.false_eq_true, if_false, iteM, sqp, i0, i1, i2, i3, i4, i5, askR, pure_bind, st]
    cases m_Table_init_f8f8 [.tup [x0, x1, x2, x3, x4, x5]] <;> rfl
  | [x0, x1, x2, x3, x4, x5, x6], _, _, st =>
    have i0 : ixD (.lst ([x0, x1, x2, x3, x4, x5, x6] : List D)) (.int 0) = some x0 := rfl
    have i1 : ixD (.lst ([x0, x1, x2, x3, x4, x5, x6] : List D)) (.int 1) = some x1 := rfl
    have i2 : ixD (.lst ([x0, x1, x2, x3, x4, x5, x6] : List D)) (.int 2) = some x2 := rfl
    have i3 : ixD (.lst ([x0, x1, x2, x3, x4, x5, x6] : List D)) (.int 3) = some x3 := rfl
    have i4 : ixD (.lst ([x0, x1, x2, x3, x4, x5, x6] : List D)) (.int 4) = some x4 := rfl
    have i5 : ixD (.lst ([x0, x1, x2, x3, x4, x5, x6] : List D)) (.int 5) = some x5 := rfl
    have i6 : ixD (.lst ([x0, x1, x2, x3, x4, x5, x6] : List D)) (.int 6) = some x6 := rfl
    have d0 : decide ((([x0, x1, x2, x3, x4, x5, x6] : List D).length : Int) < 3) = false := rfl
    have d3 : decide ((([x0, x1, x2, x3, x4, x5, x6] : List D).length : Int) = 3) = false := rfl
    have d4 : decide ((([x0, x1, x2, x3, x4, x5, x6] : List D).length : Int) = 4) = false := rfl
    have d5 : decide ((([x0, x1, x2, x3, x4, x5, x6] : List D).length : Int) = 5) = false := rfl
    have d6 : decide ((([x0, x1, x2, x3, x4, x5, x6] : List D).length : Int) = 6) = false := rfl
    have d7 : decide ((([x0, x1, x2, x3, x4, x5, x6] : List D).length : Int) = 7) = true := rfl
    simp only [d0, d3, d4, d5, d6, d7, if_true, Bool.false_eq_true, if_false, iteM, sqp, i0, i1, i2, i3, i4, i5, i6, askR, pure_bind, st]
    cases m_Table_init_f8f8 [.tup [x0, x1, x2, x3, x4, x5, x6]] <;> rfl
  | [x0, x1, x2, x3, x4, x5, x6, x7], _, _, st =>
    have i0 : ixD (.lst ([x0, x1, x2, x3, x4, x5, x6, x7] : List D)) (.int 0) = some x0 := rfl
    have i1 : ixD (.lst ([x0, x1, x2, x3, x4, x5, x6, x7] : List D)) (.int 1) = some x1 := rfl
    have i2 : ixD (.lst ([x0, x1, x2, x3, x4, x5, x6, x7] : List D)) (.int 2) = some x2 := rfl
    have i3 : ixD (.lst ([x0, x1, x2, x3, x4, x5, x6, x7] : List D)) (.int 3) = some x3 := rfl
    have i4 : ixD (.lst ([x0, x1, x2, x3, x4, x5, x6, x7] : List D)) (.int 4) = some x4 := rfl
    have i5 : ixD (.lst ([x0, x1, x2, x3, x4, x5, x6, x7] : List D)) (.int 5) = some x5 := rfl
    have i6 : ixD (.lst ([x0, x1, x2, x3, x4, x5, x6, x7] : List D)) (.int 6) = some x6 := rfl
    have i7 : ixD (.lst ([x0, x1, x2, x3, x4, x5, x6, x7] : List D)) (.int 7) = some x7 := rfl
    have d0 : decide ((([x0, x1, x2, x3, x4, x5, x6, x7] : List D).length : Int) < 3) = false := rfl
    have d3 : decide ((([x0, x1, x2, x3, x4, x5, x6, x7] : List D).length : Int) = 3) = false := rfl
    have d4 : decide ((([x0, x1, x2, x3, x4, x5, x6, x7] : List D).length : Int) = 4) = false := rfl
    have d5 : decide ((([x0, x1, x2, x3, x4, x5, x6, x7] : List D).length : Int) = 5) = false := rfl
    have d6 : decide ((([x0, x1, x2, x3, x4, x5, x6, x7] : List D).length : Int) = 6) = false := rfl
    have d7 : decide ((([x0, x1, x2, x3, x4, x5, x6, x7] : List D).length : Int) = 7) = false := rfl
    have d8 : decide ((([x0, x1, x2, x3, x4, x5, x6, x7] : List D).length : Int) = 8) = true := rfl
    simp only [d0, d3, d4, d5, d6, d7, d8, if_true, Bool.false_eq_true, if_false, iteM, sqp, i0, i1, i2, i3, i4, i5, i6, i7, askR, pure_bind, st]
    cases m_Table_init_f8f8 [.tup [x0, x1, x2, x3, x4, x5, x6, x7]] <;> rfl
  | [x0, x1, x2, x3, x4, x5, x6, x7, x8], _, _, st =>
    have i0 : ixD (.lst ([x0, x1, x2, x3, x4, x5, x6, x7, x8] : List D)) (.int 0) = some x0 := rfl
    have i1 : ixD (.lst ([x0, x1, x2, x3, x4, x5, x6, x7, x8] : List D)) (.int 1) = some x1 := rfl
    have i2 : ixD (.lst ([x0, x1, x2, x3, x4, x5, x6, x7, x8] : List D)) (.int 2) = some x2 := rfl
    have i3 : ixD (.lst ([x0, x1, x2, x3, x4, x5, x6, x7, x8] : List D)) (.int 3) = some x3 := rfl
    have i4 : ixD (.lst ([x0, x1, x2, x3, x4, x5, x6, x7, x8] : List D)) (.int 4) = some x4 := rfl
    have i5 : ixD (.lst ([x0, x1, x2, x3, x4, x5, x6, x7, x8] : List D)) (.int 5) = some x5 := rfl
    have i6 : ixD (.lst ([x0, x1, x2, x3, x4, x5, x6, x7, x8] : List D)) (.int 6) = some x6 := rfl
    have i7 : ixD (.lst ([x0, x1, x2, x3, x4, x5, x6, x7, x8] : List D)) (.int 7) = some x7 := rfl
    have i8 : ixD (.lst ([x0, x1, x2, x3, x4, x5, x6, x7, x8] : List D)) (.int 8) = some x8 := rfl
    have d0 : decide ((([x0, x1, x2, x3, x4, x5, x6, x7, x8] : List D).length : Int) < 3) = false := rfl
    have d3 : decide ((([x0, x1, x2, x3, x4, x5, x6, x7, x8] : List D).length : Int) = 3) = false := rfl
    have d4 : decide ((([x0, x1, x2, x3, x4, x5, x6, x7, x8] : List D).length : Int) = 4) = false := rfl
    have d5 : decide ((([x0, x1, x2, x3, x4, x5, x6, x7, x8] : List D).length : Int) = 5) = false := rfl
    have d6 : decide ((([x0, x1, x2, x3, x4, x5, x6, x7, x8] : List D).length : Int) = 6) = false := rfl
    have d7 : decide ((([x0, x1, x2, x3, x4, x5, x6, x7, x8] : List D).length : Int) = 7) = false := rfl
    have d8 : decide ((([x0, x1, x2, x3, x4, x5, x6, x7, x8] : List D).length : Int) = 8) = false := rfl
    simp only [d0, d3, d4, d5, d6, d7, d8, if_true, Bool.false_eq_true, if_false, iteM, sqp, i0, i1, i2, i3, i4, i5, i6, i7, i8, askR, pure_bind, st]
    cases m_Table_init_f8f8 [.tup [x0, x1, x2, x3, x4, x5, x6, x7, x8]] <;> rfl
  | [], h, _, _ => simp at h
  | _ :: _ :: _ :: _ :: _ :: _ :: _ :: _ :: _ :: _ :: _, _, h, _ => simp at h
theorem for_exc {γ β : Type} {u : D → Option γ} {xb : Unit → γ → R (Fl Unit Unit)} (e : D → Option Exn) : ∀ (ds : List D), (∀ d ∈ ds, ∃ c, u d = some c ∧ xb () c = match e d with | some x => .ex x | none => .ok (.nx ())) → (forF u xb ds () : R (Fl Unit β)) = match ds.findSome? e with | some x => .ex x | none => .ok (.nx ())
  | [], _ => rfl
  | d :: ds, h => by
    obtain ⟨c, hu, hx⟩ := h d (.head _)
    have ih := for_exc (β := β) e ds fun x m => h x (.tail _ m)
    rw [forF, hu, List.findSome?_cons]
    show ((xb () c) >>= _) = _
    rw [hx]
    cases q : e d with
    | some x => rfl
    | none => exact ih
theorem for_ret {γ : Type} {u : D → Option γ} {xb : Unit → γ → R (Fl Unit Unit)} (e : D → Option D) : ∀ (ds : List D), (∀ d ∈ ds, ∃ c, u d = some c ∧ xb () c = match e d with | some x => .ok (.rt x) | none => .ok (.nx ())) → (forF u xb ds () : R (Fl Unit Empty)) = match ds.findSome? e with | some x => .ok (.rt x) | none => .ok (.nx ())
  | [], _ => rfl
  | d :: ds, h => by
    obtain ⟨c, hu, hx⟩ := h d (.head _)
    have ih := for_ret e ds fun x m => h x (.tail _ m)
    rw [forF, hu, List.findSome?_cons]
    show ((xb () c) >>= _) = _
    rw [hx]
    cases q : e d with
    | some x => rfl
    | none => exact ih
/-- a thing and whether it is a row -/
def RwT (p : D × Bool) : Prop := nic 3 p.1 = true ∧ (p.2 = true → ∃ r : Row, p.1 = .str (rowT r) ∧ RowOk r) ∧ (p.2 = false → m_parsed_row_b892 [p.1] = .ok .non)
def fstB (L : List (D × Bool)) : Option D := L.findSome? fun p => if p.2 = true then none else some p.1
def dupF (T : List (List Nat)) : Option (List Nat) := (List.range T.length).findSome? fun i => match T[i]? with | some z => if z ∈ T.take i then some z else none | none => none
theorem findSome_map {α β γ : Type} (f : α → β) (g : β → Option γ) : ∀ L : List α, (L.map f).findSome? g = L.findSome? fun a => g (f a)
  | [] => rfl
  | a :: L => by
    rw [List.map_cons, List.findSome?_cons, List.findSome?_cons, findSome_map f g L]
theorem enumK_range : ∀ (T : List (List Nat)) (k : Nat), enumK T k = (List.range T.length).map fun i => D.tup [.int ((k + i : Nat) : Int), .str (T.getD i [])]
  | [], k => rfl
  | z :: T, k => by
    show D.tup [.int (k : Int), .str z] :: enumK T (k + 1) = _
    rw [enumK_range T (k + 1), List.length_cons, List.range_succ_eq_map, List.map_cons, List.map_map]
    congr 1
    refine List.map_congr_left fun i _ => ?_
    show D.tup [.int ((k + 1 + i : Nat) : Int), .str (T.getD i [])] = D.tup [.int ((k + (i + 1) : Nat) : Int), .str ((z :: T).getD (i + 1) [])]
    rw [show k + 1 + i = k + (i + 1) by omega]
    rfl
theorem init_bad {L : List (D × Bool)} (hL : ∀ p ∈ L, RwT p) {d : D} (h : fstB L = some d) : m_Table_init_f8f8 [.tup (L.map Prod.fst)] = .ex ⟨"BadRow", "row", d⟩ := by
  have it : itD (.tup (L.map Prod.fst)) = some (L.map Prod.fst) := rfl
  unfold m_Table_init_f8f8 apI1
  simp only [e_Table_init_f8f8, it, askR, pure_bind]
  have key := for_exc (β := Empty) (u := fun d => some d) (xb := fun (q2 : Unit) (c3 : D) => (do let x7 ← (Mo.lift (m_parsed_row_b892 [c3]) : R D); let t11 ← (DL.ask ((isD x7 .non).bind bOf)); seqF (if t11 = true then (raiseX "BadRow" "row" c3) else (pure (.nx ()))) fun (q9 : Unit) => (pure (.nx ())))) (fun d => match m_parsed_row_b892 [d] with | .ok .non => some ⟨"BadRow", "row", d⟩ | _ => none) (L.map Prod.fst) fun d m => ⟨d, rfl, by
    obtain ⟨p, hp, rfl⟩ := List.mem_map.mp m
    cases q : p.2 with
    | false =>
      rw [(hL p hp).2.2 q]
      rfl
    | true =>
      obtain ⟨r, er, hr⟩ := (hL p hp).2.1 q
      have e := parsed_ok hr
      rw [er, e]
      have isn : (isD (rowD r) .non).bind bOf = some false := rfl
      simp only [lift_pR, okpR, pure_bind, isn, askR, Bool.false_eq_true, if_false]
      rfl⟩
  rw [key, findSome_map]
  have : L.findSome? (fun p => match m_parsed_row_b892 [p.1] with | .ok .non => some (⟨"BadRow", "row", p.1⟩ : Exn) | _ => none) = some ⟨"BadRow", "row", d⟩ := by
    clear key it
    induction L with
    | nil => cases h
    | cons p L ih =>
      unfold fstB at h
      rw [List.findSome?_cons] at h ⊢
      cases q : p.2 with
      | false =>
        rw [q] at h
        simp only [Bool.false_eq_true, if_false, Option.some.injEq] at h
        rw [(hL p (.head _)).2.2 q, ← h]
      | true =>
        rw [q] at h
        simp only [if_true] at h
        obtain ⟨r, er, hr⟩ := (hL p (.head _)).2.1 q
        rw [er, parsed_ok hr]
        exact ih (fun x m => hL x (.tail _ m)) h
  rw [this]
  rfl
def eDup (T : List (List Nat)) : D → Option Exn
  | .tup [.int i, .str z] => if z ∈ T.take i.toNat then some ⟨"Twice", "name", .str z⟩ else none
  | _ => none
theorem eDup_mk (T : List (List Nat)) (i : Nat) (z : List Nat) : eDup T (.tup [.int (i : Int), .str z]) = if z ∈ T.take i then some ⟨"Twice", "name", .str z⟩ else none := by
  show (if z ∈ T.take (i : Int).toNat then _ else none) = _
  rw [Int.toNat_natCast]
theorem init_good {rows : List Row} (hr : ∀ r ∈ rows, RowOk r) (hl : rows.length ≤ 1000) : m_Table_init_f8f8 [.tup (rowsD rows)] = match dupF (rows.map rowT) with
    | some z => .ex ⟨"Twice", "name", .str z⟩
    | none => if 8 < rows.length then .ex ⟨"TooMany", "limit", .int 8⟩ else .ok [.tup (rowsD rows), .tup (rows.map rowD)] := by
  have it : itD (.tup (rowsD rows)) = some (rowsD rows) := rfl
  have eT : rowsD rows = (rows.map rowT).map D.str := by simp [rowsD]
  have en : enumT [.tup (rowsD rows)] = some (enumK (rows.map rowT) 0) := by
    show some (enumL (rowsD rows)) = _
    rw [eT, enumL_strs]
  have ll : lenD [.tup (rowsD rows)] = some (.int (rows.length : Int)) := by
    show some (D.int ((rowsD rows).length : Int)) = _
    rw [rowsD, List.length_map]
  have g8 : (gtD (.int (rows.length : Int)) c_MOST_ROWS).bind bOf = some (decide (8 < rows.length)) := by
    show (gtD (.int (rows.length : Int)) (.int 8)).bind bOf = _
    rw [gt_l]
    show some (decide _) = _
    congr 1
    exact decide_eq_decide.mpr (by omega)
  have tp : tupleD [.tup (rowsD rows)] = some (.tup (rowsD rows)) := rfl
  have hT : ∀ w ∈ rows.map rowT, Tx 1000 w := fun w m => by
    obtain ⟨r, hr', rfl⟩ := List.mem_map.mp m
    exact row_tx (hr r hr')
  unfold m_Table_init_f8f8 apI1
  simp only [e_Table_init_f8f8, it, en, ll, g8, tp, askR, pure_bind]
  rw [for_unit (β := Empty) (rowsD rows) (fun d m => ⟨d, rfl, ?_⟩), seqR_nx, for_exc (β := Empty) (eDup (rows.map rowT)) (enumK (rows.map rowT) 0) (fun d m => ?_), enumK_range, findSome_map]
  · have eq : (List.range (rows.map rowT).length).findSome? (fun i => eDup (rows.map rowT) (D.tup [.int ((0 + i : Nat) : Int), .str ((rows.map rowT).getD i [])])) = (dupF (rows.map rowT)).map fun z => ⟨"Twice", "name", .str z⟩ := by
      unfold dupF
      rw [List.map_findSome?]
      have : ∀ l : List Nat, (∀ i ∈ l, i < (rows.map rowT).length) → l.findSome? (fun i => eDup (rows.map rowT) (D.tup [.int ((0 + i : Nat) : Int), .str ((rows.map rowT).getD i [])])) = l.findSome? (fun i => (match (rows.map rowT)[i]? with | some z => if z ∈ (rows.map rowT).take i then some z else none | none => none).map fun z => (⟨"Twice", "name", .str z⟩ : Exn)) := fun l hl => by
        induction l with
        | nil => rfl
        | cons i l ih =>
          rw [List.findSome?_cons, List.findSome?_cons, ih fun x m => hl x (.tail _ m)]
          have hi := hl i (.head _)
          have e1 : (rows.map rowT)[i]? = some ((rows.map rowT).getD i []) := by
            rw [List.getD_eq_getElem?_getD, List.getElem?_eq_getElem hi]; rfl
          rw [e1, Nat.zero_add, eDup_mk]
          by_cases c : (rows.map rowT).getD i [] ∈ (rows.map rowT).take i
          · simp only [if_pos c, Option.map_some]
          · simp only [if_neg c, Option.map_none]
      exact this _ fun i m => List.mem_range.mp m
    rw [eq]
    cases dupF (rows.map rowT) with
    | some z => rfl
    | none =>
      simp only [Option.map_none]
      rw [seqR_nx]
      by_cases c : 8 < rows.length
      · simp only [decide_eq_true c, if_true, if_pos c]; rfl
      · simp only [decide_eq_false c, Bool.false_eq_true, if_false, if_neg c, sqp]
        rw [parse_all hr]
        rfl
  · obtain ⟨i, z, hz, rfl⟩ := enumK_get m
    refine ⟨(.int ((0 + i : Nat) : Int), .str z), rfl, ?_⟩
    rw [Nat.zero_add]
    have sl : sliceD (.tup (rowsD rows)) none (some (i : Int)) = some (.tup (((rows.map rowT).take i).map D.str)) := by
      rw [slice_t, cut_toD, eT, List.map_take]
    have hi : (inD (.str z) (.tup (((rows.map rowT).take i).map D.str))).bind bOf = some (decide (z ∈ (rows.map rowT).take i)) := by
      unfold inD
      rw [in_strsT (hT z (List.mem_of_getElem? hz)) (fun w m => hT w (List.mem_of_mem_take m))]
      rfl
    rw [eDup_mk]
    simp only [int_of, sl, hi, askR, pure_bind]
    by_cases c : z ∈ (rows.map rowT).take i
    · simp only [decide_eq_true c, if_true, if_pos c]; rfl
    · simp only [decide_eq_false c, Bool.false_eq_true, if_false, if_neg c]; rfl
  · obtain ⟨r, hr', rfl⟩ := List.mem_map.mp (show d ∈ rows.map fun r => D.str (rowT r) from m)
    have e := parsed_ok (hr r hr')
    have isn : (isD (rowD r) .non).bind bOf = some false := rfl
    simp only [e, lift_pR, okpR, pure_bind, isn, askR, Bool.false_eq_true, if_false]
    rfl
end FN
namespace FN
open DL PySem PySem.W
def odds (z : List Nat) : List D := [.str [], .str [42], .str [42, 46], .str [33], .str ([33] ++ z), .str (z ++ [46]), .str ([46] ++ z), .str (z ++ [46, 46] ++ z), .str ([42, 46] ++ z ++ [46, 97, 46, 98])] ++
  [.str ([97, 46, 98, 46, 99, 46] ++ z), .str (z ++ [42]), .str ([42] ++ z), .str ([42, 46, 42, 46] ++ z), .str ([33, 42, 46] ++ z), .str (z ++ [46, 65]), .str (z ++ [32])] ++
  [.str (z ++ [10]), .str ([42, 46, 33] ++ z), .str ([33, 97, 46, 98, 46, 99, 46] ++ z), .str (List.replicate 21 97), .non, .bl true, .int 1, .tup [.str z], .lst [.str z], .str ([42, 42, 46] ++ z)]
theorem nic_str {z : List Nat} {n : Nat} (h : ∀ c ∈ z, c < 1114112) : nic n (.str z) = true := nic_mono 0 n _ (by omega) (List.all_eq_true.mpr fun c m => decide_eq_true (h c m))
theorem bad_row {k : Kd} {P : List (List Nat)} {t : List Nat} (e : t = rowT (k, P)) (h0 : P ≠ []) (hf : ∀ p ∈ P, 46 ∉ p ∧ ∀ c ∈ p, c < 1114112) (hl : (joinN [46] P).length ≤ 900) (hb : P.length < loK k ∨ hiK k < P.length ∨ ∃ z ∈ P, isLab 20 z = false) (hp : k = .pl → (joinN [46] P).take 1 ≠ [33] ∧ (joinN [46] P).take 2 ≠ [42, 46])
    (ht : ∀ c ∈ t, c < 1114112) : RwT (.str t, false) :=
  ⟨nic_str ht, (fun h => by cases h), fun _ => by rw [show (D.str t, false).1 = D.str t from rfl, e]; exact parse_bad h0 (fun p m => (hf p m).1) hl hb hp⟩
theorem fm_nil {P : List Nat → Prop} : ∀ p ∈ ([] : List (List Nat)), P p := fun _ m => by cases m
theorem fm_cons {P : List Nat → Prop} {a : List Nat} {l : List (List Nat)} (h : P a) (t : ∀ p ∈ l, P p) : ∀ p ∈ a :: l, P p := fun p m => by
  rcases List.mem_cons.mp m with rfl | m
  · exact h
  · exact t p m
theorem lab_not {s : Nat} {p : List Nat} (hs : s ∉ CH) (h : s ∈ p) : isLab 20 p = false := by
  cases e : isLab 20 p with
  | false => rfl
  | true => exact absurd ((isLab_iff.mp e).2.2 s h) hs
theorem odds_bad {z : List Nat} (hz : isLab 20 z = true) : ∀ d ∈ odds z, RwT (d, false) := by
  obtain ⟨h1, h2, h3⟩ := isLab_iff.mp hz
  have f46 : 46 ∉ z := ch_free (by decide) hz
  have cz : ∀ c ∈ z, c < 1114112 := fun c m => ch_lt (h3 c m)
  obtain ⟨c, r, ez⟩ : ∃ c r, z = c :: r := by
    cases z with
    | nil => simp at h1
    | cons c r => exact ⟨c, r, rfl⟩
  have hc : c ∈ CH := h3 c (by rw [ez]; exact .head _)
  have c33 : c ≠ 33 := fun e => by rw [e] at hc; revert hc; decide
  have c42 : c ≠ 42 := fun e => by rw [e] at hc; revert hc; decide
  have c46 : c ≠ 46 := fun e => by rw [e] at hc; revert hc; decide
  have t1 : ∀ w, (z ++ w).take 1 = [c] := fun w => by rw [ez]; rfl
  have t2 : ∀ w : List Nat, w.take 2 = [42, 46] → w.take 1 = [42] := fun w h => by
    have := congrArg (List.take 1) h
    rw [List.take_take] at this
    exact this
  have tz : ∀ w, (z ++ w).take 1 ≠ [33] ∧ (z ++ w).take 2 ≠ [42, 46] := fun w => ⟨by rw [t1]; simp [c33], fun h => by have := t2 _ h; rw [t1] at this; simp [c42] at this⟩
  have fz : ∀ (s : Nat), s ∉ CH → s ∉ z := fun s hs m => hs (h3 s m)
  intro d m
  have lt : ∀ n : Nat, n < 1000 → n < 1114112 := fun n h => by omega
  have e1 : isLab 20 [] = false := rfl
  simp only [odds, List.mem_append, List.mem_cons, List.not_mem_nil, or_false] at m
  rcases m with ((rfl | rfl | rfl | rfl | rfl | rfl | rfl | rfl | rfl) | (rfl | rfl | rfl | rfl | rfl | rfl | rfl)) | (rfl | rfl | rfl | rfl | rfl | rfl | rfl | rfl | rfl | rfl)
  · exact bad_row (k := .pl) (P := [[]]) (by simp [rowT, joinN]) (by simp) (fm_cons (⟨by decide, by decide⟩) fm_nil) (by simp [joinN] <;> omega) (.inr (.inr ⟨[], by simp, rfl⟩)) (fun _ => (by simp [joinN])) (by decide)
  · exact bad_row (k := .pl) (P := [[42]]) (by simp [rowT, joinN]) (by simp) (fm_cons (⟨by decide, by decide⟩) fm_nil) (by simp [joinN] <;> omega) (.inr (.inr ⟨[42], by simp, lab_not (s := 42) (by decide) (by simp)⟩)) (fun _ => (by simp [joinN])) (by decide)
  · exact bad_row (k := .wi) (P := [[]]) (by simp [rowT, joinN]) (by simp) (fm_cons (⟨by decide, by decide⟩) fm_nil) (by simp [joinN] <;> omega) (.inr (.inr ⟨[], by simp, rfl⟩)) (fun h => by cases h) (by decide)
  · exact bad_row (k := .ex) (P := [[]]) (by simp [rowT, joinN]) (by simp) (fm_cons (⟨by decide, by decide⟩) fm_nil) (by simp [joinN] <;> omega) (.inr (.inr ⟨[], by simp, rfl⟩)) (fun h => by cases h) (by decide)
  · exact bad_row (k := .ex) (P := [z]) (by simp [rowT, joinN]) (by simp) (fm_cons (⟨f46, cz⟩) fm_nil) (by simp [joinN] <;> omega) (.inl (by simp [loK])) (fun h => by cases h) (List.forall_mem_append.mpr ⟨(by decide), cz⟩)
  · exact bad_row (k := .pl) (P := [z, []]) (by simp [rowT, joinN]) (by simp) (fm_cons (⟨f46, cz⟩) (fm_cons (⟨by decide, by decide⟩) fm_nil)) (by simp [joinN] <;> omega) (.inr (.inr ⟨[], by simp, rfl⟩)) (fun _ => (by have := tz; simp only [joinN]; exact this _)) (List.forall_mem_append.mpr ⟨cz, (by decide)⟩)
  · exact bad_row (k := .pl) (P := [[], z]) (by simp [rowT, joinN]) (by simp) (fm_cons (⟨by decide, by decide⟩) (fm_cons (⟨f46, cz⟩) fm_nil)) (by simp [joinN] <;> omega) (.inr (.inr ⟨[], by simp, rfl⟩)) (fun _ => (by simp [joinN])) (List.forall_mem_append.mpr ⟨(by decide), cz⟩)
  · exact bad_row (k := .pl) (P := [z, [], z]) (by simp [rowT, joinN]) (by simp) (fm_cons (⟨f46, cz⟩) (fm_cons (⟨by decide, by decide⟩) (fm_cons (⟨f46, cz⟩) fm_nil))) (by simp [joinN] <;> omega) (.inr (.inr ⟨[], by simp, rfl⟩)) (fun _ => (by have := tz; simp only [joinN]; exact this _)) (List.forall_mem_append.mpr ⟨(List.forall_mem_append.mpr ⟨cz, (by decide)⟩), cz⟩)
  · exact bad_row (k := .wi) (P := [z, [97], [98]]) (by simp [rowT, joinN]) (by simp) (fm_cons (⟨f46, cz⟩) (fm_cons (⟨by decide, by decide⟩) (fm_cons (⟨by decide, by decide⟩) fm_nil))) (by simp [joinN] <;> omega) (.inr (.inl (by simp [hiK]))) (fun h => by cases h) (List.forall_mem_append.mpr ⟨(List.forall_mem_append.mpr ⟨(by decide), cz⟩), (by decide)⟩)
  · exact bad_row (k := .pl) (P := [[97], [98], [99], z]) (by simp [rowT, joinN]) (by simp) (fm_cons (⟨by decide, by decide⟩) (fm_cons (⟨by decide, by decide⟩) (fm_cons (⟨by decide, by decide⟩) (fm_cons (⟨f46, cz⟩) fm_nil)))) (by simp [joinN] <;> omega) (.inr (.inl (by simp [hiK]))) (fun _ => (by simp [joinN])) (List.forall_mem_append.mpr ⟨(by decide), cz⟩)
  · exact bad_row (k := .pl) (P := [z ++ [42]]) (by simp [rowT, joinN]) (by simp) (fm_cons (⟨by rw [List.mem_append, not_or]; exact ⟨f46, by decide⟩, List.forall_mem_append.mpr ⟨cz, by decide⟩⟩) fm_nil) (by simp [joinN] <;> omega) (.inr (.inr ⟨(z ++ [42]), by simp, lab_not (s := 42) (by decide) (by simp)⟩)) (fun _ => (by simp only [joinN]; exact tz _)) (List.forall_mem_append.mpr ⟨cz, (by decide)⟩)
  · exact bad_row (k := .pl) (P := [[42] ++ z]) (by simp [rowT, joinN]) (by simp) (fm_cons (⟨by rw [List.mem_append, not_or]; exact ⟨by decide, f46⟩, List.forall_mem_append.mpr ⟨by decide, cz⟩⟩) fm_nil) (by simp [joinN] <;> omega) (.inr (.inr ⟨([42] ++ z), by simp, lab_not (s := 42) (by decide) (by simp)⟩)) (fun _ => (by simp [joinN, ez, c33, c42, c46, Ne.symm c33, Ne.symm c42, Ne.symm c46])) (List.forall_mem_append.mpr ⟨(by decide), cz⟩)
  · exact bad_row (k := .wi) (P := [[42], z]) (by simp [rowT, joinN]) (by simp) (fm_cons (⟨by decide, by decide⟩) (fm_cons (⟨f46, cz⟩) fm_nil)) (by simp [joinN] <;> omega) (.inr (.inr ⟨[42], by simp, lab_not (s := 42) (by decide) (by simp)⟩)) (fun h => by cases h) (List.forall_mem_append.mpr ⟨(by decide), cz⟩)
  · exact bad_row (k := .ex) (P := [[42], z]) (by simp [rowT, joinN]) (by simp) (fm_cons (⟨by decide, by decide⟩) (fm_cons (⟨f46, cz⟩) fm_nil)) (by simp [joinN] <;> omega) (.inr (.inr ⟨[42], by simp, lab_not (s := 42) (by decide) (by simp)⟩)) (fun h => by cases h) (List.forall_mem_append.mpr ⟨(by decide), cz⟩)
  · exact bad_row (k := .pl) (P := [z, [65]]) (by simp [rowT, joinN]) (by simp) (fm_cons (⟨f46, cz⟩) (fm_cons (⟨by decide, by decide⟩) fm_nil)) (by simp [joinN] <;> omega) (.inr (.inr ⟨[65], by simp, lab_not (s := 65) (by decide) (by simp)⟩)) (fun _ => (by have := tz; simp only [joinN]; exact this _)) (List.forall_mem_append.mpr ⟨cz, (by decide)⟩)
  · exact bad_row (k := .pl) (P := [z ++ [32]]) (by simp [rowT, joinN]) (by simp) (fm_cons (⟨by rw [List.mem_append, not_or]; exact ⟨f46, by decide⟩, List.forall_mem_append.mpr ⟨cz, by decide⟩⟩) fm_nil) (by simp [joinN] <;> omega) (.inr (.inr ⟨(z ++ [32]), by simp, lab_not (s := 32) (by decide) (by simp)⟩)) (fun _ => (by simp only [joinN]; exact tz _)) (List.forall_mem_append.mpr ⟨cz, (by decide)⟩)
  · exact bad_row (k := .pl) (P := [z ++ [10]]) (by simp [rowT, joinN]) (by simp) (fm_cons (⟨by rw [List.mem_append, not_or]; exact ⟨f46, by decide⟩, List.forall_mem_append.mpr ⟨cz, by decide⟩⟩) fm_nil) (by simp [joinN] <;> omega) (.inr (.inr ⟨(z ++ [10]), by simp, lab_not (s := 10) (by decide) (by simp)⟩)) (fun _ => (by simp only [joinN]; exact tz _)) (List.forall_mem_append.mpr ⟨cz, (by decide)⟩)
  · exact bad_row (k := .wi) (P := [[33] ++ z]) (by simp [rowT, joinN]) (by simp) (fm_cons (⟨by rw [List.mem_append, not_or]; exact ⟨by decide, f46⟩, List.forall_mem_append.mpr ⟨by decide, cz⟩⟩) fm_nil) (by simp [joinN] <;> omega) (.inr (.inr ⟨([33] ++ z), by simp, lab_not (s := 33) (by decide) (by simp)⟩)) (fun h => by cases h) (List.forall_mem_append.mpr ⟨(by decide), cz⟩)
  · exact bad_row (k := .ex) (P := [[97], [98], [99], z]) (by simp [rowT, joinN]) (by simp) (fm_cons (⟨by decide, by decide⟩) (fm_cons (⟨by decide, by decide⟩) (fm_cons (⟨by decide, by decide⟩) (fm_cons (⟨f46, cz⟩) fm_nil)))) (by simp [joinN] <;> omega) (.inr (.inl (by simp [hiK]))) (fun h => by cases h) (List.forall_mem_append.mpr ⟨(by decide), cz⟩)
  · exact bad_row (k := .pl) (P := [List.replicate 21 97]) (by simp [rowT, joinN]) (by simp) (fm_cons (⟨by decide, by decide⟩) fm_nil) (by simp [joinN] <;> omega) (.inr (.inr ⟨List.replicate 21 97, by simp, by decide⟩)) (fun _ => (by simp [joinN])) (by decide)
  · exact ⟨rfl, (fun h => by cases h), fun _ => parse_not rfl⟩
  · exact ⟨rfl, (fun h => by cases h), fun _ => parse_not rfl⟩
  · exact ⟨rfl, (fun h => by cases h), fun _ => parse_not rfl⟩
  · exact ⟨(by rw [nic_tup]; exact nicL_iff.mpr fun d m => by rw [List.mem_singleton.mp m]; exact nic_str cz), (fun h => by cases h), fun _ => parse_not rfl⟩
  · exact ⟨(by rw [nic_lst]; exact nicL_iff.mpr fun d m => by rw [List.mem_singleton.mp m]; exact nic_str cz), (fun h => by cases h), fun _ => parse_not rfl⟩
  · exact bad_row (k := .pl) (P := [[42, 42], z]) (by simp [rowT, joinN]) (by simp) (fm_cons (⟨by decide, by decide⟩) (fm_cons (⟨f46, cz⟩) fm_nil)) (by simp [joinN] <;> omega) (.inr (.inr ⟨[42, 42], by simp, lab_not (s := 42) (by decide) (by simp)⟩)) (fun _ => (by simp [joinN])) (List.forall_mem_append.mpr ⟨(by decide), cz⟩)
end FN
namespace FN
open DL PySem PySem.W
theorem tryM_ex {α β γ : Type} {L : List (Str × Str)} {e : Exn} {k : γ → M (Fl α β)} {hs : List (Str × (D → M (Fl α β)))} (h : (e.c, e.f) ∈ L) : tryFs L ((Mo.lift (R.ex e) : M γ) >>= k) hs = pickC hs e := by
  show Mo.tryC ((Mo.lift (R.ex e) : M γ) >>= k) (fun e => if (e.c, e.f) ∈ L then pickC hs e else Mo.lift .stuck) = _
  have : ∀ (g : Exn → M (Fl α β)), (Mo.tryC ((Mo.lift (R.ex e) : M γ) >>= k) g : M (Fl α β)) = g e := fun g => rfl
  rw [this]
  exact if_pos h
theorem tryM_ok {α β : Type} {L : List (Str × Str)} {a : Fl α β} {hs : List (Str × (D → M (Fl α β)))} : tryFs L (pure a : M (Fl α β)) hs = pure a := rfl
theorem ixm1 (l : List Int) (j : Int) : ixD (.lst ((l ++ [j]).map .int)) (.int (-1)) = some (.int j) := by
  show L2.atI ((l ++ [j]).map D.int) (-1) = _
  unfold L2.atI L2.ixN
  rw [List.map_append, List.length_append, List.length_map]
  rw [if_neg (by omega), if_pos (by simp; omega)]
  show ((l.map D.int ++ [D.int j])[_]?) = _
  rw [List.getElem?_append_right (by simp; omega)]
  simp only [List.length_map, List.length_cons, List.length_nil, Nat.zero_add, Int.natCast_add, Int.cast_ofNat_Int, List.map_cons, List.map_nil]
  rw [show (-1 + ((l.length : Int) + 1)).toNat - l.length = 0 by omega]
  rfl
theorem set_ok {ds : List D} {j : Int} {d : D} (h0 : 0 ≤ j) (h1 : j < ds.length) : setI ds (.int j) d = some (ds.set j.toNat d) := by
  unfold setI L2.ixN
  simp only
  rw [if_pos h0, if_pos h1]
  rfl
theorem odd_ok {zs : List (List Nat)} (hL : Lab8 zs) : Bk 2 (m__law_odd_69a0 [.lst (zs.map .str)]) fun d => RwT (d, false) := by
  refine bk_runM ?_
  simp only [e__law_odd_69a0]
  refine bk_then (of_labW hL) ?_
  rintro d ⟨z, rfl, hz⟩
  obtain ⟨z1, z2, _⟩ := isLab_iff.mp hz
  have a : ∀ w v : List Nat, w.length + v.length ≤ 100 → addD (.str w) (.str v) = some (.str (w ++ v)) := fun w v h => add_ss (by omega)
  have l1 : ∀ c : List Nat, c.length ≤ 10 → addD (.str c) (.str z) = some (.str (c ++ z)) := fun c h => a _ _ (by omega)
  have l2 : ∀ c : List Nat, c.length ≤ 10 → addD (.str z) (.str c) = some (.str (z ++ c)) := fun c h => a _ _ (by omega)
  have l3 : addD (.str (z ++ [46, 46])) (.str z) = some (.str (z ++ [46, 46] ++ z)) := a _ _ (by simp; omega)
  have l4 : addD (.str ([42, 46] ++ z)) (.str [46, 97, 46, 98]) = some (.str ([42, 46] ++ z ++ [46, 97, 46, 98])) := a _ _ (by simp; omega)
  have m : mulD (.str [97]) (.int 21) = some (.str (List.replicate 21 97)) := by
    have := mul_s (a := [97]) (k := 21) (by omega) (by simp)
    exact this
  have s1 : ∀ a : D, szL [a] = some [a] := fun a => sz_ok (by simp)
  have s7 : ∀ a b c d e f g : D, szL [a, b, c, d, e, f, g] = some [a, b, c, d, e, f, g] := fun a b c d e f g => sz_ok (by simp)
  have s9 : ∀ a b c d e f g h i : D, szL [a, b, c, d, e, f, g, h, i] = some [a, b, c, d, e, f, g, h, i] := fun a b c d e f g h i => sz_ok (by simp)
  have s10 : ∀ a b c d e f g h i j : D, szL [a, b, c, d, e, f, g, h, i, j] = some [a, b, c, d, e, f, g, h, i, j] := fun a b c d e f g h i j => sz_ok (by simp)
  have ll : ∀ x y : List D, x.length + y.length ≤ 1000 → addD (.lst x) (.lst y) = some (.lst (x ++ y)) := fun x y h => add_ll (by omega)
  simp only [l1 [33] (by simp), l1 [46] (by simp), l1 [42, 46] (by simp), l1 [97, 46, 98, 46, 99, 46] (by simp), l1 [42] (by simp), l1 [42, 46, 42, 46] (by simp), l1 [33, 42, 46] (by simp), l1 [42, 46, 33] (by simp), l1 [33, 97, 46, 98, 46, 99, 46] (by simp), l1 [42, 42, 46] (by simp),
    l2 [46] (by simp), l2 [46, 46] (by simp), l2 [42] (by simp), l2 [46, 65] (by simp), l2 [32] (by simp), l2 [10] (by simp), l3, l4, m, s1, s7, s9, s10, askM, pure_bind]
  rw [ll _ _ (by simp)]
  simp only [askM, pure_bind]
  rw [ll _ _ (by simp)]
  simp only [askM, pure_bind]
  refine bk_then (K1 := 1) (of_okW (ds := odds z) (by simp [odds]) (by simp [odds])) fun d hd => bk_pure (odds_bad hz d hd)
def kRow : List Nat := [114, 111, 119]
def kTwice : List Nat := [116, 119, 105, 99, 101]
def kMany : List Nat := [109, 97, 110, 121]
def eRet (T : List (List Nat)) : D → Option D
  | .int i => if T.getD i.toNat [] ∈ T.take i.toNat then some (.tup [.str kTwice, .str (T.getD i.toNat [])]) else none
  | _ => none
theorem due65b {rows : List Row} (hr : ∀ r ∈ rows, RowOk r) (hl : rows.length ≤ 1000) : m__law_due_22c8 [.lst (rowsD rows), .lst []] = .ok (match dupF (rows.map rowT) with
    | some z => .tup [.str kTwice, .str z]
    | none => if 8 < rows.length then .tup [.str kMany, .int 8] else .non) := by
  have s0 : szL [] = some [] := sz_ok (by simp)
  have s2 : ∀ a b : D, szL [a, b] = some [a, b] := fun a b => sz_ok (by simp)
  have n0 : (neD (.lst []) (.lst [])).bind bOf = some false := rfl
  have ll : lenD [.lst (rowsD rows)] = some (.int (rows.length : Int)) := by
    show some (D.int ((rowsD rows).length : Int)) = _
    rw [rowsD, List.length_map]
  have eT : rowsD rows = (rows.map rowT).map D.str := by simp [rowsD]
  have hT : ∀ w ∈ rows.map rowT, Tx 1000 w := fun w m => by
    obtain ⟨r, hr', rfl⟩ := List.mem_map.mp m
    exact row_tx (hr r hr')
  have g8 : (gtD (.int (rows.length : Int)) (.int 8)).bind bOf = some (decide (8 < rows.length)) := by
    rw [gt_l]
    show some (decide _) = _
    congr 1
    exact decide_eq_decide.mpr (by omega)
  unfold m__law_due_22c8 apR2
  simp only [e__law_due_22c8, s0, n0, ll, g8, s2, askR, pure_bind, Bool.false_eq_true, if_false, sqp]
  rw [rng1_ok (by omega) (by omega)]
  simp only [askR, pure_bind]
  rw [for_ret (eRet (rows.map rowT)) _ (fun d m => ?_)]
  · have eq : (rangeL 0 ((rows.length : Int)).toNat).findSome? (eRet (rows.map rowT)) = (dupF (rows.map rowT)).map fun z => .tup [.str kTwice, .str z] := by
      unfold dupF rangeL
      rw [findSome_map, List.map_findSome?, Int.toNat_natCast, List.length_map]
      have : ∀ l : List Nat, (∀ i ∈ l, i < (rows.map rowT).length) → l.findSome? (fun (i : Nat) => eRet (rows.map rowT) (.int ((0 : Int) + (i : Int)))) = l.findSome? (fun i => (match (rows.map rowT)[i]? with | some z => if z ∈ (rows.map rowT).take i then some z else none | none => none).map fun z => (.tup [.str kTwice, .str z] : D)) := fun l hl => by
        induction l with
        | nil => rfl
        | cons i l ih =>
          rw [List.findSome?_cons, List.findSome?_cons, ih fun x m => hl x (.tail _ m)]
          have hi := hl i (.head _)
          have e1 : (rows.map rowT)[i]? = some ((rows.map rowT).getD i []) := by
            rw [List.getD_eq_getElem?_getD, List.getElem?_eq_getElem hi]; rfl
          have e2 : eRet (rows.map rowT) (.int ((0 : Int) + (i : Int))) = if (rows.map rowT).getD i [] ∈ (rows.map rowT).take i then some (.tup [.str kTwice, .str ((rows.map rowT).getD i [])]) else none := by
            rw [Int.zero_add]
            show (if (rows.map rowT).getD ((i : Int).toNat) [] ∈ (rows.map rowT).take ((i : Int).toNat) then some (D.tup [.str kTwice, .str ((rows.map rowT).getD ((i : Int).toNat) [])]) else none) = _
            rw [Int.toNat_natCast]
          rw [e1, e2]
          by_cases c : (rows.map rowT).getD i [] ∈ (rows.map rowT).take i
          · simp only [if_pos c, Option.map_some]
          · simp only [if_neg c, Option.map_none]
      exact this _ fun i m => by rw [List.length_map]; exact List.mem_range.mp m
    rw [eq]
    cases dupF (rows.map rowT) with
    | some z => rfl
    | none =>
      simp only [Option.map_none]
      rw [seqR_nx]
      by_cases c : 8 < rows.length
      · simp only [decide_eq_true c, if_pos c, iteM, askR, pure_bind, if_true]; rfl
      · simp only [decide_eq_false c, if_neg c, iteM, askR, pure_bind, Bool.false_eq_true, if_false]; rfl
  · obtain ⟨k, hk, rfl⟩ := range_mem m
    have hk : k < rows.length := by omega
    have hk' : k < (rows.map rowT).length := by rw [List.length_map]; exact hk
    refine ⟨_, rfl, ?_⟩
    have ix : ixD (.lst (rowsD rows)) (.int ((0 : Int) + (k : Int))) = some (.str ((rows.map rowT).getD k [])) := by
      rw [ix_lst (by omega) (by rw [rowsD, List.length_map]; omega)]
      congr 1
      rw [List.getD_eq_getElem?_getD, List.getElem?_eq_getElem hk']
      simp [rowsD]
    have sl : sliceD (.lst (rowsD rows)) none (some ((0 : Int) + (k : Int))) = some (.lst (((rows.map rowT).take k).map D.str)) := by
      rw [Int.zero_add, slice_l, cut_toD, eT, List.map_take]
    have hg : (rows.map rowT).getD k [] ∈ rows.map rowT := by
      rw [List.getD_eq_getElem?_getD, List.getElem?_eq_getElem hk']
      exact List.getElem_mem hk'
    have hi : (inD (.str ((rows.map rowT).getD k [])) (.lst (((rows.map rowT).take k).map D.str))).bind bOf = some (decide ((rows.map rowT).getD k [] ∈ (rows.map rowT).take k)) := by
      rw [in_strs (hT _ hg) (fun w m => hT w (List.mem_of_mem_take m))]
      rfl
    have e2 : eRet (rows.map rowT) (.int ((0 : Int) + (k : Int))) = if (rows.map rowT).getD k [] ∈ (rows.map rowT).take k then some (.tup [.str kTwice, .str ((rows.map rowT).getD k [])]) else none := by
      rw [Int.zero_add]
      show (if (rows.map rowT).getD ((k : Int).toNat) [] ∈ (rows.map rowT).take ((k : Int).toNat) then some (D.tup [.str kTwice, .str ((rows.map rowT).getD ((k : Int).toNat) [])]) else none) = _
      rw [Int.toNat_natCast]
    rw [e2]
    simp only [ix, int_of, sl, hi, askR, pure_bind]
    by_cases c : (rows.map rowT).getD k [] ∈ (rows.map rowT).take k
    · simp only [decide_eq_true c, if_pos c, if_true, pure_bind, s2, askR]; rfl
    · simp only [decide_eq_false c, if_neg c, Bool.false_eq_true, if_false]; rfl
theorem due65a {xs : List D} {i : Int} {is : List Int} {d : D} (h0 : ∀ y ∈ i :: is, 0 ≤ y ∧ y < xs.length) (hd : xs[(is.foldl min i).toNat]? = some d) : m__law_due_22c8 [.lst xs, .lst ((i :: is).map .int)] = .ok (.tup [.str kRow, d]) := by
  have s0 : szL [] = some [] := sz_ok (by simp)
  have s2 : ∀ a b : D, szL [a, b] = some [a, b] := fun a b => sz_ok (by simp)
  have n0 : (neD (.lst ((i :: is).map .int)) (.lst [])).bind bOf = some true := by rw [ne_ints]; rfl
  have mn : minL [.lst ((i :: is).map .int)] = some (.int (is.foldl min i)) := by
    show (match intsL ((i :: is).map .int) with | some (i :: is) => some (D.int (is.foldl min i)) | _ => none) = _
    rw [intsL_ok]
  obtain ⟨m1, m2, m3⟩ := foldl_min_le is i
  have hm : 0 ≤ is.foldl min i ∧ is.foldl min i < xs.length := by
    rcases m3 with h | h
    · rw [h]; exact h0 i (.head _)
    · exact h0 _ (.tail _ h)
  have ix : ixD (.lst xs) (.int (is.foldl min i)) = some d := by
    rw [ix_lst hm.1 hm.2]
    rw [List.getElem?_eq_getElem (by omega)] at hd
    exact hd
  unfold m__law_due_22c8 apR2
  simp only [e__law_due_22c8, s0, n0, mn, ix, s2, askR, pure_bind, if_true]
  rfl
theorem fstB_at : ∀ {L : List (D × Bool)} {i : Nat} {p : D × Bool}, L[i]? = some p → p.2 = false → (∀ j < i, ∀ q, L[j]? = some q → q.2 = true) → fstB L = some p.1
  | [], _, _, h, _, _ => by simp at h
  | q :: L, 0, p, h, hp, _ => by
    have h : q = p := by simpa using h
    subst h
    unfold fstB
    rw [List.findSome?_cons, hp]
    rfl
  | q :: L, i + 1, p, h, hp, hj => by
    have hq : q.2 = true := hj 0 (by omega) q rfl
    have ih := fstB_at (L := L) (i := i) (p := p) (by simpa using h) hp fun j hji q hq => hj (j + 1) (by omega) q (by simpa using hq)
    unfold fstB
    rw [List.findSome?_cons, hq]
    exact ih
end FN
namespace FN
open DL PySem PySem.W
/-- a walk over a range, items of pure questions -/
theorem lcM_rng {xt : D → M Bool} {xe : D → M D} (p : Nat → Bool) (f : Nat → D) : ∀ (L : List Nat), (∀ i ∈ L, xt (.int ((0 : Int) + (i : Int))) = pure (p i)) → (∀ i ∈ L, xe (.int ((0 : Int) + (i : Int))) = pure (f i)) →
    lcF (fun d => some d) xt xe (L.map fun (i : Nat) => D.int ((0 : Int) + (i : Int))) = (pure ((L.filter p).map f) : M (List D))
  | [], _, _ => rfl
  | i :: L, h1, h2 => by
    have ih := lcM_rng p f L (fun x m => h1 x (.tail _ m)) fun x m => h2 x (.tail _ m)
    rw [List.map_cons, lcF, ih]
    simp only [askM, pure_bind, h1 i (.head _), noexM]
    cases q : p i with
    | false => simp only [Bool.false_eq_true, if_false, List.filter_cons, q]
    | true => simp only [if_true, h2 i (.head _), noexM, pure_bind, List.filter_cons, q, List.map_cons]
/-- the rows with none that stands a second time -/
def uniqR (rows : List Row) : List Row := ((List.range rows.length).filter fun i => decide ((rows.map rowT).getD i [] ∉ (rows.map rowT).take i)).map fun i => rows.getD i (.pl, [])
theorem getD_mem {α : Type} {l : List α} {i : Nat} {d : α} (h : i < l.length) : l.getD i d ∈ l := by
  rw [List.getD_eq_getElem?_getD, List.getElem?_eq_getElem h]
  exact List.getElem_mem h
theorem getD_map {α β : Type} (f : α → β) {l : List α} {i : Nat} (h : i < l.length) (d : α) (e : β) : (l.map f).getD i e = f (l.getD i d) := by
  rw [List.getD_eq_getElem?_getD, List.getD_eq_getElem?_getD, List.getElem?_map, List.getElem?_eq_getElem h]
  rfl
theorem uniq_facts {rows : List Row} (hr : ∀ r ∈ rows, RowOk r) (h1 : 1 ≤ rows.length) : (∀ r ∈ uniqR rows, RowOk r) ∧ 1 ≤ (uniqR rows).length ∧ (uniqR rows).length ≤ rows.length := by
  refine ⟨fun r m => ?_, ?_, ?_⟩
  · obtain ⟨i, hi, rfl⟩ := List.mem_map.mp m
    exact hr _ (getD_mem (List.mem_range.mp (List.mem_filter.mp hi).1))
  · unfold uniqR
    rw [List.length_map]
    exact List.length_pos_of_mem (a := 0) (List.mem_filter.mpr ⟨List.mem_range.mpr h1, by simp⟩)
  · unfold uniqR
    rw [List.length_map]
    exact Nat.le_trans (List.length_filter_le _ _) (by rw [List.length_range]; exact Nat.le_refl _)
theorem lc_uniq {rows : List Row} (hr : ∀ r ∈ rows, RowOk r) : (lcF (fun d => some d) (fun (c39 : D) => (Mo.noex (do let x48 ← (DL.ask (ixD (.lst (rowsD rows)) c39)); let i44 ← DL.ask (intOf c39); let y49 ← (DL.ask (sliceD (.lst (rowsD rows)) none (some i44))); DL.ask ((notInD x48 y49).bind bOf)))) (fun (c39 : D) => (DL.ask (ixD (.lst (rowsD rows)) c39))) (rangeL 0 rows.length) : M (List D)) = pure (rowsD (uniqR rows)) := by
  have hT : ∀ w ∈ rows.map rowT, Tx 1000 w := fun w m => by
    obtain ⟨r, hr', rfl⟩ := List.mem_map.mp m
    exact row_tx (hr r hr')
  have eT : rowsD rows = (rows.map rowT).map D.str := by simp [rowsD]
  have ix : ∀ k : Nat, k < rows.length → ixD (.lst (rowsD rows)) (.int ((0 : Int) + (k : Int))) = some (.str ((rows.map rowT).getD k [])) := fun k hk => by
    have hk' : k < (rows.map rowT).length := by rw [List.length_map]; exact hk
    rw [ix_lst (by omega) (by rw [rowsD, List.length_map]; omega)]
    congr 1
    rw [List.getD_eq_getElem?_getD, List.getElem?_eq_getElem hk']
    simp [rowsD]
  have := lcM_rng (xt := fun (c39 : D) => (Mo.noex (do let x48 ← (DL.ask (ixD (.lst (rowsD rows)) c39)); let i44 ← DL.ask (intOf c39); let y49 ← (DL.ask (sliceD (.lst (rowsD rows)) none (some i44))); DL.ask ((notInD x48 y49).bind bOf)) : M Bool)) (xe := fun (c39 : D) => (DL.ask (ixD (.lst (rowsD rows)) c39)))
    (fun i => decide ((rows.map rowT).getD i [] ∉ (rows.map rowT).take i)) (fun i => .str ((rows.map rowT).getD i [])) (List.range rows.length) (fun k m => ?_) (fun k m => by rw [ix k (List.mem_range.mp m)]; rfl)
  · refine this.trans ?_
    congr 1
    unfold uniqR rowsD
    rw [List.map_map]
    refine List.map_congr_left fun i m => ?_
    show D.str _ = D.str (rowT _)
    rw [getD_map rowT (List.mem_range.mp (List.mem_filter.mp m).1) (.pl, []) []]
  · have hk := List.mem_range.mp m
    have hk' : k < (rows.map rowT).length := by rw [List.length_map]; exact hk
    have sl : sliceD (.lst (rowsD rows)) none (some ((0 : Int) + (k : Int))) = some (.lst (((rows.map rowT).take k).map D.str)) := by
      rw [Int.zero_add, slice_l, cut_toD, eT, List.map_take]
    have hi : (notInD (.str ((rows.map rowT).getD k [])) (.lst (((rows.map rowT).take k).map D.str))).bind bOf = some (decide ((rows.map rowT).getD k [] ∉ (rows.map rowT).take k)) := by
      rw [notin_L (hT _ (getD_mem hk')) (fun w m => hT w (List.mem_of_mem_take m))]
      simp
    simp only [ix k hk, int_of, sl, hi, askM, pure_bind, noexM]
/-- the rows and the places of the odd ones -/
def InvO (rows : List Row) (N k : Nat) (a : List D × List D) : Prop := ∃ (L : List (D × Bool)) (os : List Int), a = (L.map Prod.fst, os.map .int) ∧ L.length = N ∧ os.length ≤ k ∧ (∀ p ∈ L, RwT p) ∧ (∀ o ∈ os, 0 ≤ o ∧ o < (N : Int)) ∧
  (∀ (i : Nat) (p : D × Bool), L[i]? = some p → (p.2 = false ↔ (i : Int) ∈ os)) ∧ (os = [] → L.map Prod.fst = rowsD rows)
theorem inv_start {rows : List Row} (hr : ∀ r ∈ rows, RowOk r) : InvO rows rows.length 0 (rowsD rows, []) := by
  refine ⟨rows.map fun r => (.str (rowT r), true), [], ?_, by simp, by simp, fun p m => ?_, (fun _ m => by cases m), fun i p h => ?_, fun _ => ?_⟩
  · rw [List.map_map]; rfl
  · obtain ⟨r, hm, rfl⟩ := List.mem_map.mp m
    exact ⟨nic_str (row_tx (hr r hm)).2, (fun _ => ⟨r, rfl, hr r hm⟩), (fun h => by cases h)⟩
  · rw [List.getElem?_map] at h
    cases q : rows[i]? with
    | none => rw [q] at h; cases h
    | some r =>
      rw [q] at h
      cases h
      simp
  · rw [List.map_map]; rfl
theorem inv_step {rows : List Row} {N k : Nat} {L : List (D × Bool)} {os : List Int} {j : Int} {d : D} (hL : L.length = N) (ho : os.length ≤ k) (h1 : ∀ p ∈ L, RwT p) (h2 : ∀ o ∈ os, 0 ≤ o ∧ o < (N : Int)) (h3 : ∀ (i : Nat) (p : D × Bool), L[i]? = some p → (p.2 = false ↔ (i : Int) ∈ os))
    (j0 : 0 ≤ j) (j1 : j < (N : Int)) (hd : RwT (d, false)) : InvO rows N (k + 1) ((L.map Prod.fst).set j.toNat d, (os ++ [j]).map .int) := by
  refine ⟨L.set j.toNat (d, false), os ++ [j], by rw [List.map_set], by rw [List.length_set]; exact hL, by rw [List.length_append, List.length_singleton]; omega, fun p m => ?_, fun o m => ?_, fun i p h => ?_, fun h => by simp at h⟩
  · rcases List.mem_or_eq_of_mem_set m with m | rfl
    · exact h1 p m
    · exact hd
  · rcases List.mem_append.mp m with m | m
    · exact h2 o m
    · rw [List.mem_singleton.mp m]; exact ⟨j0, j1⟩
  · by_cases c : j.toNat = i
    · subst c
      rw [List.getElem?_set_self (by omega)] at h
      cases h
      have : ((j.toNat : Nat) : Int) = j := by omega
      rw [this]
      simp
    · rw [List.getElem?_set_ne c] at h
      have := h3 i p h
      rw [this, List.mem_append, List.mem_singleton]
      constructor
      · exact .inl
      · rintro (h | h)
        · exact h
        · omega
end FN
namespace FN
open DL PySem PySem.W
theorem isi_bool {n : Nat} {d : D} (h : nic n d = true) : ∃ b, isiD "bool" d = some (.bl b) := by
  cases d with
  | non => exact ⟨_, rfl⟩
  | bl b => exact ⟨_, rfl⟩
  | int i => exact ⟨_, rfl⟩
  | str z => exact ⟨_, rfl⟩
  | tup ds => exact ⟨_, rfl⟩
  | lst ds => exact ⟨_, rfl⟩
  | _ => simp [nic] at h
theorem same65 {d : D} (h : nic 3 d = true) : m__law_same_9288 [d, d] = .ok (.bl true) := by
  obtain ⟨b, e⟩ := isi_bool h
  have e1 : eqD d d = some (.bl true) := by rw [eq_nic h h (by omega) (by omega), deq_refl 3 _ h]
  have e2 : eqD (.bl b) (.bl b) = some (.bl true) := by cases b <;> rfl
  unfold m__law_same_9288 apR2
  simp only [e__law_same_9288, andV, e, e1, e2, askR, pure_bind, tru_bl, if_true]
  rfl
theorem all2_r {ds rs : List D} (h : All2 (fun _ r => ∃ q : Row, r = .str (rowT q) ∧ RowOk q) ds rs) : ∃ rows : List Row, rs = rowsD rows ∧ rows.length = ds.length ∧ ∀ r ∈ rows, RowOk r := by
  induction h with
  | nil => exact ⟨[], rfl, rfl, fun _ m => by cases m⟩
  | cons h t ih =>
    obtain ⟨q, rfl, hq⟩ := h
    obtain ⟨rows, rfl, l, hr⟩ := ih
    exact ⟨q :: rows, rfl, by simp [l], fun x m => by
      rcases List.mem_cons.mp m with rfl | m
      · exact hq
      · exact hr x m⟩
theorem law_ok65 {ns : List Int} (hn : ns.length ≤ 63) : OkR (m_law_7f41 [.scr ns]) fun d => d = .bl true := by
  unfold m_law_7f41 apR1
  refine okr_runR ?_
  have sc : scrOf (.scr ns) = some ns := rfl
  simp only [e_law_7f41, sc, askR, pure_bind]
  obtain ⟨d, e, l, y, rfl, hl, y0, y1⟩ := bag_okW ns hn
  rw [e]
  simp only [noex_R, R.bind_eq, R.bd]
  refine okr_bagW (K := 10000) hl y0 y1 ?_
  refine bk_then pool_okX ?_
  rintro d ⟨zs, rfl, hL⟩
  refine bk_then (take_okW (n := 9) (by omega) (by omega)) ?_
  rintro d ⟨i, rfl, i0, i1⟩
  simp only [add_ii, askM, pure_bind]
  rw [rng1_ok (j := 1 + i) (by omega) (by omega)]
  simp only [askM, pure_bind]
  refine bk_then (K1 := 45) (bk_lc (P := fun _ r => ∃ q : Row, r = .str (rowT q) ∧ RowOk q) 5 _ (fun d _ => ⟨d, rfl, row_okX hL⟩) (n := 9) (by rw [range_len]; omega) (by omega)) ?_
  intro rs hrs
  obtain ⟨rows0, rfl, rl0, hr0⟩ := all2_r hrs
  rw [range_len] at rl0
  refine bk_then (take_okW (n := 2) (by omega) (by omega)) ?_
  rintro d ⟨i2, rfl, _, _⟩
  simp only [eqi, askM, pure_bind]
  refine bk_seqP (K1 := 0) (fun q => ∃ rows : List Row, q = rowsD rows ∧ (∀ r ∈ rows, RowOk r) ∧ 1 ≤ rows.length ∧ rows.length ≤ 9) ?_ ?_
  · have ll : lenD [.lst (rowsD rows0)] = some (.int (rows0.length : Int)) := by
      show some (D.int ((rowsD rows0).length : Int)) = _
      rw [rowsD, List.length_map]
    have fl : flatD (.int (rows0.length : Int)) = some (.int (rows0.length : Int)) := rfl
    refine bk_ite (fun c => ?_) fun c => bk_pure ⟨rows0, rfl, hr0, by omega, by omega⟩
    simp only [ll, fl, askM, noexM, pure_bind]
    rw [rng1_ok (by omega) (by omega)]
    simp only [askM, pure_bind, Int.toNat_natCast]
    have lu := lc_uniq hr0
    rw [lu]
    obtain ⟨a, b, c⟩ := uniq_facts hr0 (by omega)
    exact bk_pure ⟨uniqR rows0, rfl, a, b, by omega⟩
  rintro q ⟨rows, rfl, hr, r1, r9⟩
  have s0 : szL [] = some [] := sz_ok (by simp)
  simp only [s0, askM, pure_bind]
  refine bk_then (take_okW (n := 3) (by omega) (by omega)) ?_
  rintro d ⟨i3, rfl, i30, i31⟩
  rw [rng1_ok (by omega) (by omega)]
  simp only [askM, pure_bind]
  refine bk_seqP (K1 := 6) (fun q => ∃ k, InvO rows rows.length k q) (bk_for (n := 2) 3 (InvO rows rows.length) _ _ (inv_start hr) (fun k d a hd ha => ⟨d, rfl, ?_⟩) (fun a ha => ⟨_, ha⟩) (by rw [range_len]; omega)) ?_
  · obtain ⟨L, os, rfl, hLl, hol, h1, h2, h3, h4⟩ := ha
    have hk := (range_get hd).1
    have ll : lenD [.lst (L.map Prod.fst)] = some (.int (rows.length : Int)) := by
      show some (D.int ((L.map Prod.fst).length : Int)) = _
      rw [List.length_map, hLl]
    have fl : flatD (.int (rows.length : Int)) = some (.int (rows.length : Int)) := rfl
    have ng : negD (.int 1) = some (.int (-1)) := rfl
    simp only [ll, fl, ng, askM, noexM, pure_bind]
    refine bk_then (take_okW (n := (rows.length : Int)) (by omega) (by omega)) ?_
    rintro d ⟨j, rfl, j0, j1⟩
    have ap : apd (os.map .int) (.int j) = some ((os ++ [j]).map .int) := by rw [apd_ok (by rw [List.length_map]; omega), List.map_append]; rfl
    simp only [ap, askM, pure_bind]
    refine bk_then (odd_ok hL) ?_
    intro o ho
    simp only [ixm1, set_ok (ds := L.map Prod.fst) (d := o) j0 (by rw [List.length_map]; omega), askM, pure_bind]
    exact bk_pure (inv_step hLl hol h1 h2 h3 j0 j1 ho)
  rintro q ⟨k, L, os, rfl, hLl, hol, h1, h2, h3, h4⟩
  have s2 : ∀ a b : D, szL [a, b] = some [a, b] := fun a b => sz_ok (by simp)
  have nx : nic 5 (.lst (L.map Prod.fst)) = true := by
    rw [nic_lst]
    refine nicL_iff.mpr fun d m => ?_
    obtain ⟨p, hp, rfl⟩ := List.mem_map.mp m
    exact nic_mono 3 4 _ (by omega) (h1 p hp).1
  have ca := called65 (xs := L.map Prod.fst) (by rw [List.length_map]; omega) (by rw [List.length_map]; omega) nx
  have c2 : eqD (.lst [.bl true, .bl true]) (.lst [.bl true, .bl true]) = some (.bl true) := rfl
  have ht : ∀ a : List D, isiD "tuple" (.tup a) = some (.bl true) := fun _ => rfl
  have i0 : ∀ a b : D, ixD (.tup [a, b]) (.int 0) = some a := fun _ _ => rfl
  have i1 : ∀ a b : D, ixD (.tup [a, b]) (.int 1) = some b := fun _ _ => rfl
  have isN : ∀ a : List D, (isD (.tup a) .non).bind bOf = some false := fun _ => rfl
  have nk : ∀ z : List Nat, (∀ c ∈ z, c < 1000) → (neD (.str z) (.str z)).bind bOf = some false := fun z hz => by
    have n0 : nic 2 (.str z) = true := nic_str fun c m => by have := hz c m; omega
    rw [ne_nic n0 n0 (by omega) (by omega), deq_refl 2 _ n0]; rfl
  have nv : (notV (pure (.bl false)) : M D) = pure (.bl true) := rfl
  have sqM : ∀ {α β γ : Type} {a : α} {k : α → M (Fl γ β)}, seqF (pure (Fl.nx a) : M (Fl α β)) k = k a := rfl
  have nT : ((⟨"Twice", "name", .non⟩ : Exn).c = "BadRow") = False := eq_false (by decide +kernel)
  have nM : ((⟨"TooMany", "limit", .non⟩ : Exn).c = "BadRow") = False := eq_false (by decide +kernel)
  have nM2 : ((⟨"TooMany", "limit", .non⟩ : Exn).c = "Twice") = False := eq_false (by decide +kernel)
  have k1 := nk [114, 111, 119] (by decide)
  have k2 := nk [116, 119, 105, 99, 101] (by decide)
  have k3 := nk [109, 97, 110, 121] (by decide)
  cases os with
  | nil =>
    have eL := h4 rfl
    rw [eL] at ca ⊢
    have du := due65b hr (by omega)
    have ig := init_good hr (by omega)
    simp only [List.map_nil, du, lift_M, ca, pure_bind]
    cases hdp : dupF (rows.map rowT) with
    | some z =>
      rw [hdp] at ig
      simp only [] at ig
      have hz : nic 3 (.str z) = true := by
        unfold dupF at hdp
        obtain ⟨i, _, hi⟩ := List.exists_of_findSome?_eq_some hdp
        cases q : (rows.map rowT)[i]? with
        | none => rw [q] at hi; cases hi
        | some w =>
          rw [q] at hi
          simp only [] at hi
          split at hi
          · cases hi
            obtain ⟨r, hm, rfl⟩ := List.mem_map.mp (List.mem_of_getElem? q)
            exact nic_str (row_tx (hr r hm)).2
          · cases hi
      have sm := same65 hz
      simp only [ig, exbind]
      rw [tryM_ex (e := ⟨"Twice", "name", .str z⟩) (List.mem_cons_of_mem _ (List.mem_cons_of_mem _ List.mem_cons_self))]
      simp only [pickC]
      rw [if_neg (by decide +kernel)]
      simp only [if_true]
      simp only [s2, nv, askM, lift_M, noexM, pure_bind, sqM, isN, Bool.false_eq_true, if_false, ht, tru_bl, DL.notM, DL.orM, Bool.not_true, i0, i1, kTwice, k2, sm, c2]
      exact bk_pure rfl
    | none =>
      rw [hdp] at ig
      simp only [] at ig
      by_cases c8 : 8 < rows.length
      · rw [if_pos c8] at ig
        have sm := same65 (d := .int 8) rfl
        simp only [ig, exbind, if_pos c8]
        rw [tryM_ex (by decide +kernel)]
        simp only [pickC]
        rw [if_neg (by decide +kernel), if_neg (by decide +kernel)]
        simp only [if_true]
        simp only [s2, nv, askM, lift_M, noexM, pure_bind, sqM, isN, Bool.false_eq_true, if_false, ht, tru_bl, DL.notM, DL.orM, Bool.not_true, i0, i1, kMany, k3, sm, c2]
        exact bk_pure rfl
      · rw [if_neg c8] at ig
        have isn0 : (isD .non .non).bind bOf = some true := rfl
        have isT : isiT [("Table", true)] noneOfB (.ins "Table" ["rows", "parsed"] [.tup (rowsD rows), .tup (rows.map rowD)]) = some (.bl true) := rfl
        have fd : fldD ["Table"] "rows" (.ins "Table" ["rows", "parsed"] [.tup (rowsD rows), .tup (rows.map rowD)]) = some (.tup (rowsD rows)) := rfl
        have tt : tupleD [.lst (rowsD rows)] = some (.tup (rowsD rows)) := rfl
        have nt : nic 2 (.tup (rowsD rows)) = true := by
          rw [nic_tup]
          refine nicL_iff.mpr fun d m => ?_
          obtain ⟨r, hm, rfl⟩ := List.mem_map.mp m
          exact nic_str (row_tx (hr r hm)).2
        have et : eqD (.tup (rowsD rows)) (.tup (rowsD rows)) = some (.bl true) := by rw [eq_nic nt nt (by omega) (by omega), deq_refl 2 _ nt]
        simp only [ig, okpR, pure_bind, if_neg c8]
        have lm : ∀ {α : Type} (a : α), (Mo.lift (pure a : R α) : M α) = pure a := fun _ => rfl
        simp only [lm, pure_bind, tryM_ok, sqM, isn0, askM, if_true, andV, isT, tru_bl, fd, tt, et]
        exact bk_pure rfl
  | cons o os =>
    obtain ⟨m1, m2, m3⟩ := foldl_min_le os o
    have hm : os.foldl min o ∈ o :: os := by
      rcases m3 with h | h
      · rw [h]; exact .head _
      · exact .tail _ h
    obtain ⟨a0, a1⟩ := h2 _ hm
    obtain ⟨p, hp⟩ : ∃ p, L[(os.foldl min o).toNat]? = some p := ⟨_, List.getElem?_eq_getElem (by omega)⟩
    have hpb : p.2 = false := (h3 _ p hp).mpr (by rw [show (((os.foldl min o).toNat : Nat) : Int) = os.foldl min o by omega]; exact hm)
    have hd : (L.map Prod.fst)[(os.foldl min o).toNat]? = some p.1 := by rw [List.getElem?_map, hp]; rfl
    have fb : fstB L = some p.1 := fstB_at hp hpb fun j hj q hq => by
      cases c : q.2 with
      | true => rfl
      | false =>
        have hjm := (h3 j q hq).mp c
        have hle : os.foldl min o ≤ (j : Int) := by
          rcases List.mem_cons.mp hjm with e | h
          · rw [e]; exact m1
          · exact m2 _ h
        omega
    have du := due65a (xs := L.map Prod.fst) (d := p.1) (fun y m => by have := h2 y m; rw [List.length_map]; omega) hd
    have ib := init_bad h1 fb
    have sm := same65 (h1 p (List.mem_of_getElem? hp)).1
    simp only [du, lift_M, ca, pure_bind, ib, exbind]
    rw [tryM_ex (e := ⟨"BadRow", "row", p.1⟩) List.mem_cons_self]
    simp only [pickC, if_true]
    simp only [s2, nv, askM, lift_M, noexM, pure_bind, sqM, isN, Bool.false_eq_true, if_false, ht, tru_bl, DL.notM, DL.orM, Bool.not_true, i0, i1, kRow, k1, sm, c2]
    exact bk_pure rfl
theorem law_7f41_true (ns : List Int) (hn : ns.length ≤ 63) : m_law_7f41 [.scr ns] = .ok (.bl true) := by
  obtain ⟨d, e, rfl⟩ := law_ok65 hn
  exact e
end FN
/-! ### offeredentry_k65_tables_refused: the program in the data layer (printed) -/
namespace K65
open PySem L2 DL FN
def top (i : Nat) : Stmt := PySem.Challenge.pw_offeredentry_k65_tables_refused.main.body.getD i (.Pass ⟨0, 0, 0, 0⟩)
def topC (i j : Nat) : Stmt := match top i with
  | .ClassDef _ _ _ body _ _ _ _ _ _ _ => body.getD j (.Pass ⟨0, 0, 0, 0⟩)
  | _ => .Pass ⟨0, 0, 0, 0⟩
abbrev s_is_label : Stmt := top 8
abbrev N_is_label : List Str := ["thing", "sign"]
theorem sc_is_label : FnScope N_is_label ["thing"] (defScope s_is_label) := ⟨rfl, rfl, rfl, by decide +kernel, rfl, by decide +kernel, by decide +kernel⟩
abbrev s__law_bag : Stmt := top 18
abbrev N__law_bag : List Str := ["_law_script", "_law_seed", "_law_cell"]
theorem sc__law_bag : FnScope N__law_bag ["_law_script"] (defScope s__law_bag) := ⟨rfl, rfl, rfl, by decide +kernel, rfl, by decide +kernel, by decide +kernel⟩
abbrev s__law_take : Stmt := top 19
abbrev N__law_take : List Str := ["_law_bag_here", "_law_many", "_law_mixed", "_law_digit"]
theorem sc__law_take : FnScope N__law_take ["_law_bag_here", "_law_many"] (defScope s__law_take) := ⟨rfl, rfl, rfl, by decide +kernel, rfl, by decide +kernel, by decide +kernel⟩
abbrev s__law_due : Stmt := top 26
abbrev N__law_due : List Str := ["_law_rows", "_law_odd_here", "_law_at"]
theorem sc__law_due : FnScope N__law_due ["_law_rows", "_law_odd_here"] (defScope s__law_due) := ⟨rfl, rfl, rfl, by decide +kernel, rfl, by decide +kernel, by decide +kernel⟩
abbrev s__law_same : Stmt := top 27
abbrev N__law_same : List Str := ["_law_one", "_law_other"]
theorem sc__law_same : FnScope N__law_same ["_law_one", "_law_other"] (defScope s__law_same) := ⟨rfl, rfl, rfl, by decide +kernel, rfl, by decide +kernel, by decide +kernel⟩
abbrev s_parsed_row : Stmt := top 15
abbrev N_parsed_row : List Str := ["row", "labels", "kind", "text", "least", "most", "label"]
theorem sc_parsed_row : FnScope N_parsed_row ["row"] (defScope s_parsed_row) := ⟨rfl, rfl, rfl, by decide +kernel, rfl, by decide +kernel, by decide +kernel⟩
abbrev s__law_of : Stmt := top 20
abbrev N__law_of : List Str := ["_law_bag_here", "_law_some"]
theorem sc__law_of : FnScope N__law_of ["_law_bag_here", "_law_some"] (defScope s__law_of) := ⟨rfl, rfl, rfl, by decide +kernel, rfl, by decide +kernel, by decide +kernel⟩
abbrev s__law_label : Stmt := top 21
abbrev N__law_label : List Str := ["_law_bag_here", "_law_most", "_law_signs", "_law_k"]
theorem sc__law_label : FnScope N__law_label ["_law_bag_here", "_law_most"] (defScope s__law_label) := ⟨rfl, rfl, rfl, by decide +kernel, rfl, by decide +kernel, by decide +kernel⟩
abbrev s__law_pool : Stmt := top 22
abbrev N__law_pool : List Str := ["_law_bag_here", "_law_longest", "_law_most", "_law_k"]
theorem sc__law_pool : FnScope N__law_pool ["_law_bag_here", "_law_longest"] (defScope s__law_pool) := ⟨rfl, rfl, rfl, by decide +kernel, rfl, by decide +kernel, by decide +kernel⟩
abbrev s__law_row : Stmt := top 23
abbrev N__law_row : List Str := ["_law_bag_here", "_law_pool_here", "_law_mark", "_law_size", "_law_k"]
theorem sc__law_row : FnScope N__law_row ["_law_bag_here", "_law_pool_here"] (defScope s__law_row) := ⟨rfl, rfl, rfl, by decide +kernel, rfl, by decide +kernel, by decide +kernel⟩
abbrev s__law_odd : Stmt := top 25
abbrev N__law_odd : List Str := ["_law_bag_here", "_law_pool_here", "_law_text", "_law_some"]
theorem sc__law_odd : FnScope N__law_odd ["_law_bag_here", "_law_pool_here"] (defScope s__law_odd) := ⟨rfl, rfl, rfl, by decide +kernel, rfl, by decide +kernel, by decide +kernel⟩
abbrev s_Table_init : Stmt := topC 16 0
abbrev N_Table_init : List Str := ["self", "rows", "row", "at"]
theorem sc_Table_init : FnScope N_Table_init ["self", "rows"] (defScope s_Table_init) := ⟨rfl, rfl, rfl, by decide +kernel, rfl, by decide +kernel, by decide +kernel⟩
abbrev s__law_table : Stmt := top 24
abbrev N__law_table : List Str := ["_law_rows"]
theorem sc__law_table : FnScope N__law_table ["_law_rows"] (defScope s__law_table) := ⟨rfl, rfl, rfl, by decide +kernel, rfl, by decide +kernel, by decide +kernel⟩
abbrev s_law : Stmt := top 28
abbrev N_law : List Str := ["_law_script", "_law_bag_here", "_law_pool_here", "_law_rows", "_law_good", "_law_odd_here", "_law_k", "_law_due_here", "e", "_law_told", "_law_classes", "_law_at"]
theorem sc_law : FnScope N_law ["_law_script"] (defScope s_law) := ⟨rfl, rfl, rfl, by decide +kernel, rfl, by decide +kernel, by decide +kernel⟩
structure Ad where
  a_is_label : Addr
  f_is_label : FuncData
  a__law_bag : Addr
  f__law_bag : FuncData
  a__law_take : Addr
  f__law_take : FuncData
  a__law_due : Addr
  f__law_due : FuncData
  a__law_same : Addr
  f__law_same : FuncData
  a_parsed_row : Addr
  f_parsed_row : FuncData
  a__law_of : Addr
  f__law_of : FuncData
  a__law_label : Addr
  f__law_label : FuncData
  a__law_pool : Addr
  f__law_pool : FuncData
  a__law_row : Addr
  f__law_row : FuncData
  a__law_odd : Addr
  f__law_odd : FuncData
  a_Table_init : Addr
  f_Table_init : FuncData
  a__law_table : Addr
  f__law_table : FuncData
  a_law : Addr
  f_law : FuncData
  C_Table : Addr
  x_BadRow : Addr
  i_BadRow : Addr
  x_TooMany : Addr
  i_TooMany : Addr
  x_Twice : Addr
  i_Twice : Addr
structure Txt (K : PySem.W.Frag) (mg : Str → Option Value) (A : Ad) : Prop where
  m_is_label : mg "is_label" = some (.ref A.a_is_label)
  F_is_label : Fun K "is_label" "is_label" s_is_label A.a_is_label A.f_is_label
  b_is_label : Binds K A.f_is_label ["thing"] []
  m__law_bag : mg "_law_bag" = some (.ref A.a__law_bag)
  F__law_bag : Fun K "_law_bag" "_law_bag" s__law_bag A.a__law_bag A.f__law_bag
  b__law_bag : Binds K A.f__law_bag ["_law_script"] []
  m__law_take : mg "_law_take" = some (.ref A.a__law_take)
  F__law_take : Fun K "_law_take" "_law_take" s__law_take A.a__law_take A.f__law_take
  b__law_take : Binds K A.f__law_take ["_law_bag_here", "_law_many"] []
  m__law_due : mg "_law_due" = some (.ref A.a__law_due)
  F__law_due : Fun K "_law_due" "_law_due" s__law_due A.a__law_due A.f__law_due
  b__law_due : Binds K A.f__law_due ["_law_rows", "_law_odd_here"] []
  m__law_same : mg "_law_same" = some (.ref A.a__law_same)
  F__law_same : Fun K "_law_same" "_law_same" s__law_same A.a__law_same A.f__law_same
  b__law_same : Binds K A.f__law_same ["_law_one", "_law_other"] []
  m_parsed_row : mg "parsed_row" = some (.ref A.a_parsed_row)
  F_parsed_row : Fun K "parsed_row" "parsed_row" s_parsed_row A.a_parsed_row A.f_parsed_row
  b_parsed_row : Binds K A.f_parsed_row ["row"] []
  m__law_of : mg "_law_of" = some (.ref A.a__law_of)
  F__law_of : Fun K "_law_of" "_law_of" s__law_of A.a__law_of A.f__law_of
  b__law_of : Binds K A.f__law_of ["_law_bag_here", "_law_some"] []
  m__law_label : mg "_law_label" = some (.ref A.a__law_label)
  F__law_label : Fun K "_law_label" "_law_label" s__law_label A.a__law_label A.f__law_label
  b__law_label : Binds K A.f__law_label ["_law_bag_here", "_law_most"] []
  m__law_pool : mg "_law_pool" = some (.ref A.a__law_pool)
  F__law_pool : Fun K "_law_pool" "_law_pool" s__law_pool A.a__law_pool A.f__law_pool
  b__law_pool : Binds K A.f__law_pool ["_law_bag_here", "_law_longest"] []
  m__law_row : mg "_law_row" = some (.ref A.a__law_row)
  F__law_row : Fun K "_law_row" "_law_row" s__law_row A.a__law_row A.f__law_row
  b__law_row : Binds K A.f__law_row ["_law_bag_here", "_law_pool_here"] []
  m__law_odd : mg "_law_odd" = some (.ref A.a__law_odd)
  F__law_odd : Fun K "_law_odd" "_law_odd" s__law_odd A.a__law_odd A.f__law_odd
  b__law_odd : Binds K A.f__law_odd ["_law_bag_here", "_law_pool_here"] []
  F_Table_init : Fun K "__init__" "Table.__init__" s_Table_init A.a_Table_init A.f_Table_init
  bs_Table_init : ∀ us rest : List Value, us.length = 1 → bindArgs A.f_Table_init ⟨us ++ rest, []⟩ = (newTuple rest >>= fun t => pure ((["self"] : List Str).zip us ++ [(("rows" : Str), t)]))
  m__law_table : mg "_law_table" = some (.ref A.a__law_table)
  F__law_table : Fun K "_law_table" "_law_table" s__law_table A.a__law_table A.f__law_table
  b__law_table : Binds K A.f__law_table ["_law_rows"] []
  m_law : mg "law" = some (.ref A.a_law)
  F_law : Fun K "law" "law" s_law A.a_law A.f_law
  b_law : Binds K A.f_law ["_law_script"] []
  C_Table : ClsN K mg "Table" A.C_Table
  na_Table : ∀ f ∈ (["rows", "parsed"] : List Str), NoAttr K A.C_Table f
  M_Table : Mk K A.C_Table A.a_Table_init
  is_Table : IsT K mg (.ref A.C_Table) [("Table", true)] noneOfB
  x_BadRow : PySem.OwnX.OwnTxt K mg "BadRow" "row" "BadRow.__init__" A.x_BadRow A.i_BadRow
  x_TooMany : PySem.OwnX.OwnTxt K mg "TooMany" "limit" "TooMany.__init__" A.x_TooMany A.i_TooMany
  x_Twice : PySem.OwnX.OwnTxt K mg "Twice" "name" "Twice.__init__" A.x_Twice A.i_Twice
  e_BadRow : ExcC K A.x_BadRow
  e_TooMany : ExcC K A.x_TooMany
  e_Twice : ExcC K A.x_Twice
  ki_BadRow_ValueError : PySem.W.kitOne K (.ref A.x_BadRow) (.type "ValueError") = some true
  ki_TooMany_OverflowError : PySem.W.kitOne K (.ref A.x_TooMany) (.type "OverflowError") = some true
  ki_Twice_ValueError : PySem.W.kitOne K (.ref A.x_Twice) (.type "ValueError") = some true
  ko_BadRow_TooMany : PySem.W.kitOne K (.ref A.x_BadRow) (.ref A.x_TooMany) = some false
  ko_BadRow_Twice : PySem.W.kitOne K (.ref A.x_BadRow) (.ref A.x_Twice) = some false
  ko_TooMany_BadRow : PySem.W.kitOne K (.ref A.x_TooMany) (.ref A.x_BadRow) = some false
  ko_TooMany_Twice : PySem.W.kitOne K (.ref A.x_TooMany) (.ref A.x_Twice) = some false
  ko_Twice_BadRow : PySem.W.kitOne K (.ref A.x_Twice) (.ref A.x_BadRow) = some false
  ko_Twice_TooMany : PySem.W.kitOne K (.ref A.x_Twice) (.ref A.x_TooMany) = some false
  k_BadRow : Known K mg [("BadRow", "row"), ("TooMany", "limit"), ("Twice", "name")] "BadRow" A.x_BadRow
  k_TooMany : Known K mg [("BadRow", "row"), ("TooMany", "limit"), ("Twice", "name")] "TooMany" A.x_TooMany
  k_Twice : Known K mg [("BadRow", "row"), ("TooMany", "limit"), ("Twice", "name")] "Twice" A.x_Twice
  z_BadRule : mg "BadRule" = none
  z_OverflowError : mg "OverflowError" = none
  z_ValueError : mg "ValueError" = none
  z_abs : mg "abs" = none
  z_bool : mg "bool" = none
  z_enumerate : mg "enumerate" = none
  z_int : mg "int" = none
  z_isinstance : mg "isinstance" = none
  z_len : mg "len" = none
  z_list : mg "list" = none
  z_min : mg "min" = none
  z_range : mg "range" = none
  z_str : mg "str" = none
  z_tuple : mg "tuple" = none
  c_CHARACTERS : GlobIs K mg "CHARACTERS" c_CHARACTERS
  c_EXCEPTION : GlobIs K mg "EXCEPTION" c_EXCEPTION
  c_LONGEST_LABEL : GlobIs K mg "LONGEST_LABEL" c_LONGEST_LABEL
  c_MOST_LABELS_OF_ROW : GlobIs K mg "MOST_LABELS_OF_ROW" c_MOST_LABELS_OF_ROW
  c_MOST_ROWS : GlobIs K mg "MOST_ROWS" c_MOST_ROWS
  c_PLAIN : GlobIs K mg "PLAIN" c_PLAIN
  c_WILD : GlobIs K mg "WILD" c_WILD
section
variable {P : Program} {w : World} {K : PySem.W.Frag} {mg : Str → Option Value} {base : Heap} {A : Ad}
theorem fo_rows (T : Txt K mg A) : FldOk K mg "rows" ["Table"] := fun c hc => by
  simp only [List.mem_cons, List.not_mem_nil, or_false] at hc
  rcases hc with rfl
  · exact ⟨_, T.C_Table.mg, T.C_Table.cl, T.na_Table _ (by decide +kernel)⟩
theorem g_is_label (T : Txt K mg A) : FnG P w K mg base 1 A.a_is_label A.f_is_label ["thing"] (spR K mg false 1 m_is_label_344b) := by
  refine fnR (nr := false) (k := 0) T.F_is_label sc_is_label rfl (by decide) (fun cdv Ar outer s H Hf E ds C hl => ?_)
  match ds, hl with
  | [a0], _ => exact ⟨b_is_label_344b a0, (dss_if (exA := fun (q7 : Unit) => [.im a0, .un]) (dw_or (dt_not (dt_tru (de_isi "str" (de_var 0) (by rfl) T.z_isinstance (by rfl) T.z_str rfl))) (dw_or1 (dt_not (dt_chain (od_le C.rm.units) (od_le C.rm.units) de_int (de_callB oc_len (by rfl) T.z_len rfl (da_cons (de_var 0) da_nil)) (de_globI (by rfl) T.c_LONGEST_LABEL))))).pt (dss_ret de_bl) (dss_nil (a := ()) (And.intro (Or.inl rfl) (And.intro (Or.inr rfl) (trivial)))) fun q7 => (dss_ret (de_not (de_frz (df_lc [("sign", 1)] C (di_any (de_var 0)) (blkOk_by (N := N_is_label) (sc := defScope s_is_label) (by decide +kernel)) (fun s H A cl fp => (pgd_name (C.blk _ _ _ _ _) 1)) (fun s H A cl fp C10 c11 => (pts_test (dt_cmp (od_notIn (hu65 C10.rm)) (de_var 1) (de_globI (by rfl) T.c_CHARACTERS) (by rfl)))) (fun s H A cl fp C10 c11 => (de_var 1)) (by decide)))))), rfl⟩
theorem g__law_bag (T : Txt K mg A) : FnG P w K mg base 1 A.a__law_bag A.f__law_bag ["_law_script"] (spR K mg false 1 m__law_bag_d7b5) := by
  refine fnR (nr := false) (k := 0) T.F__law_bag sc__law_bag rfl (by decide) (fun cdv Ar outer s H Hf E ds C hl => ?_)
  match ds, hl with
  | [a0], _ => exact ⟨b__law_bag_d7b5 a0, (dss_asg C 1 de_int fun v1 => (dss_for (exl := fun (q3 : D) => [.im a0, .im q3, .un]) v1 C (di_any (de_var 0)) (pgd_name C 2) (And.intro (Or.inl rfl) (And.intro (Or.inl rfl) (And.intro (Or.inr rfl) (trivial)))) (fun q3 c4 => (dss_if (exA := fun (q10 : D) => [.im a0, .im q10, .im c4]) (dt_cmp (od_lt C.rm.units) (de_callB oc_abs (by rfl) T.z_abs rfl (da_cons (de_var 2) da_nil)) (de_op od_powC de_int de_int) (by rfl)) (dss_asg C 1 (de_op od_mod (de_callTy oc_int (by rfl) T.z_int rfl (da_cons (de_op od_add (de_op od_add (de_op od_mul (de_var 1) de_int) (de_op od_mul (de_var 2) de_int)) de_int) da_nil)) de_int) fun v11 => (dss_nil (a := v11) (And.intro (Or.inl rfl) (And.intro (Or.inl rfl) (And.intro (Or.inl rfl) (trivial)))))) (dss_nil (a := q3) (And.intro (Or.inl rfl) (And.intro (Or.inl rfl) (And.intro (Or.inl rfl) (trivial))))) fun q10 => (dss_nil (a := q10) (And.intro (Or.inl rfl) (And.intro (Or.inl rfl) (And.intro (Or.inr rfl) (trivial))))))) fun q26 => (dss_ret (de_frz (df_list (da_cons (de_frz (df_lc [("_law_cell", 2)] C (di_any (de_var 0)) (blkOk_by (N := N__law_bag) (sc := defScope s__law_bag) (by decide +kernel)) (fun s H A cl fp => (pgd_name (C.blk _ _ _ _ _) 2)) (fun s H A cl fp C28 c29 => (pts_test (dt_cmp (od_ge C28.rm.units) (de_callB oc_abs (by rfl) T.z_abs rfl (da_cons (de_var 2) da_nil)) (de_op od_powC de_int de_int) (by rfl)))) (fun s H A cl fp C28 c29 => (de_callB oc_abs (by rfl) T.z_abs rfl (da_cons (de_var 2) da_nil))) (by decide))) (da_cons (de_var 1) (da_cons de_int da_nil)))))))), rfl⟩
theorem g__law_take (T : Txt K mg A) : FnG P w K mg base 1 A.a__law_take A.f__law_take ["_law_bag_here", "_law_many"] (spM K mg false (1 + 1) m__law_take_bb49) := by
  refine fnM (nr := false) (k := 0) T.F__law_take sc__law_take rfl (by decide) (fun cdv Ar outer s H Hf bag E ds C hl => ?_)
  match ds, hl with
  | [a1], _ => exact ⟨b__law_take_bb49 a1, (dss_bagWhile C (dw_and (dt_bagNe C 0) (dw_and1 (dt_cmp (od_eq C.rm.units) (de_bagHd 0) de_int (by rfl)))).pt (dss_bagPop 0 (dss_nil (a := ()) (And.intro (Or.inl rfl) (And.intro (Or.inl rfl) (And.intro (Or.inr rfl) (And.intro (Or.inr rfl) (trivial))))))) (dss_if (exA := fun (q3 : Unit) => [.bg, .im a1, .un, .un]) (dt_bagNe C 0) (dss_asg C 3 (de_op od_mod (de_callTy oc_int (by rfl) T.z_int rfl (da_cons (de_bagHd 0) da_nil)) (de_var 1)) fun v4 => (dss_bagSetHd 0 (de_op od_fdiv (de_bagHd 0) (de_var 1)) (dss_ret (de_var 3)))) (dss_nil (a := ()) (And.intro (Or.inl rfl) (And.intro (Or.inl rfl) (And.intro (Or.inr rfl) (And.intro (Or.inr rfl) (trivial)))))) fun q3 => (dss_bagSetZ 0 (de_op od_add (de_bagZ 0) de_int) (dss_asg C 2 (de_op od_mod (de_callTy oc_int (by rfl) T.z_int rfl (da_cons (de_op od_powC (de_op od_add (de_bagY3 0) (de_op od_mul de_int (de_bagZ 0))) de_int) da_nil)) de_int) fun v19 => (dss_asg C 2 (de_op od_mod (de_callTy oc_int (by rfl) T.z_int rfl (da_cons (de_op od_powC (de_op od_add (de_var 2) (de_op od_mul de_int (de_bagZ 0))) de_int) da_nil)) de_int) fun v31 => (dss_ret (de_op od_mod (de_callTy oc_int (by rfl) T.z_int rfl (da_cons (de_op od_fdiv (de_var 2) de_int) da_nil)) (de_var 1)))))))), rfl⟩
theorem g__law_due (T : Txt K mg A) : FnG P w K mg base 1 A.a__law_due A.f__law_due ["_law_rows", "_law_odd_here"] (spR K mg false 2 m__law_due_22c8) := by
  refine fnR (nr := false) (k := 0) T.F__law_due sc__law_due rfl (by decide) (fun cdv Ar outer s H Hf E ds C hl => ?_)
  match ds, hl with
  | [a0, a1], _ => exact ⟨b__law_due_22c8 a0 a1, (pss_k (l__law_due_22c8_3 _ _) (dss_if (exA := fun (q4 : Unit) => [.im a0, .im a1, .un]) (dt_cmp (od_ne C.rm.units) (de_var 1) (de_frz (df_list da_nil)) (by rfl)) (pss_k (l__law_due_22c8_0 _ _) (dss_ret (de_tup (da_cons (de_str [114, 111, 119]) (da_cons (de_ix (de_var 0) (de_callB (oc_minL C.calm) (by rfl) T.z_min rfl (da_cons (de_var 1) da_nil))) da_nil))))) (dss_nil (a := ()) (And.intro (Or.inl rfl) (And.intro (Or.inl rfl) (And.intro (Or.inr rfl) (trivial))))) fun q4 => (dss_for (exl := fun (q23 : Unit) => [.im a0, .im a1, .un]) () C (di_range1 (by rfl) T.z_range (da_cons (de_callB oc_len (by rfl) T.z_len rfl (da_cons (de_var 0) da_nil)) da_nil)) (pgd_name C 2) (And.intro (Or.inl rfl) (And.intro (Or.inl rfl) (And.intro (Or.inr rfl) (trivial)))) (fun q23 c24 => (pss_k (l__law_due_22c8_1 _ _) (dss_if (exA := fun (q34 : Unit) => [.im a0, .im a1, .im c24]) (dt_cmp (od_in (hu65 C.rm)) (de_ix (de_var 0) (de_var 2)) (de_sl (de_var 0) do_none (do_some (de_var 2))) (by rfl)) (dss_ret (de_tup (da_cons (de_str [116, 119, 105, 99, 101]) (da_cons (de_ix (de_var 0) (de_var 2)) da_nil)))) (dss_nil (a := ()) (And.intro (Or.inl rfl) (And.intro (Or.inl rfl) (And.intro (Or.inl rfl) (trivial))))) fun q34 => (dss_nil (a := ()) (And.intro (Or.inl rfl) (And.intro (Or.inl rfl) (And.intro (Or.inr rfl) (trivial)))))))) fun q45 => (pss_k (l__law_due_22c8_2 _) (dss_ret (de_ifExp (dt_cmp (od_gt C.rm.units) (de_callB oc_len (by rfl) T.z_len rfl (da_cons (de_var 0) da_nil)) de_int (by rfl)) (de_tup (da_cons (de_str [109, 97, 110, 121]) (da_cons de_int da_nil))) de_non)))))), rfl⟩
theorem g__law_same (T : Txt K mg A) : FnG P w K mg base 1 A.a__law_same A.f__law_same ["_law_one", "_law_other"] (spR K mg false 2 m__law_same_9288) := by
  refine fnR (nr := false) (k := 0) T.F__law_same sc__law_same rfl (by decide) (fun cdv Ar outer s H Hf E ds C hl => ?_)
  match ds, hl with
  | [a0, a1], _ => exact ⟨b__law_same_9288 a0 a1, (dss_ret (de_and (de_cmp (od_eq C.rm.units) (de_var 0) (de_var 1) (by rfl)) (de_one (de_cmp (od_eq C.rm.units) (de_isi "bool" (de_var 0) (by rfl) T.z_isinstance (by rfl) T.z_bool rfl) (de_isi "bool" (de_var 1) (by rfl) T.z_isinstance (by rfl) T.z_bool rfl) (by rfl))))), rfl⟩
theorem g_parsed_row (T : Txt K mg A) : FnG P w K mg base 2 A.a_parsed_row A.f_parsed_row ["row"] (spR K mg false 1 m_parsed_row_b892) := by
  refine fnR (nr := false) (k := 1) T.F_parsed_row sc_parsed_row rfl (by decide) (fun cdv Ar outer s H Hf E ds C hl => ?_)
  match ds, hl with
  | [a0], _ => exact ⟨b_parsed_row_b892 a0, (dss_if (exA := fun (q3 : Unit) => [.im a0, .un, .un, .un, .un, .un, .un]) (dt_not (dt_tru (de_isi "str" (de_var 0) (by rfl) T.z_isinstance (by rfl) T.z_str rfl))) (dss_ret de_non) (dss_nil (a := ()) (And.intro (Or.inl rfl) (And.intro (Or.inr rfl) (And.intro (Or.inr rfl) (And.intro (Or.inr rfl) (And.intro (Or.inr rfl) (And.intro (Or.inr rfl) (And.intro (Or.inr rfl) (trivial))))))))) fun q3 => (dss_unp (pgd_tupN C 4 (.cons 2 (.cons 3 (.cons 4 (.cons 5 .nil))))) (de_tup (da_cons (de_globI (by rfl) T.c_PLAIN) (da_cons (de_var 0) (da_cons de_int (da_cons (de_globI (by rfl) T.c_MOST_LABELS_OF_ROW) da_nil))))) fun c6 => (dss_if (exA := fun (q20 : D × D × D × D) => [.im a0, .un, .im q20.1, .im q20.2.1, .im q20.2.2.1, .im q20.2.2.2, .un]) (dt_tru (de_starts (de_var 0) (de_str [33]))) (dss_par3 C 2 3 4 (de_globI (by rfl) T.c_EXCEPTION) (de_sl (de_var 0) (do_some de_int) do_none) de_int fun v27 v28 v29 => (dss_nil (a := (v27, v28, v29, (c6.getD 3 .non))) (And.intro (Or.inl rfl) (And.intro (Or.inr rfl) (And.intro (Or.inl rfl) (And.intro (Or.inl rfl) (And.intro (Or.inl rfl) (And.intro (Or.inl rfl) (And.intro (Or.inr rfl) (trivial)))))))))) (dss_if (exA := fun (q33 : D × D × D) => [.im a0, .un, .im q33.1, .im q33.2.1, .im (c6.getD 2 .non), .im q33.2.2, .un]) (dt_tru (de_starts (de_var 0) (de_str [42, 46]))) (dss_par3 C 2 3 5 (de_globI (by rfl) T.c_WILD) (de_sl (de_var 0) (do_some de_int) do_none) (de_op od_sub (de_globI (by rfl) T.c_MOST_LABELS_OF_ROW) de_int) fun v42 v43 v44 => (dss_nil (a := (v42, v43, v44)) (And.intro (Or.inl rfl) (And.intro (Or.inr rfl) (And.intro (Or.inl rfl) (And.intro (Or.inl rfl) (And.intro (Or.inl rfl) (And.intro (Or.inl rfl) (And.intro (Or.inr rfl) (trivial)))))))))) (dss_nil (a := ((c6.getD 0 .non), (c6.getD 1 .non), (c6.getD 3 .non))) (And.intro (Or.inl rfl) (And.intro (Or.inr rfl) (And.intro (Or.inl rfl) (And.intro (Or.inl rfl) (And.intro (Or.inl rfl) (And.intro (Or.inl rfl) (And.intro (Or.inr rfl) (trivial))))))))) fun q33 => (dss_nil (a := (q33.1, q33.2.1, (c6.getD 2 .non), q33.2.2)) (And.intro (Or.inl rfl) (And.intro (Or.inr rfl) (And.intro (Or.inl rfl) (And.intro (Or.inl rfl) (And.intro (Or.inl rfl) (And.intro (Or.inl rfl) (And.intro (Or.inr rfl) (trivial)))))))))) fun q20 => (dss_asg C 1 (de_callTy oc_tuple (by rfl) T.z_tuple rfl (da_cons (de_frz (df_split (de_var 3) (de_str [46]))) da_nil)) fun v46 => (dss_if (exA := fun (q65 : Unit) => [.im a0, .im v46, .im q20.1, .im q20.2.1, .im q20.2.2.1, .im q20.2.2.2, .un]) (dw_or (dt_not (dt_chain (od_le C.rm.units) (od_le C.rm.units) (de_var 4) (de_callB oc_len (by rfl) T.z_len rfl (da_cons (de_var 1) da_nil)) (de_var 5))) (dw_or1 (dt_tru (de_frz (df_lc [("label", 6)] C (di_any (de_var 1)) (blkOk_by (N := N_parsed_row) (sc := defScope s_parsed_row) (by decide +kernel)) (fun s H A cl fp => (pgd_name (C.blk _ _ _ _ _) 6)) (fun s H A cl fp C57 c58 => (pts_test (dt_not (dt_tru (de_fn C57 (g_is_label T) T.m_is_label T.F_is_label.kp T.b_is_label (da_cons (de_var 6) da_nil) n_is_label_344b))))) (fun s H A cl fp C57 c58 => (de_var 6)) (by decide)))))).pt (dss_ret de_non) (dss_nil (a := ()) (And.intro (Or.inl rfl) (And.intro (Or.inl rfl) (And.intro (Or.inl rfl) (And.intro (Or.inl rfl) (And.intro (Or.inl rfl) (And.intro (Or.inl rfl) (And.intro (Or.inr rfl) (trivial))))))))) fun q65 => (dss_ret (de_tup (da_cons (de_var 2) (da_cons (de_var 1) da_nil))))))))), rfl⟩
theorem g__law_of (T : Txt K mg A) : FnG P w K mg base 2 A.a__law_of A.f__law_of ["_law_bag_here", "_law_some"] (spM K mg false (1 + 1) m__law_of_8ba0) := by
  refine fnM (nr := false) (k := 1) T.F__law_of sc__law_of rfl (by decide) (fun cdv Ar outer s H Hf bag E ds C hl => ?_)
  match ds, hl with
  | [a1], _ => exact ⟨b__law_of_8ba0 a1, (dss_ret (de_ix (de_var 1) (de_fnM C 0 (g__law_take T) T.m__law_take T.F__law_take.kp T.b__law_take (da_cons (de_callB oc_len (by rfl) T.z_len rfl (da_cons (de_var 1) da_nil)) da_nil) n__law_take_bb49))), rfl⟩
theorem g__law_label (T : Txt K mg A) : FnG P w K mg base 2 A.a__law_label A.f__law_label ["_law_bag_here", "_law_most"] (spM K mg false (1 + 1) m__law_label_b886) := by
  refine fnM (nr := false) (k := 1) T.F__law_label sc__law_label rfl (by decide) (fun cdv Ar outer s H Hf bag E ds C hl => ?_)
  match ds, hl with
  | [a1], _ => exact ⟨b__law_label_b886 a1, (dss_asg C 2 (de_str [48, 49, 50, 51, 52, 53, 54, 55, 56, 57, 97, 98, 99, 100, 101, 102, 103, 104, 105, 106, 107, 108, 109, 110, 111, 112, 113, 114, 115, 116, 117, 118, 119, 120, 121, 122]) fun v1 => (dss_ret (de_join (de_str []) (de_frz (df_lc [("_law_k", 3)] C (di_range1 (by rfl) T.z_range (da_cons (de_op od_add de_int (de_fnM C 0 (g__law_take T) T.m__law_take T.F__law_take.kp T.b__law_take (da_cons (de_var 1) da_nil) n__law_take_bb49)) da_nil)) (blkOk_by (N := N__law_label) (sc := defScope s__law_label) (by decide +kernel)) (fun s H A cl fp => (pgd_name (C.blk _ _ _ _ _) 3)) (fun s H A cl fp C10 c11 => pts_true) (fun s H A cl fp C10 c11 => (de_ix (de_var 2) (de_fnM C10 0 (g__law_take T) T.m__law_take T.F__law_take.kp T.b__law_take (da_cons de_int da_nil) n__law_take_bb49))) (by decide)))))), rfl⟩
theorem g__law_pool (T : Txt K mg A) : FnG P w K mg base 3 A.a__law_pool A.f__law_pool ["_law_bag_here", "_law_longest"] (spM K mg false (1 + 1) m__law_pool_b280) := by
  refine fnM (nr := false) (k := 2) T.F__law_pool sc__law_pool rfl (by decide) (fun cdv Ar outer s H Hf bag E ds C hl => ?_)
  match ds, hl with
  | [a1], _ => exact ⟨b__law_pool_b280 a1, (dss_asg C 2 (de_ifExp (dt_cmp (od_eq C.rm.units) (de_fnM C 0 (g__law_take T) T.m__law_take T.F__law_take.kp T.b__law_take (da_cons de_int da_nil) n__law_take_bb49) de_int (by rfl)) (de_var 1) de_int) fun v1 => (dss_ret (de_frz (df_lc [("_law_k", 3)] C (di_range1 (by rfl) T.z_range (da_cons (de_op od_add de_int (de_fnM C 0 (g__law_take T) T.m__law_take T.F__law_take.kp T.b__law_take (da_cons de_int da_nil) n__law_take_bb49)) da_nil)) (blkOk_by (N := N__law_pool) (sc := defScope s__law_pool) (by decide +kernel)) (fun s H A cl fp => (pgd_name (C.blk _ _ _ _ _) 3)) (fun s H A cl fp C15 c16 => pts_true) (fun s H A cl fp C15 c16 => (de_fnM C15 0 (g__law_label T) T.m__law_label T.F__law_label.kp T.b__law_label (da_cons (de_var 2) da_nil) n__law_label_b886)) (by decide))))), rfl⟩
theorem g__law_row (T : Txt K mg A) : FnG P w K mg base 3 A.a__law_row A.f__law_row ["_law_bag_here", "_law_pool_here"] (spM K mg false (1 + 1) m__law_row_f25d) := by
  refine fnM (nr := false) (k := 2) T.F__law_row sc__law_row rfl (by decide) (fun cdv Ar outer s H Hf bag E ds C hl => ?_)
  match ds, hl with
  | [a1], _ => exact ⟨b__law_row_f25d a1, (dss_asg C 2 (de_fnM C 0 (g__law_of T) T.m__law_of T.F__law_of.kp T.b__law_of (da_cons (de_frz (df_list (da_cons (de_str []) (da_cons (de_str []) (da_cons (de_str [42, 46]) (da_cons (de_str [33]) da_nil)))))) da_nil) n__law_of_8ba0) fun v1 => (dss_asg C 3 (de_fnM C 0 (g__law_of T) T.m__law_of T.F__law_of.kp T.b__law_of (da_cons (de_dget C (de_disp (.cons [] (de_frz (df_list (da_cons de_int (da_cons de_int (da_cons de_int da_nil))))) (.cons [42, 46] (de_frz (df_list (da_cons de_int (da_cons de_int da_nil)))) (.cons [33] (de_frz (df_list (da_cons de_int (da_cons de_int da_nil)))) .nil)))) (de_var 2)) da_nil) n__law_of_8ba0) fun v14 => (dss_ret (de_op od_add (de_var 2) (de_join (de_str [46]) (de_frz (df_lc [("_law_k", 4)] C (di_range1 (by rfl) T.z_range (da_cons (de_var 3) da_nil)) (blkOk_by (N := N__law_row) (sc := defScope s__law_row) (by decide +kernel)) (fun s H A cl fp => (pgd_name (C.blk _ _ _ _ _) 4)) (fun s H A cl fp C47 c48 => pts_true) (fun s H A cl fp C47 c48 => (de_fnM C47 0 (g__law_of T) T.m__law_of T.F__law_of.kp T.b__law_of (da_cons (de_var 1) da_nil) n__law_of_8ba0)) (by decide)))))))), rfl⟩
theorem g__law_odd (T : Txt K mg A) : FnG P w K mg base 3 A.a__law_odd A.f__law_odd ["_law_bag_here", "_law_pool_here"] (spM K mg false (1 + 1) m__law_odd_69a0) := by
  refine fnM (nr := false) (k := 2) T.F__law_odd sc__law_odd rfl (by decide) (fun cdv Ar outer s H Hf bag E ds C hl => ?_)
  match ds, hl with
  | [a1], _ => exact ⟨b__law_odd_69a0 a1, (dss_asg C 2 (de_fnM C 0 (g__law_of T) T.m__law_of T.F__law_of.kp T.b__law_of (da_cons (de_var 1) da_nil) n__law_of_8ba0) fun v1 => (pss_k (l__law_odd_69a0_2 _) (dss_asg C 3 (de_frz (df_list (da_cons (de_str []) (da_cons (de_str [42]) (da_cons (de_str [42, 46]) (da_cons (de_str [33]) (da_cons (de_op od_add (de_str [33]) (de_var 2)) (da_cons (de_op od_add (de_var 2) (de_str [46])) (da_cons (de_op od_add (de_str [46]) (de_var 2)) (da_cons (de_op od_add (de_op od_add (de_var 2) (de_str [46, 46])) (de_var 2)) (da_cons (de_op od_add (de_op od_add (de_str [42, 46]) (de_var 2)) (de_str [46, 97, 46, 98])) da_nil))))))))))) fun v5 => (pss_k (l__law_odd_69a0_1 _ _) (dss_asg C 3 (de_op od_add (de_var 3) (de_frz (df_list (da_cons (de_op od_add (de_str [97, 46, 98, 46, 99, 46]) (de_var 2)) (da_cons (de_op od_add (de_var 2) (de_str [42])) (da_cons (de_op od_add (de_str [42]) (de_var 2)) (da_cons (de_op od_add (de_str [42, 46, 42, 46]) (de_var 2)) (da_cons (de_op od_add (de_str [33, 42, 46]) (de_var 2)) (da_cons (de_op od_add (de_var 2) (de_str [46, 65])) (da_cons (de_op od_add (de_var 2) (de_str [32])) da_nil)))))))))) fun v39 => (pss_k (l__law_odd_69a0_0 _ _) (dss_asg C 3 (de_op od_add (de_var 3) (de_frz (df_list (da_cons (de_op od_add (de_var 2) (de_str [10])) (da_cons (de_op od_add (de_str [42, 46, 33]) (de_var 2)) (da_cons (de_op od_add (de_str [33, 97, 46, 98, 46, 99, 46]) (de_var 2)) (da_cons (de_op od_mul (de_str [97]) de_int) (da_cons de_non (da_cons de_bl (da_cons de_int (da_cons (de_tup (da_cons (de_var 2) da_nil)) (da_cons (de_frz (df_list (da_cons (de_var 2) da_nil))) (da_cons (de_op od_add (de_str [42, 42, 46]) (de_var 2)) da_nil))))))))))))) fun v71 => (dss_ret (de_fnM C 0 (g__law_of T) T.m__law_of T.F__law_of.kp T.b__law_of (da_cons (de_var 3) da_nil) n__law_of_8ba0))))))))), rfl⟩
theorem g_Table_init (T : Txt K mg A) : FnP P w K mg base 3 A.a_Table_init [] (spI K mg ["rows", "parsed"] (fun _ => True) (starD 0 m_Table_init_f8f8)) := by
  refine fnI_star (ps := ["self"]) (pv := "rows") (k := 2) (n := 0) T.F_Table_init sc_Table_init rfl (by decide) T.bs_Table_init (fun cdv Ar outer s H Hf E o ds C hl => ?_)
  match ds, hl with
  | [a1], _ => exact ⟨b_Table_init_f8f8 a1, (pss_k (l_Table_init_f8f8_3 _) (dss_for (exl := fun (q2 : Unit) => [.ob [] [], .im a1, .un, .un]) () C (di_any (de_var 1)) (pgd_name C 2) (And.intro (Or.inl rfl) (And.intro (Or.inl rfl) (And.intro (Or.inr rfl) (And.intro (Or.inr rfl) (trivial))))) (fun q2 c3 => (dss_if (exA := fun (q9 : Unit) => [.ob [] [], .im a1, .im c3, .un]) (dt_cmp od_is (de_fn C (g_parsed_row T) T.m_parsed_row T.F_parsed_row.kp T.b_parsed_row (da_cons (de_var 2) da_nil) n_parsed_row_b892) de_non (by rfl)) (dss_raise C T.x_BadRow (de_var 2)) (dss_nil (a := ()) (And.intro (Or.inl rfl) (And.intro (Or.inl rfl) (And.intro (Or.inl rfl) (And.intro (Or.inr rfl) (trivial)))))) fun q9 => (dss_nil (a := ()) (And.intro (Or.inl rfl) (And.intro (Or.inl rfl) (And.intro (Or.inr rfl) (And.intro (Or.inr rfl) (trivial)))))))) fun q12 => (dss_for (exl := fun (q16 : Unit) => [.ob [] [], .im a1, .un, .un]) () C (di_enumT (by rfl) T.z_enumerate (da_cons (de_var 1) da_nil)) (pgd_tup2 C 3 2) (And.intro (Or.inl rfl) (And.intro (Or.inl rfl) (And.intro (Or.inr rfl) (And.intro (Or.inr rfl) (trivial))))) (fun q16 c17 => (pss_k (l_Table_init_f8f8_0 _ _) (dss_if (exA := fun (q25 : Unit) => [.ob [] [], .im a1, .im c17.2, .im c17.1]) (dt_cmp (od_in (hu65 C.rm)) (de_var 2) (de_sl (de_var 1) do_none (do_some (de_var 3))) (by rfl)) (dss_raise C T.x_Twice (de_var 2)) (dss_nil (a := ()) (And.intro (Or.inl rfl) (And.intro (Or.inl rfl) (And.intro (Or.inl rfl) (And.intro (Or.inl rfl) (trivial)))))) fun q25 => (dss_nil (a := ()) (And.intro (Or.inl rfl) (And.intro (Or.inl rfl) (And.intro (Or.inr rfl) (And.intro (Or.inr rfl) (trivial))))))))) fun q28 => (pss_k (l_Table_init_f8f8_2 _) (dss_if (exA := fun (q34 : Unit) => [.ob [] [], .im a1, .un, .un]) (dt_cmp (od_gt C.rm.units) (de_callB oc_len (by rfl) T.z_len rfl (da_cons (de_var 1) da_nil)) (de_globI (by rfl) T.c_MOST_ROWS) (by rfl)) (dss_raise C T.x_TooMany (de_globI (by rfl) T.c_MOST_ROWS)) (dss_nil (a := ()) (And.intro (Or.inl rfl) (And.intro (Or.inl rfl) (And.intro (Or.inr rfl) (And.intro (Or.inr rfl) (trivial)))))) fun q34 => (dss_fld (ns := []) (ds := []) (f := "rows") 0 (de_callTy oc_tuple (by rfl) T.z_tuple rfl (da_cons (de_var 1) da_nil)) (fun v36 => (pss_k (l_Table_init_f8f8_1 _ _) (dss_fld (ns := ["rows"]) (ds := [v36]) (f := "parsed") 0 (de_callTy oc_tuple (by rfl) T.z_tuple rfl (da_cons (de_frz (df_lc [("row", 2)] C (di_any (de_var 1)) (blkOk_by (N := N_Table_init) (sc := defScope s_Table_init) (by decide +kernel)) (fun s H A cl fp => (pgd_name (C.blk _ _ _ _ _) 2)) (fun s H A cl fp C42 c43 => pts_true) (fun s H A cl fp C42 c43 => (de_fn C42 (g_parsed_row T) T.m_parsed_row T.F_parsed_row.kp T.b_parsed_row (da_cons (de_var 2) da_nil) n_parsed_row_b892)) (by decide))) da_nil)) (fun v40 => (dss_nil (a := [v36, v40]) (And.intro (Or.inl rfl) (And.intro (Or.inr rfl) (And.intro (Or.inr rfl) (And.intro (Or.inr rfl) (trivial))))))) (hm := (by decide +kernel : ("parsed" : Str) ∈ (["rows", "parsed"] : List Str)))))) (hm := (by decide +kernel : ("rows" : Str) ∈ (["rows", "parsed"] : List Str))))))))), rfl⟩
theorem g__law_table (T : Txt K mg A) : FnG P w K mg base 5 A.a__law_table A.f__law_table ["_law_rows"] (spR K mg false 1 m__law_table_289a) := by
  refine fnR (nr := false) (k := 4) T.F__law_table sc__law_table rfl (by decide) (fun cdv Ar outer s H Hf E ds C hl => ?_)
  match ds, hl with
  | [a0], _ => exact ⟨b__law_table_289a a0, (dss_if (exA := fun (q6 : Unit) => [.im a0]) (dt_cmp (od_lt C.rm.units) (de_callB oc_len (by rfl) T.z_len rfl (da_cons (de_var 0) da_nil)) de_int (by rfl)) (pss_k (l__law_table_289a_0 _) (dss_ret (de_ifExp (dt_cmp (od_eq C.rm.units) (de_var 0) (de_frz (df_list da_nil)) (by rfl)) (de_make C T.C_Table T.na_Table T.M_Table (g_Table_init T) da_nil (fun _ _ => trivial)) (de_ifExp (dt_cmp (od_eq C.rm.units) (de_callB oc_len (by rfl) T.z_len rfl (da_cons (de_var 0) da_nil)) de_int (by rfl)) (de_make C T.C_Table T.na_Table T.M_Table (g_Table_init T) (da_cons (de_ix (de_var 0) de_int) da_nil) (fun _ _ => trivial)) (de_make C T.C_Table T.na_Table T.M_Table (g_Table_init T) (da_cons (de_ix (de_var 0) de_int) (da_cons (de_ix (de_var 0) de_int) da_nil)) (fun _ _ => trivial)))))) (dss_nil (a := ()) (And.intro (Or.inl rfl) (trivial))) fun q6 => (pss_k (l__law_table_289a_10 _) (dss_if (exA := fun (q39 : Unit) => [.im a0]) (dt_cmp (od_eq C.rm.units) (de_callB oc_len (by rfl) T.z_len rfl (da_cons (de_var 0) da_nil)) de_int (by rfl)) (pss_k (l__law_table_289a_1 _) (dss_ret (de_make C T.C_Table T.na_Table T.M_Table (g_Table_init T) (da_cons (de_ix (de_var 0) de_int) (da_cons (de_ix (de_var 0) de_int) (da_cons (de_ix (de_var 0) de_int) da_nil))) (fun _ _ => trivial)))) (dss_nil (a := ()) (And.intro (Or.inl rfl) (trivial))) fun q39 => (dss_if (exA := fun (q60 : Unit) => [.im a0]) (dt_cmp (od_eq C.rm.units) (de_callB oc_len (by rfl) T.z_len rfl (da_cons (de_var 0) da_nil)) de_int (by rfl)) (pss_k (l__law_table_289a_2 _) (dss_ret (de_make C T.C_Table T.na_Table T.M_Table (g_Table_init T) (da_cons (de_ix (de_var 0) de_int) (da_cons (de_ix (de_var 0) de_int) (da_cons (de_ix (de_var 0) de_int) (da_cons (de_ix (de_var 0) de_int) da_nil)))) (fun _ _ => trivial)))) (dss_nil (a := ()) (And.intro (Or.inl rfl) (trivial))) fun q60 => (pss_k (l__law_table_289a_9 _) (dss_if (exA := fun (q85 : Unit) => [.im a0]) (dt_cmp (od_eq C.rm.units) (de_callB oc_len (by rfl) T.z_len rfl (da_cons (de_var 0) da_nil)) de_int (by rfl)) (pss_k (l__law_table_289a_3 _) (dss_ret (de_make C T.C_Table T.na_Table T.M_Table (g_Table_init T) (da_cons (de_ix (de_var 0) de_int) (da_cons (de_ix (de_var 0) de_int) (da_cons (de_ix (de_var 0) de_int) (da_cons (de_ix (de_var 0) de_int) (da_cons (de_ix (de_var 0) de_int) da_nil))))) (fun _ _ => trivial)))) (dss_nil (a := ()) (And.intro (Or.inl rfl) (trivial))) fun q85 => (dss_if (exA := fun (q114 : Unit) => [.im a0]) (dt_cmp (od_eq C.rm.units) (de_callB oc_len (by rfl) T.z_len rfl (da_cons (de_var 0) da_nil)) de_int (by rfl)) (pss_k (l__law_table_289a_4 _) (dss_ret (de_make C T.C_Table T.na_Table T.M_Table (g_Table_init T) (da_cons (de_ix (de_var 0) de_int) (da_cons (de_ix (de_var 0) de_int) (da_cons (de_ix (de_var 0) de_int) (da_cons (de_ix (de_var 0) de_int) (da_cons (de_ix (de_var 0) de_int) (da_cons (de_ix (de_var 0) de_int) da_nil)))))) (fun _ _ => trivial)))) (dss_nil (a := ()) (And.intro (Or.inl rfl) (trivial))) fun q114 => (pss_k (l__law_table_289a_8 _) (dss_if (exA := fun (q147 : Unit) => [.im a0]) (dt_cmp (od_eq C.rm.units) (de_callB oc_len (by rfl) T.z_len rfl (da_cons (de_var 0) da_nil)) de_int (by rfl)) (pss_k (l__law_table_289a_5 _) (dss_ret (de_make C T.C_Table T.na_Table T.M_Table (g_Table_init T) (da_cons (de_ix (de_var 0) de_int) (da_cons (de_ix (de_var 0) de_int) (da_cons (de_ix (de_var 0) de_int) (da_cons (de_ix (de_var 0) de_int) (da_cons (de_ix (de_var 0) de_int) (da_cons (de_ix (de_var 0) de_int) (da_cons (de_ix (de_var 0) de_int) da_nil))))))) (fun _ _ => trivial)))) (dss_nil (a := ()) (And.intro (Or.inl rfl) (trivial))) fun q147 => (dss_if (exA := fun (q184 : Unit) => [.im a0]) (dt_cmp (od_eq C.rm.units) (de_callB oc_len (by rfl) T.z_len rfl (da_cons (de_var 0) da_nil)) de_int (by rfl)) (pss_k (l__law_table_289a_6 _) (dss_ret (de_make C T.C_Table T.na_Table T.M_Table (g_Table_init T) (da_cons (de_ix (de_var 0) de_int) (da_cons (de_ix (de_var 0) de_int) (da_cons (de_ix (de_var 0) de_int) (da_cons (de_ix (de_var 0) de_int) (da_cons (de_ix (de_var 0) de_int) (da_cons (de_ix (de_var 0) de_int) (da_cons (de_ix (de_var 0) de_int) (da_cons (de_ix (de_var 0) de_int) da_nil)))))))) (fun _ _ => trivial)))) (dss_nil (a := ()) (And.intro (Or.inl rfl) (trivial))) fun q184 => (pss_k (l__law_table_289a_7 _) (dss_ret (de_make C T.C_Table T.na_Table T.M_Table (g_Table_init T) (da_cons (de_ix (de_var 0) de_int) (da_cons (de_ix (de_var 0) de_int) (da_cons (de_ix (de_var 0) de_int) (da_cons (de_ix (de_var 0) de_int) (da_cons (de_ix (de_var 0) de_int) (da_cons (de_ix (de_var 0) de_int) (da_cons (de_ix (de_var 0) de_int) (da_cons (de_ix (de_var 0) de_int) (da_cons (de_ix (de_var 0) de_int) da_nil))))))))) (fun _ _ => trivial)))))))))))))), rfl⟩
theorem g_law (T : Txt K mg A) : FnG P w K mg base 6 A.a_law A.f_law ["_law_script"] (spR K mg false 1 m_law_7f41) := by
  refine fnR (nr := false) (k := 5) T.F_law sc_law rfl (by decide) (fun cdv Ar outer s H Hf E ds C hl => ?_)
  match ds, hl with
  | [a0], _ => exact ⟨b_law_7f41 a0, (dss_bagW C 1 0 (g__law_bag T) T.m__law_bag T.F__law_bag.kp T.b__law_bag (fun L3 C4 => (dss_asg C4 2 (de_fnM C4 1 (g__law_pool T) T.m__law_pool T.F__law_pool.kp T.b__law_pool (da_cons de_int da_nil) n__law_pool_b280) fun v5 => (pss_k (l_law_7f41_10 _) (dss_asgOw C4 3 (df_lc [("_law_k", 6)] C4 (di_range1 (by rfl) T.z_range (da_cons (de_op od_add de_int (de_fnM C4 1 (g__law_take T) T.m__law_take T.F__law_take.kp T.b__law_take (da_cons de_int da_nil) n__law_take_bb49)) da_nil)) (blkOk_by (N := N_law) (sc := defScope s_law) (by decide +kernel)) (fun s H A cl fp => (pgd_name (C4.blk _ _ _ _ _) 6)) (fun s H A cl fp C18 c19 => pts_true) (fun s H A cl fp C18 c19 => (de_fnM C18 1 (g__law_row T) T.m__law_row T.F__law_row.kp T.b__law_row (da_cons (de_var 2) da_nil) n__law_row_f25d)) (by decide)) fun v9 => (pss_k (l_law_7f41_9 _ _) (dss_if (exA := fun (q29 : List D) => [.im a0, .bg, .im v5, .ow q29, .un, .un, .un, .un, .un, .un, .un, .un]) (dt_cmp (od_eq C4.rm.units) (de_fnM C4 1 (g__law_take T) T.m__law_take T.F__law_take.kp T.b__law_take (da_cons de_int da_nil) n__law_take_bb49) de_int (by rfl)) (pss_k (l_law_7f41_0 _) (dss_asgOw C4 3 (df_lc [("_law_at", 11)] C4 (di_range1 (by rfl) T.z_range (da_cons (de_thaw 3 (de_callB oc_len (by rfl) T.z_len rfl (da_cons (de_var 3) da_nil))) da_nil)) (blkOk_by (N := N_law) (sc := defScope s_law) (by decide +kernel)) (fun s H A cl fp => (pgd_name (C4.blk _ _ _ _ _) 11)) (fun s H A cl fp C38 c39 => (pts_test (dt_thaw 3 (dt_cmp (od_notIn (hu65 C38.rm)) (de_ix (de_var 3) (de_var 11)) (de_sl (de_var 3) do_none (do_some (de_var 11))) (by rfl))))) (fun s H A cl fp C38 c39 => (de_owIx 3 (de_var 11))) (by decide)) fun v30 => (dss_nil (a := v30) (And.intro (Or.inl rfl) (And.intro (Or.inl rfl) (And.intro (Or.inl rfl) (And.intro (Or.inl rfl) (And.intro (Or.inr rfl) (And.intro (Or.inr rfl) (And.intro (Or.inr rfl) (And.intro (Or.inr rfl) (And.intro (Or.inr rfl) (And.intro (Or.inr rfl) (And.intro (Or.inr rfl) (And.intro (Or.inr rfl) (trivial)))))))))))))))) (dss_nil (a := v9) (And.intro (Or.inl rfl) (And.intro (Or.inl rfl) (And.intro (Or.inl rfl) (And.intro (Or.inl rfl) (And.intro (Or.inr rfl) (And.intro (Or.inr rfl) (And.intro (Or.inr rfl) (And.intro (Or.inr rfl) (And.intro (Or.inr rfl) (And.intro (Or.inr rfl) (And.intro (Or.inr rfl) (And.intro (Or.inr rfl) (trivial)))))))))))))) fun q29 => (dss_asg C4 4 (de_frz (df_listOw 3 (by rfl) T.z_list)) fun v52 => (dss_asgOw C4 5 (df_list da_nil) fun v53 => (pss_k (l_law_7f41_8 _ _ _ _) (dss_for (exl := fun (q61 : List D × List D) => [.im a0, .bg, .im v5, .ow q61.1, .im v52, .ow q61.2, .un, .un, .un, .un, .un, .un]) (q29, v53) C4 (di_range1 (by rfl) T.z_range (da_cons (de_fnM C4 1 (g__law_take T) T.m__law_take T.F__law_take.kp T.b__law_take (da_cons de_int da_nil) n__law_take_bb49) da_nil)) (pgd_name C4 6) (And.intro (Or.inl rfl) (And.intro (Or.inl rfl) (And.intro (Or.inl rfl) (And.intro (Or.inl rfl) (And.intro (Or.inl rfl) (And.intro (Or.inl rfl) (And.intro (Or.inr rfl) (And.intro (Or.inr rfl) (And.intro (Or.inr rfl) (And.intro (Or.inr rfl) (And.intro (Or.inr rfl) (And.intro (Or.inr rfl) (trivial))))))))))))) (fun q61 c62 => (pss_k (l_law_7f41_1 _ _) (dss_append 5 (de_fnM C4 1 (g__law_take T) T.m__law_take T.F__law_take.kp T.b__law_take (da_cons (de_thaw 3 (de_callB oc_len (by rfl) T.z_len rfl (da_cons (de_var 3) da_nil))) da_nil) n__law_take_bb49) fun v64 => (dss_setItem 3 (de_fnM C4 1 (g__law_odd T) T.m__law_odd T.F__law_odd.kp T.b__law_odd (da_cons (de_var 2) da_nil) n__law_odd_69a0) (de_owIx 5 (de_neg de_int)) fun v79 => (dss_nil (a := (v79, v64)) (And.intro (Or.inl rfl) (And.intro (Or.inl rfl) (And.intro (Or.inl rfl) (And.intro (Or.inl rfl) (And.intro (Or.inl rfl) (And.intro (Or.inl rfl) (And.intro (Or.inr rfl) (And.intro (Or.inr rfl) (And.intro (Or.inr rfl) (And.intro (Or.inr rfl) (And.intro (Or.inr rfl) (And.intro (Or.inr rfl) (trivial)))))))))))))))))) fun q80 => (dss_frz 3 rfl (dss_frz 5 rfl (dss_asg C4 7 (de_fn C4 (g__law_due T) T.m__law_due T.F__law_due.kp T.b__law_due (da_cons (de_var 3) (da_cons (de_var 5) da_nil)) n__law_due_22c8) fun v81 => (dss_parEE C4 9 10 de_non (de_frz (df_list da_nil)) fun v87 v88 => (pss_k (l_law_7f41_7 _ _ _ _) (dss_tryC (exA := fun (q90 : D × D) => [.im a0, .bg, .im v5, .im (.lst q80.1), .im v52, .im (.lst q80.2), .un, .im v81, .un, .im q90.1, .im q90.2, .un]) (G' := [.im a0, .bg, .im v5, .im (.lst q80.1), .im v52, .im (.lst q80.2), .un, .im v81, .un, .un, .im v88, .un]) (L := [("BadRow", "row"), ("TooMany", "limit"), ("Twice", "name")]) C4 rfl rfl (fun W pn xe B C91 => (dss_asg C91 9 (de_fn C91 (g__law_table T) T.m__law_table T.F__law_table.kp T.b__law_table (da_cons (de_var 3) da_nil) n__law_table_289a) fun v92 => (dss_nil (a := (v92, v88)) (And.intro (Or.inl rfl) (And.intro (Or.inl rfl) (And.intro (Or.inl rfl) (And.intro (Or.inl rfl) (And.intro (Or.inl rfl) (And.intro (Or.inl rfl) (And.intro (Or.inr rfl) (And.intro (Or.inl rfl) (And.intro (Or.inr rfl) (And.intro (Or.inl rfl) (And.intro (Or.inl rfl) (And.intro (Or.inr rfl) (trivial)))))))))))))))) (.named (f0 := "row") 8 T.k_BadRow (by decide) T.x_BadRow.gC (fun _ => rfl) (fun _ => by first | rfl | contradiction) rfl rfl rfl (by decide) (fun _ _ _ e96 _ hz hf hk => (pss_k (l_law_7f41_2 _) (dss_parEEH (hot_suite (hk (cool_none T.z_BadRule)) hf) (by exact C4.nd) 9 10 (de_tup (da_cons (de_str [114, 111, 119]) (da_cons (de_exf T.x_BadRow hz hf 8) da_nil))) (de_frz (df_list (da_cons (de_isiX T.e_BadRow hz hf 8 T.ki_BadRow_ValueError (by rfl) T.z_isinstance (by rfl) T.z_ValueError rfl) (da_cons (de_not (de_isiX2 T.e_BadRow hz hf 8 T.ko_BadRow_Twice T.ko_BadRow_TooMany T.x_Twice.gC T.x_TooMany.gC (by rfl) T.z_isinstance (by rfl) (by rfl))) da_nil)))) fun v97 v98 => (dss_nil (a := (v97, v98)) (And.intro (Or.inl rfl) (And.intro (Or.inl rfl) (And.intro (Or.inl rfl) (And.intro (Or.inl rfl) (And.intro (Or.inl rfl) (And.intro (Or.inl rfl) (And.intro (Or.inr rfl) (And.intro (Or.inl rfl) (And.intro (Or.inr rfl) (And.intro (Or.inl rfl) (And.intro (Or.inl rfl) (And.intro (Or.inr rfl) (trivial))))))))))))))))) (.named (f0 := "name") 8 T.k_Twice (by decide) T.x_Twice.gC (fun _ => rfl) (fun _ => by first | rfl | contradiction) rfl rfl rfl (by decide) (fun _ _ _ e110 _ hz hf hk => (pss_k (l_law_7f41_3 _) (dss_parEEH (hot_suite (hk (cool_none T.z_BadRule)) hf) (by exact C4.nd) 9 10 (de_tup (da_cons (de_str [116, 119, 105, 99, 101]) (da_cons (de_exf T.x_Twice hz hf 8) da_nil))) (de_frz (df_list (da_cons (de_isiX T.e_Twice hz hf 8 T.ki_Twice_ValueError (by rfl) T.z_isinstance (by rfl) T.z_ValueError rfl) (da_cons (de_not (de_isiX2 T.e_Twice hz hf 8 T.ko_Twice_BadRow T.ko_Twice_TooMany T.x_BadRow.gC T.x_TooMany.gC (by rfl) T.z_isinstance (by rfl) (by rfl))) da_nil)))) fun v111 v112 => (dss_nil (a := (v111, v112)) (And.intro (Or.inl rfl) (And.intro (Or.inl rfl) (And.intro (Or.inl rfl) (And.intro (Or.inl rfl) (And.intro (Or.inl rfl) (And.intro (Or.inl rfl) (And.intro (Or.inr rfl) (And.intro (Or.inl rfl) (And.intro (Or.inr rfl) (And.intro (Or.inl rfl) (And.intro (Or.inl rfl) (And.intro (Or.inr rfl) (trivial))))))))))))))))) (.named (f0 := "limit") 8 T.k_TooMany (by decide) T.x_TooMany.gC (fun _ => rfl) (fun _ => by first | rfl | contradiction) rfl rfl rfl (by decide) (fun _ _ _ e124 _ hz hf hk => (pss_k (l_law_7f41_4 _) (dss_parEEH (hot_suite (hk (cool_none T.z_BadRule)) hf) (by exact C4.nd) 9 10 (de_tup (da_cons (de_str [109, 97, 110, 121]) (da_cons (de_exf T.x_TooMany hz hf 8) da_nil))) (de_frz (df_list (da_cons (de_isiX T.e_TooMany hz hf 8 T.ki_TooMany_OverflowError (by rfl) T.z_isinstance (by rfl) T.z_OverflowError rfl) (da_cons (de_not (de_isiX2 T.e_TooMany hz hf 8 T.ko_TooMany_BadRow T.ko_TooMany_Twice T.x_BadRow.gC T.x_Twice.gC (by rfl) T.z_isinstance (by rfl) (by rfl))) da_nil)))) fun v125 v126 => (dss_nil (a := (v125, v126)) (And.intro (Or.inl rfl) (And.intro (Or.inl rfl) (And.intro (Or.inl rfl) (And.intro (Or.inl rfl) (And.intro (Or.inl rfl) (And.intro (Or.inl rfl) (And.intro (Or.inr rfl) (And.intro (Or.inl rfl) (And.intro (Or.inr rfl) (And.intro (Or.inl rfl) (And.intro (Or.inl rfl) (And.intro (Or.inr rfl) (trivial))))))))))))))))) .nil))) fun q90 => (pss_k (l_law_7f41_6 _ _ _) (dss_if (exA := fun (q140 : Unit) => [.im a0, .bg, .im v5, .im (.lst q80.1), .im v52, .im (.lst q80.2), .un, .im v81, .un, .im q90.1, .im q90.2, .un]) (dt_cmp od_is (de_var 7) de_non (by rfl)) (dss_ret (de_and (de_isT (.own _) T.is_Table (de_var 9) (pe_own T.C_Table.mg) (by rfl) T.z_isinstance) (de_one (de_cmp (od_eq C4.rm.units) (de_fld ["Table"] (de_var 9) (fo_rows T)) (de_callTy oc_tuple (by rfl) T.z_tuple rfl (da_cons (de_var 4) da_nil)) (by rfl))))) (dss_nil (a := ()) (And.intro (Or.inl rfl) (And.intro (Or.inl rfl) (And.intro (Or.inl rfl) (And.intro (Or.inl rfl) (And.intro (Or.inl rfl) (And.intro (Or.inl rfl) (And.intro (Or.inr rfl) (And.intro (Or.inl rfl) (And.intro (Or.inr rfl) (And.intro (Or.inl rfl) (And.intro (Or.inl rfl) (And.intro (Or.inr rfl) (trivial)))))))))))))) fun q140 => (pss_k (l_law_7f41_5 _ _) (dss_if (exA := fun (q167 : Unit) => [.im a0, .bg, .im v5, .im (.lst q80.1), .im v52, .im (.lst q80.2), .un, .im v81, .un, .im q90.1, .im q90.2, .un]) (dw_or (dt_not (dt_tru (de_isi "tuple" (de_var 9) (by rfl) T.z_isinstance (by rfl) T.z_tuple rfl))) (dw_or (dt_cmp (od_ne C4.rm.units) (de_ix (de_var 9) de_int) (de_ix (de_var 7) de_int) (by rfl)) (dw_or1 (dt_not (dt_tru (de_fn C4 (g__law_same T) T.m__law_same T.F__law_same.kp T.b__law_same (da_cons (de_ix (de_var 9) de_int) (da_cons (de_ix (de_var 7) de_int) da_nil)) n__law_same_9288)))))).pt (dss_ret de_bl) (dss_nil (a := ()) (And.intro (Or.inl rfl) (And.intro (Or.inl rfl) (And.intro (Or.inl rfl) (And.intro (Or.inl rfl) (And.intro (Or.inl rfl) (And.intro (Or.inl rfl) (And.intro (Or.inr rfl) (And.intro (Or.inl rfl) (And.intro (Or.inr rfl) (And.intro (Or.inl rfl) (And.intro (Or.inl rfl) (And.intro (Or.inr rfl) (trivial)))))))))))))) fun q167 => (dss_ret (de_cmp (od_eq C4.rm.units) (de_var 10) (de_frz (df_list (da_cons de_bl (da_cons de_bl da_nil)))) (by rfl))))))))))))))))))))))) (fun _ => rfl) (fun _ => by first | rfl | contradiction)), rfl⟩
end
theorem all_mk {l : PySem.W.OpenLaw} {w : World} {K : PySem.W.Frag} {h : Heap} {mg : Str → Option Value} {fa : Addr} (X : K.In h) (G : h.Ns mainGlobals mg) (hfa : mg "law" = some (.ref fa))
    {od0 an0 : Option Addr} {sl0 : Array (Option Value)} {oc0 kV0 dc0 pm0 cd0 ct0 : Value} {f0 : Addr}
    {od1 an1 : Option Addr} {sl1 : Array (Option Value)} {oc1 kV1 dc1 pm1 cd1 ct1 : Value} {f1 : Addr}
    {od2 an2 : Option Addr} {sl2 : Array (Option Value)} {oc2 kV2 dc2 pm2 cd2 ct2 : Value} {f2 : Addr}
    {od3 an3 : Option Addr} {sl3 : Array (Option Value)} {oc3 kV3 dc3 pm3 cd3 ct3 : Value} {f3 : Addr}
    {od4 an4 : Option Addr} {sl4 : Array (Option Value)} {oc4 kV4 dc4 pm4 cd4 ct4 : Value} {f4 : Addr}
    {od5 an5 : Option Addr} {sl5 : Array (Option Value)} {oc5 kV5 dc5 pm5 cd5 ct5 : Value} {f5 : Addr}
    {od6 an6 : Option Addr} {sl6 : Array (Option Value)} {oc6 kV6 dc6 pm6 cd6 ct6 : Value} {f6 : Addr}
    {od7 an7 : Option Addr} {sl7 : Array (Option Value)} {oc7 kV7 dc7 pm7 cd7 ct7 : Value} {f7 : Addr}
    {od8 an8 : Option Addr} {sl8 : Array (Option Value)} {oc8 kV8 dc8 pm8 cd8 ct8 : Value} {f8 : Addr}
    {od9 an9 : Option Addr} {sl9 : Array (Option Value)} {oc9 kV9 dc9 pm9 cd9 ct9 : Value} {f9 : Addr}
    {od10 an10 : Option Addr} {sl10 : Array (Option Value)} {oc10 kV10 dc10 pm10 cd10 ct10 : Value} {f10 : Addr}
    {od11 an11 : Option Addr} {sl11 : Array (Option Value)} {oc11 kV11 dc11 pm11 cd11 ct11 : Value} {f11 : Addr}
    {od12 an12 : Option Addr} {sl12 : Array (Option Value)} {oc12 kV12 dc12 pm12 cd12 ct12 : Value} {f12 : Addr}
    {od13 an13 : Option Addr} {sl13 : Array (Option Value)} {oc13 kV13 dc13 pm13 cd13 ct13 : Value} {f13 : Addr}
    {K_Table : Addr} (aC_Table : PySem.W.nsIn K mainGlobals "Table" = some (some (.ref K_Table))) (pg_Table : PySem.W.plainGet K K_Table Str.empty = true) (hd_Table : PySem.W.hasDictIn K K_Table = true) (po_Table : PySem.W.plainOver K K_Table = true) (sa_Table : PySem.W.findIn K (.ref K_Table) "__setattr__" = some (some (.builtin "object.__setattr__")))
    (ca_Table : PySem.W.findIn K (.ref K_Table) "__class__" = some (some (.builtin "object.__class__"))) (cn_Table : PySem.W.specialIn K (.builtin "object.__class__") "__get__" = some (some (.builtin "getset_descriptor.__get__"))) (ct_Table : PySem.W.takesIn K (.builtin "object.__class__") = some true) (cm_Table : PySem.W.mroIn K K_Table (.type "object") = some true)
    (nf_Table_rows : PySem.W.findIn K (.ref K_Table) "rows" = some none)
    (nf_Table_parsed : PySem.W.findIn K (.ref K_Table) "parsed" = some none)
    (mk_Table : PySem.W.makesIn K K_Table = true) (kc_Table : PySem.W.keepIn K (.ref K_Table) = true) (ai_Table : PySem.W.findIn K (.ref K_Table) "__init__" = some (some (.ref f11))) (fi_Table : PySem.W.isFn K (.ref f11) = true)
    (ic_Table : PySem.W.isClsIn K K_Table = true) (tc_Table : PySem.W.typeIn K (.ref K_Table) = some (.type "type"))
    (sC_Table_Table : PySem.W.subIn K (.ref K_Table) (.ref K_Table) = some true)
    (sb_Table_NoneType : PySem.W.subIn K (.type "NoneType") (.ref K_Table) = some false)
    (sb_Table_bool : PySem.W.subIn K (.type "bool") (.ref K_Table) = some false)
    (sb_Table_int : PySem.W.subIn K (.type "int") (.ref K_Table) = some false)
    (sb_Table_str : PySem.W.subIn K (.type "str") (.ref K_Table) = some false)
    (sb_Table_tuple : PySem.W.subIn K (.type "tuple") (.ref K_Table) = some false)
    (sb_Table_list : PySem.W.subIn K (.type "list") (.ref K_Table) = some false)
    (sb_Table_dict : PySem.W.subIn K (.type "dict") (.ref K_Table) = some false)
    (a0 : PySem.W.nsIn K mainGlobals "is_label" = some (some (.ref f0)))
    (l0 : K.lookup f0 = some ⟨oc0, od0, .func (PySem.W.fnOf "is_label" "is_label" (defArgs s_is_label) (defBody s_is_label) (defScope s_is_label) .none kV0 dc0 pm0 an0 cd0 ct0), sl0⟩) (c0 : PySem.W.codeIn K cd0 "is_label" = true) (k0 : PySem.W.keepIn K (.ref f0) = true)
    (a1 : PySem.W.nsIn K mainGlobals "_law_bag" = some (some (.ref f1)))
    (l1 : K.lookup f1 = some ⟨oc1, od1, .func (PySem.W.fnOf "_law_bag" "_law_bag" (defArgs s__law_bag) (defBody s__law_bag) (defScope s__law_bag) .none kV1 dc1 pm1 an1 cd1 ct1), sl1⟩) (c1 : PySem.W.codeIn K cd1 "_law_bag" = true) (k1 : PySem.W.keepIn K (.ref f1) = true)
    (a2 : PySem.W.nsIn K mainGlobals "_law_take" = some (some (.ref f2)))
    (l2 : K.lookup f2 = some ⟨oc2, od2, .func (PySem.W.fnOf "_law_take" "_law_take" (defArgs s__law_take) (defBody s__law_take) (defScope s__law_take) .none kV2 dc2 pm2 an2 cd2 ct2), sl2⟩) (c2 : PySem.W.codeIn K cd2 "_law_take" = true) (k2 : PySem.W.keepIn K (.ref f2) = true)
    (a3 : PySem.W.nsIn K mainGlobals "_law_due" = some (some (.ref f3)))
    (l3 : K.lookup f3 = some ⟨oc3, od3, .func (PySem.W.fnOf "_law_due" "_law_due" (defArgs s__law_due) (defBody s__law_due) (defScope s__law_due) .none kV3 dc3 pm3 an3 cd3 ct3), sl3⟩) (c3 : PySem.W.codeIn K cd3 "_law_due" = true) (k3 : PySem.W.keepIn K (.ref f3) = true)
    (a4 : PySem.W.nsIn K mainGlobals "_law_same" = some (some (.ref f4)))
    (l4 : K.lookup f4 = some ⟨oc4, od4, .func (PySem.W.fnOf "_law_same" "_law_same" (defArgs s__law_same) (defBody s__law_same) (defScope s__law_same) .none kV4 dc4 pm4 an4 cd4 ct4), sl4⟩) (c4 : PySem.W.codeIn K cd4 "_law_same" = true) (k4 : PySem.W.keepIn K (.ref f4) = true)
    (a5 : PySem.W.nsIn K mainGlobals "parsed_row" = some (some (.ref f5)))
    (l5 : K.lookup f5 = some ⟨oc5, od5, .func (PySem.W.fnOf "parsed_row" "parsed_row" (defArgs s_parsed_row) (defBody s_parsed_row) (defScope s_parsed_row) .none kV5 dc5 pm5 an5 cd5 ct5), sl5⟩) (c5 : PySem.W.codeIn K cd5 "parsed_row" = true) (k5 : PySem.W.keepIn K (.ref f5) = true)
    (a6 : PySem.W.nsIn K mainGlobals "_law_of" = some (some (.ref f6)))
    (l6 : K.lookup f6 = some ⟨oc6, od6, .func (PySem.W.fnOf "_law_of" "_law_of" (defArgs s__law_of) (defBody s__law_of) (defScope s__law_of) .none kV6 dc6 pm6 an6 cd6 ct6), sl6⟩) (c6 : PySem.W.codeIn K cd6 "_law_of" = true) (k6 : PySem.W.keepIn K (.ref f6) = true)
    (a7 : PySem.W.nsIn K mainGlobals "_law_label" = some (some (.ref f7)))
    (l7 : K.lookup f7 = some ⟨oc7, od7, .func (PySem.W.fnOf "_law_label" "_law_label" (defArgs s__law_label) (defBody s__law_label) (defScope s__law_label) .none kV7 dc7 pm7 an7 cd7 ct7), sl7⟩) (c7 : PySem.W.codeIn K cd7 "_law_label" = true) (k7 : PySem.W.keepIn K (.ref f7) = true)
    (a8 : PySem.W.nsIn K mainGlobals "_law_pool" = some (some (.ref f8)))
    (l8 : K.lookup f8 = some ⟨oc8, od8, .func (PySem.W.fnOf "_law_pool" "_law_pool" (defArgs s__law_pool) (defBody s__law_pool) (defScope s__law_pool) .none kV8 dc8 pm8 an8 cd8 ct8), sl8⟩) (c8 : PySem.W.codeIn K cd8 "_law_pool" = true) (k8 : PySem.W.keepIn K (.ref f8) = true)
    (a9 : PySem.W.nsIn K mainGlobals "_law_row" = some (some (.ref f9)))
    (l9 : K.lookup f9 = some ⟨oc9, od9, .func (PySem.W.fnOf "_law_row" "_law_row" (defArgs s__law_row) (defBody s__law_row) (defScope s__law_row) .none kV9 dc9 pm9 an9 cd9 ct9), sl9⟩) (c9 : PySem.W.codeIn K cd9 "_law_row" = true) (k9 : PySem.W.keepIn K (.ref f9) = true)
    (a10 : PySem.W.nsIn K mainGlobals "_law_odd" = some (some (.ref f10)))
    (l10 : K.lookup f10 = some ⟨oc10, od10, .func (PySem.W.fnOf "_law_odd" "_law_odd" (defArgs s__law_odd) (defBody s__law_odd) (defScope s__law_odd) .none kV10 dc10 pm10 an10 cd10 ct10), sl10⟩) (c10 : PySem.W.codeIn K cd10 "_law_odd" = true) (k10 : PySem.W.keepIn K (.ref f10) = true)
    (l11 : K.lookup f11 = some ⟨oc11, od11, .func (PySem.W.fnOf "__init__" "Table.__init__" (defArgs s_Table_init) (defBody s_Table_init) (defScope s_Table_init) .none kV11 dc11 pm11 an11 cd11 ct11), sl11⟩) (c11 : PySem.W.codeIn K cd11 "Table.__init__" = true) (k11 : PySem.W.keepIn K (.ref f11) = true)
    (a12 : PySem.W.nsIn K mainGlobals "_law_table" = some (some (.ref f12)))
    (l12 : K.lookup f12 = some ⟨oc12, od12, .func (PySem.W.fnOf "_law_table" "_law_table" (defArgs s__law_table) (defBody s__law_table) (defScope s__law_table) .none kV12 dc12 pm12 an12 cd12 ct12), sl12⟩) (c12 : PySem.W.codeIn K cd12 "_law_table" = true) (k12 : PySem.W.keepIn K (.ref f12) = true)
    (a13 : PySem.W.nsIn K mainGlobals "law" = some (some (.ref f13)))
    (l13 : K.lookup f13 = some ⟨oc13, od13, .func (PySem.W.fnOf "law" "law" (defArgs s_law) (defBody s_law) (defScope s_law) .none kV13 dc13 pm13 an13 cd13 ct13), sl13⟩) (c13 : PySem.W.codeIn K cd13 "law" = true) (k13 : PySem.W.keepIn K (.ref f13) = true)
    {Cx_BadRow fx_BadRow : Addr} {odx_BadRow anx_BadRow : Option Addr} {slx_BadRow : Array (Option Value)} {ocx_BadRow dcx_BadRow pmx_BadRow cdx_BadRow ctx_BadRow : Value}
    (aC_BadRow : PySem.W.nsIn K mainGlobals "BadRow" = some (some (.ref Cx_BadRow))) (xL_BadRow : ∃ (b : PySem.OwnX.XB) (nm q : Str) (N : Addr) (bs bm : List Value) (sn : List Str) (sub : List Value) (ab : Bool) (col : Option Bool) (dd : Option Addr) (k0 k1 k2 k3 k5 : Option Value), K.lookup Cx_BadRow = some (excClassObj nm q Cx_BadRow N bs bm true sn sub ab col dd k0 k1 k2 k3 k5 b.nw) ∧ PySem.OwnX.overB b bm = true)
    (sa_BadRow : PySem.W.findIn K (.ref Cx_BadRow) "__setattr__" = some (some (.builtin "object.__setattr__"))) (ga_BadRow : PySem.W.findIn K (.ref Cx_BadRow) "__getattribute__" = some (some (.builtin "BaseException.__getattribute__"))) (gg_BadRow : PySem.W.findIn K (.ref Cx_BadRow) "__getattr__" = some none) (nb_BadRow : PySem.W.findIn K (.ref Cx_BadRow) "row" = some none)
    (ai_BadRow : PySem.W.findIn K (.ref Cx_BadRow) "__init__" = some (some (.ref fx_BadRow))) (ti_BadRow : PySem.W.typeIn K (.ref fx_BadRow) = some (.type "function"))
    (li_BadRow : K.lookup fx_BadRow = some ⟨ocx_BadRow, odx_BadRow, .func (PySem.W.fnOf "__init__" "BadRow.__init__" (PySem.OwnX.iA "row" ⟨7, 17, 7, 21⟩ ⟨7, 23, 7, 26⟩) (PySem.OwnX.iB "row" ⟨8, 8, 8, 12⟩ ⟨8, 8, 8, 16⟩ ⟨8, 19, 8, 22⟩ ⟨8, 8, 8, 22⟩) (PySem.OwnX.iS "row") .none .none dcx_BadRow pmx_BadRow anx_BadRow cdx_BadRow ctx_BadRow), slx_BadRow⟩) (ci_BadRow : PySem.W.codeIn K cdx_BadRow "BadRow.__init__" = true)
    (kC_BadRow : PySem.W.keepIn K (.ref Cx_BadRow) = true) (eC_BadRow : PySem.W.subIn K (.ref Cx_BadRow) (.type "BaseException") = some true) (tC_BadRow : PySem.W.typeIn K (.ref Cx_BadRow) = some (.type "type")) (hC_BadRow : PySem.W.hasDictIn K Cx_BadRow = true) (iC_BadRow : PySem.W.isClsIn K Cx_BadRow = true) (sC_BadRow : PySem.W.subIn K (.ref Cx_BadRow) (.ref Cx_BadRow) = some true)
    {Cx_TooMany fx_TooMany : Addr} {odx_TooMany anx_TooMany : Option Addr} {slx_TooMany : Array (Option Value)} {ocx_TooMany dcx_TooMany pmx_TooMany cdx_TooMany ctx_TooMany : Value}
    (aC_TooMany : PySem.W.nsIn K mainGlobals "TooMany" = some (some (.ref Cx_TooMany))) (xL_TooMany : ∃ (b : PySem.OwnX.XB) (nm q : Str) (N : Addr) (bs bm : List Value) (sn : List Str) (sub : List Value) (ab : Bool) (col : Option Bool) (dd : Option Addr) (k0 k1 k2 k3 k5 : Option Value), K.lookup Cx_TooMany = some (excClassObj nm q Cx_TooMany N bs bm true sn sub ab col dd k0 k1 k2 k3 k5 b.nw) ∧ PySem.OwnX.overB b bm = true)
    (sa_TooMany : PySem.W.findIn K (.ref Cx_TooMany) "__setattr__" = some (some (.builtin "object.__setattr__"))) (ga_TooMany : PySem.W.findIn K (.ref Cx_TooMany) "__getattribute__" = some (some (.builtin "BaseException.__getattribute__"))) (gg_TooMany : PySem.W.findIn K (.ref Cx_TooMany) "__getattr__" = some none) (nb_TooMany : PySem.W.findIn K (.ref Cx_TooMany) "limit" = some none)
    (ai_TooMany : PySem.W.findIn K (.ref Cx_TooMany) "__init__" = some (some (.ref fx_TooMany))) (ti_TooMany : PySem.W.typeIn K (.ref fx_TooMany) = some (.type "function"))
    (li_TooMany : K.lookup fx_TooMany = some ⟨ocx_TooMany, odx_TooMany, .func (PySem.W.fnOf "__init__" "TooMany.__init__" (PySem.OwnX.iA "limit" ⟨15, 17, 15, 21⟩ ⟨15, 23, 15, 28⟩) (PySem.OwnX.iB "limit" ⟨16, 8, 16, 12⟩ ⟨16, 8, 16, 18⟩ ⟨16, 21, 16, 26⟩ ⟨16, 8, 16, 26⟩) (PySem.OwnX.iS "limit") .none .none dcx_TooMany pmx_TooMany anx_TooMany cdx_TooMany ctx_TooMany), slx_TooMany⟩) (ci_TooMany : PySem.W.codeIn K cdx_TooMany "TooMany.__init__" = true)
    (kC_TooMany : PySem.W.keepIn K (.ref Cx_TooMany) = true) (eC_TooMany : PySem.W.subIn K (.ref Cx_TooMany) (.type "BaseException") = some true) (tC_TooMany : PySem.W.typeIn K (.ref Cx_TooMany) = some (.type "type")) (hC_TooMany : PySem.W.hasDictIn K Cx_TooMany = true) (iC_TooMany : PySem.W.isClsIn K Cx_TooMany = true) (sC_TooMany : PySem.W.subIn K (.ref Cx_TooMany) (.ref Cx_TooMany) = some true)
    {Cx_Twice fx_Twice : Addr} {odx_Twice anx_Twice : Option Addr} {slx_Twice : Array (Option Value)} {ocx_Twice dcx_Twice pmx_Twice cdx_Twice ctx_Twice : Value}
    (aC_Twice : PySem.W.nsIn K mainGlobals "Twice" = some (some (.ref Cx_Twice))) (xL_Twice : ∃ (b : PySem.OwnX.XB) (nm q : Str) (N : Addr) (bs bm : List Value) (sn : List Str) (sub : List Value) (ab : Bool) (col : Option Bool) (dd : Option Addr) (k0 k1 k2 k3 k5 : Option Value), K.lookup Cx_Twice = some (excClassObj nm q Cx_Twice N bs bm true sn sub ab col dd k0 k1 k2 k3 k5 b.nw) ∧ PySem.OwnX.overB b bm = true)
    (sa_Twice : PySem.W.findIn K (.ref Cx_Twice) "__setattr__" = some (some (.builtin "object.__setattr__"))) (ga_Twice : PySem.W.findIn K (.ref Cx_Twice) "__getattribute__" = some (some (.builtin "BaseException.__getattribute__"))) (gg_Twice : PySem.W.findIn K (.ref Cx_Twice) "__getattr__" = some none) (nb_Twice : PySem.W.findIn K (.ref Cx_Twice) "name" = some none)
    (ai_Twice : PySem.W.findIn K (.ref Cx_Twice) "__init__" = some (some (.ref fx_Twice))) (ti_Twice : PySem.W.typeIn K (.ref fx_Twice) = some (.type "function"))
    (li_Twice : K.lookup fx_Twice = some ⟨ocx_Twice, odx_Twice, .func (PySem.W.fnOf "__init__" "Twice.__init__" (PySem.OwnX.iA "name" ⟨11, 17, 11, 21⟩ ⟨11, 23, 11, 27⟩) (PySem.OwnX.iB "name" ⟨12, 8, 12, 12⟩ ⟨12, 8, 12, 17⟩ ⟨12, 20, 12, 24⟩ ⟨12, 8, 12, 24⟩) (PySem.OwnX.iS "name") .none .none dcx_Twice pmx_Twice anx_Twice cdx_Twice ctx_Twice), slx_Twice⟩) (ci_Twice : PySem.W.codeIn K cdx_Twice "Twice.__init__" = true)
    (kC_Twice : PySem.W.keepIn K (.ref Cx_Twice) = true) (eC_Twice : PySem.W.subIn K (.ref Cx_Twice) (.type "BaseException") = some true) (tC_Twice : PySem.W.typeIn K (.ref Cx_Twice) = some (.type "type")) (hC_Twice : PySem.W.hasDictIn K Cx_Twice = true) (iC_Twice : PySem.W.isClsIn K Cx_Twice = true) (sC_Twice : PySem.W.subIn K (.ref Cx_Twice) (.ref Cx_Twice) = some true)
    (ea_BadRow : PySem.W.findIn K (.ref Cx_BadRow) "__class__" = some (some (.builtin "object.__class__"))) (en_BadRow : PySem.W.specialIn K (.builtin "object.__class__") "__get__" = some (some (.builtin "getset_descriptor.__get__"))) (et_BadRow : PySem.W.takesIn K (.builtin "object.__class__") = some true) (em_BadRow : PySem.W.mroIn K Cx_BadRow (.type "object") = some true)
    (ea_TooMany : PySem.W.findIn K (.ref Cx_TooMany) "__class__" = some (some (.builtin "object.__class__"))) (en_TooMany : PySem.W.specialIn K (.builtin "object.__class__") "__get__" = some (some (.builtin "getset_descriptor.__get__"))) (et_TooMany : PySem.W.takesIn K (.builtin "object.__class__") = some true) (em_TooMany : PySem.W.mroIn K Cx_TooMany (.type "object") = some true)
    (ea_Twice : PySem.W.findIn K (.ref Cx_Twice) "__class__" = some (some (.builtin "object.__class__"))) (en_Twice : PySem.W.specialIn K (.builtin "object.__class__") "__get__" = some (some (.builtin "getset_descriptor.__get__"))) (et_Twice : PySem.W.takesIn K (.builtin "object.__class__") = some true) (em_Twice : PySem.W.mroIn K Cx_Twice (.type "object") = some true)
    (ki_BadRow_ValueError : PySem.W.subIn K (.ref Cx_BadRow) (.type "ValueError") = some true)
    (ki_TooMany_OverflowError : PySem.W.subIn K (.ref Cx_TooMany) (.type "OverflowError") = some true)
    (ki_Twice_ValueError : PySem.W.subIn K (.ref Cx_Twice) (.type "ValueError") = some true)
    (kn_BadRow_BadRow : PySem.W.subIn K (.ref Cx_BadRow) (.ref Cx_BadRow) = some true)
    (kn_TooMany_BadRow : PySem.W.subIn K (.ref Cx_TooMany) (.ref Cx_BadRow) = some false)
    (kn_Twice_BadRow : PySem.W.subIn K (.ref Cx_Twice) (.ref Cx_BadRow) = some false)
    (kn_BadRow_TooMany : PySem.W.subIn K (.ref Cx_BadRow) (.ref Cx_TooMany) = some false)
    (kn_TooMany_TooMany : PySem.W.subIn K (.ref Cx_TooMany) (.ref Cx_TooMany) = some true)
    (kn_Twice_TooMany : PySem.W.subIn K (.ref Cx_Twice) (.ref Cx_TooMany) = some false)
    (kn_BadRow_Twice : PySem.W.subIn K (.ref Cx_BadRow) (.ref Cx_Twice) = some false)
    (kn_TooMany_Twice : PySem.W.subIn K (.ref Cx_TooMany) (.ref Cx_Twice) = some false)
    (kn_Twice_Twice : PySem.W.subIn K (.ref Cx_Twice) (.ref Cx_Twice) = some true)
    (z_BadRule : PySem.W.nsIn K mainGlobals "BadRule" = some none)
    (z_OverflowError : PySem.W.nsIn K mainGlobals "OverflowError" = some none)
    (z_ValueError : PySem.W.nsIn K mainGlobals "ValueError" = some none)
    (z_abs : PySem.W.nsIn K mainGlobals "abs" = some none)
    (z_bool : PySem.W.nsIn K mainGlobals "bool" = some none)
    (z_enumerate : PySem.W.nsIn K mainGlobals "enumerate" = some none)
    (z_int : PySem.W.nsIn K mainGlobals "int" = some none)
    (z_isinstance : PySem.W.nsIn K mainGlobals "isinstance" = some none)
    (z_len : PySem.W.nsIn K mainGlobals "len" = some none)
    (z_list : PySem.W.nsIn K mainGlobals "list" = some none)
    (z_min : PySem.W.nsIn K mainGlobals "min" = some none)
    (z_range : PySem.W.nsIn K mainGlobals "range" = some none)
    (z_str : PySem.W.nsIn K mainGlobals "str" = some none)
    (z_tuple : PySem.W.nsIn K mainGlobals "tuple" = some none)
    {t_CHARACTERS : Tok} (g_CHARACTERS : PySem.W.nsIn K mainGlobals "CHARACTERS" = some (some (.str "0123456789abcdefghijklmnopqrstuvwxyz" t_CHARACTERS)))
    {t_EXCEPTION : Tok} (g_EXCEPTION : PySem.W.nsIn K mainGlobals "EXCEPTION" = some (some (.str "exception" t_EXCEPTION)))
    {t_LONGEST_LABEL : Tok} (g_LONGEST_LABEL : PySem.W.nsIn K mainGlobals "LONGEST_LABEL" = some (some (.int 20 t_LONGEST_LABEL)))
    {t_MOST_LABELS_OF_ROW : Tok} (g_MOST_LABELS_OF_ROW : PySem.W.nsIn K mainGlobals "MOST_LABELS_OF_ROW" = some (some (.int 3 t_MOST_LABELS_OF_ROW)))
    {t_MOST_ROWS : Tok} (g_MOST_ROWS : PySem.W.nsIn K mainGlobals "MOST_ROWS" = some (some (.int 8 t_MOST_ROWS)))
    {t_PLAIN : Tok} (g_PLAIN : PySem.W.nsIn K mainGlobals "PLAIN" = some (some (.str "plain" t_PLAIN)))
    {t_WILD : Tok} (g_WILD : PySem.W.nsIn K mainGlobals "WILD" = some (some (.str "open" t_WILD)))
    : ∃ fd : FuncData, (∀ (s : Shared) (v : Value), BindsTo s fd ⟨[v], []⟩ [("_law_script", v)]) ∧ ∀ base : Heap, K.In base → base.Ns mainGlobals mg → FnG l.prog w K mg base 6 fa fd ["_law_script"] (spR K mg false 1 m_law_7f41) := by
  have e := hfa.symm.trans (PySem.W.mg_of X G a13)
  cases e
  have F0 := fun_mk (st := s_is_label) l0 c0 k0
  have b0 := F0.binds (ps := ["thing"]) fun _ _ _ _ _ _ us hl => match us, hl with | [_], _ => rfl
  have F1 := fun_mk (st := s__law_bag) l1 c1 k1
  have b1 := F1.binds (ps := ["_law_script"]) fun _ _ _ _ _ _ us hl => match us, hl with | [_], _ => rfl
  have F2 := fun_mk (st := s__law_take) l2 c2 k2
  have b2 := F2.binds (ps := ["_law_bag_here", "_law_many"]) fun _ _ _ _ _ _ us hl => match us, hl with | [_, _], _ => rfl
  have F3 := fun_mk (st := s__law_due) l3 c3 k3
  have b3 := F3.binds (ps := ["_law_rows", "_law_odd_here"]) fun _ _ _ _ _ _ us hl => match us, hl with | [_, _], _ => rfl
  have F4 := fun_mk (st := s__law_same) l4 c4 k4
  have b4 := F4.binds (ps := ["_law_one", "_law_other"]) fun _ _ _ _ _ _ us hl => match us, hl with | [_, _], _ => rfl
  have F5 := fun_mk (st := s_parsed_row) l5 c5 k5
  have b5 := F5.binds (ps := ["row"]) fun _ _ _ _ _ _ us hl => match us, hl with | [_], _ => rfl
  have F6 := fun_mk (st := s__law_of) l6 c6 k6
  have b6 := F6.binds (ps := ["_law_bag_here", "_law_some"]) fun _ _ _ _ _ _ us hl => match us, hl with | [_, _], _ => rfl
  have F7 := fun_mk (st := s__law_label) l7 c7 k7
  have b7 := F7.binds (ps := ["_law_bag_here", "_law_most"]) fun _ _ _ _ _ _ us hl => match us, hl with | [_, _], _ => rfl
  have F8 := fun_mk (st := s__law_pool) l8 c8 k8
  have b8 := F8.binds (ps := ["_law_bag_here", "_law_longest"]) fun _ _ _ _ _ _ us hl => match us, hl with | [_, _], _ => rfl
  have F9 := fun_mk (st := s__law_row) l9 c9 k9
  have b9 := F9.binds (ps := ["_law_bag_here", "_law_pool_here"]) fun _ _ _ _ _ _ us hl => match us, hl with | [_, _], _ => rfl
  have F10 := fun_mk (st := s__law_odd) l10 c10 k10
  have b10 := F10.binds (ps := ["_law_bag_here", "_law_pool_here"]) fun _ _ _ _ _ _ us hl => match us, hl with | [_, _], _ => rfl
  have F11 := fun_mk (st := s_Table_init) l11 c11 k11
  have F12 := fun_mk (st := s__law_table) l12 c12 k12
  have b12 := F12.binds (ps := ["_law_rows"]) fun _ _ _ _ _ _ us hl => match us, hl with | [_], _ => rfl
  have F13 := fun_mk (st := s_law) l13 c13 k13
  have b13 := F13.binds (ps := ["_law_script"]) fun _ _ _ _ _ _ us hl => match us, hl with | [_], _ => rfl
  have T : Txt K mg ⟨_, _, _, _, _, _, _, _, _, _, _, _, _, _, _, _, _, _, _, _, _, _, _, _, _, _, _, _, _, _, _, _, _, _, _⟩ := ⟨PySem.W.mg_of X G a0, F0, b0, PySem.W.mg_of X G a1, F1, b1, PySem.W.mg_of X G a2, F2, b2, PySem.W.mg_of X G a3, F3, b3, PySem.W.mg_of X G a4, F4, b4, PySem.W.mg_of X G a5, F5, b5, PySem.W.mg_of X G a6, F6, b6, PySem.W.mg_of X G a7, F7, b7, PySem.W.mg_of X G a8, F8, b8, PySem.W.mg_of X G a9, F9, b9, PySem.W.mg_of X G a10, F10, b10, F11, (StX.bind_star1 (B := fun xs => bindArgs _ ⟨xs, []⟩) (fun _ => rfl) (fun _ _ _ => rfl)), PySem.W.mg_of X G a12, F12, b12, PySem.W.mg_of X G a13, F13, b13, ⟨PySem.W.mg_of X G aC_Table, ⟨pg_Table, hd_Table, po_Table, sa_Table⟩, ca_Table, cn_Table, ct_Table, cm_Table⟩, (fun f hf => by
      simp only [List.mem_cons, List.not_mem_nil, or_false] at hf
      rcases hf with rfl | rfl
      · exact nf_Table_rows
      · exact nf_Table_parsed), ⟨mk_Table, ai_Table, fi_Table, kc_Table⟩, ⟨(fun q hq => by
      simp only [List.mem_cons, List.not_mem_nil, or_false] at hq
      rcases hq with rfl
      · exact ⟨_, ⟨PySem.W.mg_of X G aC_Table, ⟨pg_Table, hd_Table, po_Table, sa_Table⟩, ca_Table, cn_Table, ct_Table, cm_Table⟩, kit_subO ic_Table tc_Table sC_Table_Table sC_Table_Table⟩), (fun q hq => by
      simp only [noneOfB, List.mem_cons, List.not_mem_nil, or_false] at hq
      rcases hq with rfl | rfl | rfl | rfl | rfl | rfl | rfl
      · exact kit_subO ic_Table tc_Table sC_Table_Table sb_Table_NoneType
      · exact kit_subO ic_Table tc_Table sC_Table_Table sb_Table_bool
      · exact kit_subO ic_Table tc_Table sC_Table_Table sb_Table_int
      · exact kit_subO ic_Table tc_Table sC_Table_Table sb_Table_str
      · exact kit_subO ic_Table tc_Table sC_Table_Table sb_Table_tuple
      · exact kit_subO ic_Table tc_Table sC_Table_Table sb_Table_list
      · exact kit_subO ic_Table tc_Table sC_Table_Table sb_Table_dict)⟩, { fs := by decide, fb := by decide, bind := fun _ _ _ _ _ _ _ _ _ _ _ _ _ => rfl, gC := PySem.W.mg_of X G aC_BadRow, cls := xL_BadRow, sa := sa_BadRow, ga := ga_BadRow, gg := gg_BadRow, noN := nb_BadRow, iC := ai_BadRow, tC := ti_BadRow, kC := kC_BadRow, exC := eC_BadRow, tyC := tC_BadRow, hdC := hC_BadRow, te := exm_self eC_BadRow iC_BadRow tC_BadRow sC_BadRow, fn := ⟨_, _, _, _, _, _, _, _, _, _, _, _, _, _, li_BadRow, ci_BadRow⟩ }, { fs := by decide, fb := by decide, bind := fun _ _ _ _ _ _ _ _ _ _ _ _ _ => rfl, gC := PySem.W.mg_of X G aC_TooMany, cls := xL_TooMany, sa := sa_TooMany, ga := ga_TooMany, gg := gg_TooMany, noN := nb_TooMany, iC := ai_TooMany, tC := ti_TooMany, kC := kC_TooMany, exC := eC_TooMany, tyC := tC_TooMany, hdC := hC_TooMany, te := exm_self eC_TooMany iC_TooMany tC_TooMany sC_TooMany, fn := ⟨_, _, _, _, _, _, _, _, _, _, _, _, _, _, li_TooMany, ci_TooMany⟩ }, { fs := by decide, fb := by decide, bind := fun _ _ _ _ _ _ _ _ _ _ _ _ _ => rfl, gC := PySem.W.mg_of X G aC_Twice, cls := xL_Twice, sa := sa_Twice, ga := ga_Twice, gg := gg_Twice, noN := nb_Twice, iC := ai_Twice, tC := ti_Twice, kC := kC_Twice, exC := eC_Twice, tyC := tC_Twice, hdC := hC_Twice, te := exm_self eC_Twice iC_Twice tC_Twice sC_Twice, fn := ⟨_, _, _, _, _, _, _, _, _, _, _, _, _, _, li_Twice, ci_Twice⟩ }, ⟨ga_BadRow, gg_BadRow, eC_BadRow, hC_BadRow, ea_BadRow, en_BadRow, et_BadRow, em_BadRow⟩, ⟨ga_TooMany, gg_TooMany, eC_TooMany, hC_TooMany, ea_TooMany, en_TooMany, et_TooMany, em_TooMany⟩, ⟨ga_Twice, gg_Twice, eC_Twice, hC_Twice, ea_Twice, en_Twice, et_Twice, em_Twice⟩, (kit_subT (by decide +kernel) ki_BadRow_ValueError), (kit_subT (by decide +kernel) ki_TooMany_OverflowError), (kit_subT (by decide +kernel) ki_Twice_ValueError), (kit_subO iC_TooMany tC_TooMany sC_TooMany kn_BadRow_TooMany), (kit_subO iC_Twice tC_Twice sC_Twice kn_BadRow_Twice), (kit_subO iC_BadRow tC_BadRow sC_BadRow kn_TooMany_BadRow), (kit_subO iC_Twice tC_Twice sC_Twice kn_TooMany_Twice), (kit_subO iC_BadRow tC_BadRow sC_BadRow kn_Twice_BadRow), (kit_subO iC_TooMany tC_TooMany sC_TooMany kn_Twice_TooMany), (fun q hq C1 hC1 => by
      simp only [List.mem_cons, List.not_mem_nil, or_false] at hq
      rcases hq with rfl | rfl | rfl
      · cases (PySem.W.mg_of X G aC_BadRow).symm.trans hC1; exact (exm_sub eC_BadRow iC_BadRow tC_BadRow kn_BadRow_BadRow).trans (by decide +kernel)
      · cases (PySem.W.mg_of X G aC_TooMany).symm.trans hC1; exact (exm_sub eC_BadRow iC_BadRow tC_BadRow kn_TooMany_BadRow).trans (by decide +kernel)
      · cases (PySem.W.mg_of X G aC_Twice).symm.trans hC1; exact (exm_sub eC_BadRow iC_BadRow tC_BadRow kn_Twice_BadRow).trans (by decide +kernel)), (fun q hq C1 hC1 => by
      simp only [List.mem_cons, List.not_mem_nil, or_false] at hq
      rcases hq with rfl | rfl | rfl
      · cases (PySem.W.mg_of X G aC_BadRow).symm.trans hC1; exact (exm_sub eC_TooMany iC_TooMany tC_TooMany kn_BadRow_TooMany).trans (by decide +kernel)
      · cases (PySem.W.mg_of X G aC_TooMany).symm.trans hC1; exact (exm_sub eC_TooMany iC_TooMany tC_TooMany kn_TooMany_TooMany).trans (by decide +kernel)
      · cases (PySem.W.mg_of X G aC_Twice).symm.trans hC1; exact (exm_sub eC_TooMany iC_TooMany tC_TooMany kn_Twice_TooMany).trans (by decide +kernel)), (fun q hq C1 hC1 => by
      simp only [List.mem_cons, List.not_mem_nil, or_false] at hq
      rcases hq with rfl | rfl | rfl
      · cases (PySem.W.mg_of X G aC_BadRow).symm.trans hC1; exact (exm_sub eC_Twice iC_Twice tC_Twice kn_BadRow_Twice).trans (by decide +kernel)
      · cases (PySem.W.mg_of X G aC_TooMany).symm.trans hC1; exact (exm_sub eC_Twice iC_Twice tC_Twice kn_TooMany_Twice).trans (by decide +kernel)
      · cases (PySem.W.mg_of X G aC_Twice).symm.trans hC1; exact (exm_sub eC_Twice iC_Twice tC_Twice kn_Twice_Twice).trans (by decide +kernel)), PySem.W.mg_none_of X G z_BadRule, PySem.W.mg_none_of X G z_OverflowError, PySem.W.mg_none_of X G z_ValueError, PySem.W.mg_none_of X G z_abs, PySem.W.mg_none_of X G z_bool, PySem.W.mg_none_of X G z_enumerate, PySem.W.mg_none_of X G z_int, PySem.W.mg_none_of X G z_isinstance, PySem.W.mg_none_of X G z_len, PySem.W.mg_none_of X G z_list, PySem.W.mg_none_of X G z_min, PySem.W.mg_none_of X G z_range, PySem.W.mg_none_of X G z_str, PySem.W.mg_none_of X G z_tuple, globS (PySem.W.mg_of X G g_CHARACTERS) (by decide +kernel) (by decide), globS (PySem.W.mg_of X G g_EXCEPTION) (by decide +kernel) (by decide), globI (PySem.W.mg_of X G g_LONGEST_LABEL), globI (PySem.W.mg_of X G g_MOST_LABELS_OF_ROW), globI (PySem.W.mg_of X G g_MOST_ROWS), globS (PySem.W.mg_of X G g_PLAIN) (by decide +kernel) (by decide), globS (PySem.W.mg_of X G g_WILD) (by decide +kernel) (by decide)⟩
  exact ⟨_, fun s v => .of_eq rfl, fun base _ _ => g_law T⟩
end K65
namespace K65
open PySem L2 DL FN
def ex0 (K : PySem.W.Frag) : Bool := decide (PySem.W.nsIn K mainGlobals "Table" = some (some (.ref (He.ga K "Table")))) && (PySem.W.plainGet K (He.ga K "Table") Str.empty && (PySem.W.hasDictIn K (He.ga K "Table") && (PySem.W.plainOver K (He.ga K "Table") && (decide (PySem.W.findIn K (.ref (He.ga K "Table")) "__setattr__" = some (some (.builtin "object.__setattr__"))) && (decide (PySem.W.findIn K (.ref (He.ga K "Table")) "__class__" = some (some (.builtin "object.__class__"))) && (decide (PySem.W.specialIn K (.builtin "object.__class__") "__get__" = some (some (.builtin "getset_descriptor.__get__"))) && (decide (PySem.W.takesIn K (.builtin "object.__class__") = some true) && (decide (PySem.W.mroIn K (He.ga K "Table") (.type "object") = some true) && (decide (PySem.W.findIn K (.ref (He.ga K "Table")) "rows" = some none))))))))))
def ex1 (K : PySem.W.Frag) : Bool := decide (PySem.W.findIn K (.ref (He.ga K "Table")) "parsed" = some none) && (PySem.W.makesIn K (He.ga K "Table") && (PySem.W.keepIn K (.ref (He.ga K "Table")) && (decide (PySem.W.findIn K (.ref (He.ga K "Table")) "__init__" = some (some (.ref (He.ma K (He.ga K "Table") "__init__")))) && (PySem.W.isFn K (.ref (He.ma K (He.ga K "Table") "__init__")) && (PySem.W.isClsIn K (He.ga K "Table") && (decide (PySem.W.typeIn K (.ref (He.ga K "Table")) = some (.type "type")) && (decide (PySem.W.subIn K (.ref (He.ga K "Table")) (.ref (He.ga K "Table")) = some true) && (decide (PySem.W.subIn K (.type "NoneType") (.ref (He.ga K "Table")) = some false) && (decide (PySem.W.subIn K (.type "bool") (.ref (He.ga K "Table")) = some false))))))))))
def ex2 (K : PySem.W.Frag) : Bool := decide (PySem.W.subIn K (.type "int") (.ref (He.ga K "Table")) = some false) && (decide (PySem.W.subIn K (.type "str") (.ref (He.ga K "Table")) = some false) && (decide (PySem.W.subIn K (.type "tuple") (.ref (He.ga K "Table")) = some false) && (decide (PySem.W.subIn K (.type "list") (.ref (He.ga K "Table")) = some false) && (decide (PySem.W.subIn K (.type "dict") (.ref (He.ga K "Table")) = some false) && (decide (PySem.W.nsIn K mainGlobals "is_label" = some (some (.ref (He.ga K "is_label")))) && (PySem.W.keepIn K (.ref (He.ga K "is_label")) && (decide (PySem.W.nsIn K mainGlobals "_law_bag" = some (some (.ref (He.ga K "_law_bag")))) && (PySem.W.keepIn K (.ref (He.ga K "_law_bag")) && (decide (PySem.W.nsIn K mainGlobals "_law_take" = some (some (.ref (He.ga K "_law_take")))))))))))))
def ex3 (K : PySem.W.Frag) : Bool := PySem.W.keepIn K (.ref (He.ga K "_law_take")) && (decide (PySem.W.nsIn K mainGlobals "_law_due" = some (some (.ref (He.ga K "_law_due")))) && (PySem.W.keepIn K (.ref (He.ga K "_law_due")) && (decide (PySem.W.nsIn K mainGlobals "_law_same" = some (some (.ref (He.ga K "_law_same")))) && (PySem.W.keepIn K (.ref (He.ga K "_law_same")) && (decide (PySem.W.nsIn K mainGlobals "parsed_row" = some (some (.ref (He.ga K "parsed_row")))) && (PySem.W.keepIn K (.ref (He.ga K "parsed_row")) && (decide (PySem.W.nsIn K mainGlobals "_law_of" = some (some (.ref (He.ga K "_law_of")))) && (PySem.W.keepIn K (.ref (He.ga K "_law_of")) && (decide (PySem.W.nsIn K mainGlobals "_law_label" = some (some (.ref (He.ga K "_law_label")))))))))))))
def ex4 (K : PySem.W.Frag) : Bool := PySem.W.keepIn K (.ref (He.ga K "_law_label")) && (decide (PySem.W.nsIn K mainGlobals "_law_pool" = some (some (.ref (He.ga K "_law_pool")))) && (PySem.W.keepIn K (.ref (He.ga K "_law_pool")) && (decide (PySem.W.nsIn K mainGlobals "_law_row" = some (some (.ref (He.ga K "_law_row")))) && (PySem.W.keepIn K (.ref (He.ga K "_law_row")) && (decide (PySem.W.nsIn K mainGlobals "_law_odd" = some (some (.ref (He.ga K "_law_odd")))) && (PySem.W.keepIn K (.ref (He.ga K "_law_odd")) && (PySem.W.keepIn K (.ref (He.ma K (He.ga K "Table") "__init__")) && (decide (PySem.W.nsIn K mainGlobals "_law_table" = some (some (.ref (He.ga K "_law_table")))) && (PySem.W.keepIn K (.ref (He.ga K "_law_table")))))))))))
def ex5 (K : PySem.W.Frag) : Bool := decide (PySem.W.nsIn K mainGlobals "law" = some (some (.ref (He.ga K "law")))) && (PySem.W.keepIn K (.ref (He.ga K "law")) && (decide (PySem.W.nsIn K mainGlobals "BadRow" = some (some (.ref (He.ga K "BadRow")))) && (xcB K (He.ga K "BadRow") .ve && (decide (PySem.W.findIn K (.ref (He.ga K "BadRow")) "__setattr__" = some (some (.builtin "object.__setattr__"))) && (decide (PySem.W.findIn K (.ref (He.ga K "BadRow")) "__getattribute__" = some (some (.builtin "BaseException.__getattribute__"))) && (decide (PySem.W.findIn K (.ref (He.ga K "BadRow")) "__getattr__" = some none) && (decide (PySem.W.findIn K (.ref (He.ga K "BadRow")) "row" = some none) && (decide (PySem.W.findIn K (.ref (He.ga K "BadRow")) "__init__" = some (some (.ref (He.ma K (He.ga K "BadRow") "__init__")))) && (decide (PySem.W.typeIn K (.ref (He.ma K (He.ga K "BadRow") "__init__")) = some (.type "function")))))))))))
def ex6 (K : PySem.W.Frag) : Bool := codB K (He.ma K (He.ga K "BadRow") "__init__") "BadRow.__init__" && (kwN K (He.ma K (He.ga K "BadRow") "__init__") && (PySem.W.keepIn K (.ref (He.ga K "BadRow")) && (decide (PySem.W.subIn K (.ref (He.ga K "BadRow")) (.type "BaseException") = some true) && (decide (PySem.W.typeIn K (.ref (He.ga K "BadRow")) = some (.type "type")) && (PySem.W.hasDictIn K (He.ga K "BadRow") && (PySem.W.isClsIn K (He.ga K "BadRow") && (decide (PySem.W.subIn K (.ref (He.ga K "BadRow")) (.ref (He.ga K "BadRow")) = some true) && (decide (PySem.W.nsIn K mainGlobals "TooMany" = some (some (.ref (He.ga K "TooMany")))) && (xcB K (He.ga K "TooMany") .oe)))))))))
def ex7 (K : PySem.W.Frag) : Bool := decide (PySem.W.findIn K (.ref (He.ga K "TooMany")) "__setattr__" = some (some (.builtin "object.__setattr__"))) && (decide (PySem.W.findIn K (.ref (He.ga K "TooMany")) "__getattribute__" = some (some (.builtin "BaseException.__getattribute__"))) && (decide (PySem.W.findIn K (.ref (He.ga K "TooMany")) "__getattr__" = some none) && (decide (PySem.W.findIn K (.ref (He.ga K "TooMany")) "limit" = some none) && (decide (PySem.W.findIn K (.ref (He.ga K "TooMany")) "__init__" = some (some (.ref (He.ma K (He.ga K "TooMany") "__init__")))) && (decide (PySem.W.typeIn K (.ref (He.ma K (He.ga K "TooMany") "__init__")) = some (.type "function")) && (codB K (He.ma K (He.ga K "TooMany") "__init__") "TooMany.__init__" && (kwN K (He.ma K (He.ga K "TooMany") "__init__") && (PySem.W.keepIn K (.ref (He.ga K "TooMany")) && (decide (PySem.W.subIn K (.ref (He.ga K "TooMany")) (.type "BaseException") = some true))))))))))
def ex8 (K : PySem.W.Frag) : Bool := decide (PySem.W.typeIn K (.ref (He.ga K "TooMany")) = some (.type "type")) && (PySem.W.hasDictIn K (He.ga K "TooMany") && (PySem.W.isClsIn K (He.ga K "TooMany") && (decide (PySem.W.subIn K (.ref (He.ga K "TooMany")) (.ref (He.ga K "TooMany")) = some true) && (decide (PySem.W.nsIn K mainGlobals "Twice" = some (some (.ref (He.ga K "Twice")))) && (xcB K (He.ga K "Twice") .ve && (decide (PySem.W.findIn K (.ref (He.ga K "Twice")) "__setattr__" = some (some (.builtin "object.__setattr__"))) && (decide (PySem.W.findIn K (.ref (He.ga K "Twice")) "__getattribute__" = some (some (.builtin "BaseException.__getattribute__"))) && (decide (PySem.W.findIn K (.ref (He.ga K "Twice")) "__getattr__" = some none) && (decide (PySem.W.findIn K (.ref (He.ga K "Twice")) "name" = some none))))))))))
def ex9 (K : PySem.W.Frag) : Bool := decide (PySem.W.findIn K (.ref (He.ga K "Twice")) "__init__" = some (some (.ref (He.ma K (He.ga K "Twice") "__init__")))) && (decide (PySem.W.typeIn K (.ref (He.ma K (He.ga K "Twice") "__init__")) = some (.type "function")) && (codB K (He.ma K (He.ga K "Twice") "__init__") "Twice.__init__" && (kwN K (He.ma K (He.ga K "Twice") "__init__") && (PySem.W.keepIn K (.ref (He.ga K "Twice")) && (decide (PySem.W.subIn K (.ref (He.ga K "Twice")) (.type "BaseException") = some true) && (decide (PySem.W.typeIn K (.ref (He.ga K "Twice")) = some (.type "type")) && (PySem.W.hasDictIn K (He.ga K "Twice") && (PySem.W.isClsIn K (He.ga K "Twice") && (decide (PySem.W.subIn K (.ref (He.ga K "Twice")) (.ref (He.ga K "Twice")) = some true))))))))))
def ex10 (K : PySem.W.Frag) : Bool := decide (PySem.W.findIn K (.ref (He.ga K "BadRow")) "__class__" = some (some (.builtin "object.__class__"))) && (decide (PySem.W.specialIn K (.builtin "object.__class__") "__get__" = some (some (.builtin "getset_descriptor.__get__"))) && (decide (PySem.W.takesIn K (.builtin "object.__class__") = some true) && (decide (PySem.W.mroIn K (He.ga K "BadRow") (.type "object") = some true) && (decide (PySem.W.findIn K (.ref (He.ga K "TooMany")) "__class__" = some (some (.builtin "object.__class__"))) && (decide (PySem.W.specialIn K (.builtin "object.__class__") "__get__" = some (some (.builtin "getset_descriptor.__get__"))) && (decide (PySem.W.takesIn K (.builtin "object.__class__") = some true) && (decide (PySem.W.mroIn K (He.ga K "TooMany") (.type "object") = some true) && (decide (PySem.W.findIn K (.ref (He.ga K "Twice")) "__class__" = some (some (.builtin "object.__class__"))) && (decide (PySem.W.specialIn K (.builtin "object.__class__") "__get__" = some (some (.builtin "getset_descriptor.__get__"))))))))))))
def ex11 (K : PySem.W.Frag) : Bool := decide (PySem.W.takesIn K (.builtin "object.__class__") = some true) && (decide (PySem.W.mroIn K (He.ga K "Twice") (.type "object") = some true) && (decide (PySem.W.subIn K (.ref (He.ga K "BadRow")) (.type "ValueError") = some true) && (decide (PySem.W.subIn K (.ref (He.ga K "TooMany")) (.type "OverflowError") = some true) && (decide (PySem.W.subIn K (.ref (He.ga K "Twice")) (.type "ValueError") = some true) && (decide (PySem.W.subIn K (.ref (He.ga K "BadRow")) (.ref (He.ga K "BadRow")) = some true) && (decide (PySem.W.subIn K (.ref (He.ga K "TooMany")) (.ref (He.ga K "BadRow")) = some false) && (decide (PySem.W.subIn K (.ref (He.ga K "Twice")) (.ref (He.ga K "BadRow")) = some false) && (decide (PySem.W.subIn K (.ref (He.ga K "BadRow")) (.ref (He.ga K "TooMany")) = some false) && (decide (PySem.W.subIn K (.ref (He.ga K "TooMany")) (.ref (He.ga K "TooMany")) = some true))))))))))
def ex12 (K : PySem.W.Frag) : Bool := decide (PySem.W.subIn K (.ref (He.ga K "Twice")) (.ref (He.ga K "TooMany")) = some false) && (decide (PySem.W.subIn K (.ref (He.ga K "BadRow")) (.ref (He.ga K "Twice")) = some false) && (decide (PySem.W.subIn K (.ref (He.ga K "TooMany")) (.ref (He.ga K "Twice")) = some false) && (decide (PySem.W.subIn K (.ref (He.ga K "Twice")) (.ref (He.ga K "Twice")) = some true) && (decide (PySem.W.nsIn K mainGlobals "BadRule" = some none) && (decide (PySem.W.nsIn K mainGlobals "OverflowError" = some none) && (decide (PySem.W.nsIn K mainGlobals "ValueError" = some none) && (decide (PySem.W.nsIn K mainGlobals "abs" = some none) && (decide (PySem.W.nsIn K mainGlobals "bool" = some none) && (decide (PySem.W.nsIn K mainGlobals "enumerate" = some none))))))))))
def ex13 (K : PySem.W.Frag) : Bool := decide (PySem.W.nsIn K mainGlobals "int" = some none) && (decide (PySem.W.nsIn K mainGlobals "isinstance" = some none) && (decide (PySem.W.nsIn K mainGlobals "len" = some none) && (decide (PySem.W.nsIn K mainGlobals "list" = some none) && (decide (PySem.W.nsIn K mainGlobals "min" = some none) && (decide (PySem.W.nsIn K mainGlobals "range" = some none) && (decide (PySem.W.nsIn K mainGlobals "str" = some none) && (decide (PySem.W.nsIn K mainGlobals "tuple" = some none) && (strB (PySem.W.nsIn K mainGlobals "CHARACTERS") "0123456789abcdefghijklmnopqrstuvwxyz" && (strB (PySem.W.nsIn K mainGlobals "EXCEPTION") "exception")))))))))
def ex14 (K : PySem.W.Frag) : Bool := intB (PySem.W.nsIn K mainGlobals "LONGEST_LABEL") (20) && (intB (PySem.W.nsIn K mainGlobals "MOST_LABELS_OF_ROW") (3) && (intB (PySem.W.nsIn K mainGlobals "MOST_ROWS") (8) && (strB (PySem.W.nsIn K mainGlobals "PLAIN") "plain" && (strB (PySem.W.nsIn K mainGlobals "WILD") "open" && (codB K (He.ga K "is_label") "is_label" && (codB K (He.ga K "_law_bag") "_law_bag" && (codB K (He.ga K "_law_take") "_law_take" && (codB K (He.ga K "_law_due") "_law_due" && (codB K (He.ga K "_law_same") "_law_same")))))))))
def ex15 (K : PySem.W.Frag) : Bool := codB K (He.ga K "parsed_row") "parsed_row" && (codB K (He.ga K "_law_of") "_law_of" && (codB K (He.ga K "_law_label") "_law_label" && (codB K (He.ga K "_law_pool") "_law_pool" && (codB K (He.ga K "_law_row") "_law_row" && (codB K (He.ga K "_law_odd") "_law_odd" && (codB K (He.ma K (He.ga K "Table") "__init__") "Table.__init__" && (codB K (He.ga K "_law_table") "_law_table" && (codB K (He.ga K "law") "law"))))))))
def exs (K : PySem.W.Frag) : Bool := ex0 K && (ex1 K && (ex2 K && (ex3 K && (ex4 K && (ex5 K && (ex6 K && (ex7 K && (ex8 K && (ex9 K && (ex10 K && (ex11 K && (ex12 K && (ex13 K && (ex14 K && (ex15 K)))))))))))))))
def fs0 (K : PySem.W.Frag) : List FnV := [fnV K (He.ma K (He.ga K "BadRow") "__init__"), fnV K (He.ma K (He.ga K "TooMany") "__init__"), fnV K (He.ma K (He.ga K "Twice") "__init__"), fnV K (He.ga K "is_label"), fnV K (He.ga K "_law_bag"), fnV K (He.ga K "_law_take"), fnV K (He.ga K "_law_due"), fnV K (He.ga K "_law_same"), fnV K (He.ga K "parsed_row"), fnV K (He.ga K "_law_of")]
def fv0 : List FnV := [some ("__init__", "BadRow.__init__", PySem.OwnX.iA "row" ⟨7, 17, 7, 21⟩ ⟨7, 23, 7, 26⟩, .stmts (PySem.OwnX.iB "row" ⟨8, 8, 8, 12⟩ ⟨8, 8, 8, 16⟩ ⟨8, 19, 8, 22⟩ ⟨8, 8, 8, 22⟩), PySem.OwnX.iS "row", mainGlobals, [], builtinsNs), some ("__init__", "TooMany.__init__", PySem.OwnX.iA "limit" ⟨15, 17, 15, 21⟩ ⟨15, 23, 15, 28⟩, .stmts (PySem.OwnX.iB "limit" ⟨16, 8, 16, 12⟩ ⟨16, 8, 16, 18⟩ ⟨16, 21, 16, 26⟩ ⟨16, 8, 16, 26⟩), PySem.OwnX.iS "limit", mainGlobals, [], builtinsNs), some ("__init__", "Twice.__init__", PySem.OwnX.iA "name" ⟨11, 17, 11, 21⟩ ⟨11, 23, 11, 27⟩, .stmts (PySem.OwnX.iB "name" ⟨12, 8, 12, 12⟩ ⟨12, 8, 12, 17⟩ ⟨12, 20, 12, 24⟩ ⟨12, 8, 12, 24⟩), PySem.OwnX.iS "name", mainGlobals, [], builtinsNs), fnT "is_label" "is_label" s_is_label [], fnT "_law_bag" "_law_bag" s__law_bag [], fnT "_law_take" "_law_take" s__law_take [], fnT "_law_due" "_law_due" s__law_due [], fnT "_law_same" "_law_same" s__law_same [], fnT "parsed_row" "parsed_row" s_parsed_row [], fnT "_law_of" "_law_of" s__law_of []]
def fs1 (K : PySem.W.Frag) : List FnV := [fnV K (He.ga K "_law_label"), fnV K (He.ga K "_law_pool"), fnV K (He.ga K "_law_row"), fnV K (He.ga K "_law_odd"), fnV K (He.ma K (He.ga K "Table") "__init__"), fnV K (He.ga K "_law_table"), fnV K (He.ga K "law")]
def fv1 : List FnV := [fnT "_law_label" "_law_label" s__law_label [], fnT "_law_pool" "_law_pool" s__law_pool [], fnT "_law_row" "_law_row" s__law_row [], fnT "_law_odd" "_law_odd" s__law_odd [], fnT "__init__" "Table.__init__" s_Table_init [], fnT "_law_table" "_law_table" s__law_table [], fnT "law" "law" s_law []]
def fss (K : PySem.W.Frag) : List FnV := fs0 K ++ (fs1 K)
def fvs : List FnV := fv0 ++ (fv1)
theorem facts {w : World} {K : PySem.W.Frag} {h : Heap} {mg : Str → Option Value} {fa : Addr} (X : K.In h) (G : h.Ns mainGlobals mg) (hfa : mg "law" = some (.ref fa)) (ce : exs K = true) (cf : fss K = fvs)
    : ∃ fd : FuncData, (∀ (s : Shared) (v : Value), BindsTo s fd ⟨[v], []⟩ [("_law_script", v)]) ∧ ∀ base : Heap, K.In base → base.Ns mainGlobals mg → FnG PySem.Challenge.rw_offeredentry_k65_tables_refused.prog w K mg base 6 fa fd ["_law_script"] (spR K mg false 1 FN.m_law_7f41) := by
  obtain ⟨ce0, ce⟩ := He.ba ce
  obtain ⟨ce1, ce⟩ := He.ba ce
  obtain ⟨ce2, ce⟩ := He.ba ce
  obtain ⟨ce3, ce⟩ := He.ba ce
  obtain ⟨ce4, ce⟩ := He.ba ce
  obtain ⟨ce5, ce⟩ := He.ba ce
  obtain ⟨ce6, ce⟩ := He.ba ce
  obtain ⟨ce7, ce⟩ := He.ba ce
  obtain ⟨ce8, ce⟩ := He.ba ce
  obtain ⟨ce9, ce⟩ := He.ba ce
  obtain ⟨ce10, ce⟩ := He.ba ce
  obtain ⟨ce11, ce⟩ := He.ba ce
  obtain ⟨ce12, ce⟩ := He.ba ce
  obtain ⟨ce13, ce⟩ := He.ba ce
  obtain ⟨ce14, ce⟩ := He.ba ce
  have ce15 := ce
  obtain ⟨b_aC_Table, ce0⟩ := He.ba ce0
  obtain ⟨b_pg_Table, ce0⟩ := He.ba ce0
  obtain ⟨b_hd_Table, ce0⟩ := He.ba ce0
  obtain ⟨b_po_Table, ce0⟩ := He.ba ce0
  obtain ⟨b_sa_Table, ce0⟩ := He.ba ce0
  obtain ⟨b_ca_Table, ce0⟩ := He.ba ce0
  obtain ⟨b_cn_Table, ce0⟩ := He.ba ce0
  obtain ⟨b_ct_Table, ce0⟩ := He.ba ce0
  obtain ⟨b_cm_Table, ce0⟩ := He.ba ce0
  have b_nf_Table_rows := ce0
  obtain ⟨b_nf_Table_parsed, ce1⟩ := He.ba ce1
  obtain ⟨b_mk_Table, ce1⟩ := He.ba ce1
  obtain ⟨b_kc_Table, ce1⟩ := He.ba ce1
  obtain ⟨b_ai_Table, ce1⟩ := He.ba ce1
  obtain ⟨b_fi_Table, ce1⟩ := He.ba ce1
  obtain ⟨b_ic_Table, ce1⟩ := He.ba ce1
  obtain ⟨b_tc_Table, ce1⟩ := He.ba ce1
  obtain ⟨b_sC_Table_Table, ce1⟩ := He.ba ce1
  obtain ⟨b_sb_Table_NoneType, ce1⟩ := He.ba ce1
  have b_sb_Table_bool := ce1
  obtain ⟨b_sb_Table_int, ce2⟩ := He.ba ce2
  obtain ⟨b_sb_Table_str, ce2⟩ := He.ba ce2
  obtain ⟨b_sb_Table_tuple, ce2⟩ := He.ba ce2
  obtain ⟨b_sb_Table_list, ce2⟩ := He.ba ce2
  obtain ⟨b_sb_Table_dict, ce2⟩ := He.ba ce2
  obtain ⟨b_a0, ce2⟩ := He.ba ce2
  obtain ⟨b_k0, ce2⟩ := He.ba ce2
  obtain ⟨b_a1, ce2⟩ := He.ba ce2
  obtain ⟨b_k1, ce2⟩ := He.ba ce2
  have b_a2 := ce2
  obtain ⟨b_k2, ce3⟩ := He.ba ce3
  obtain ⟨b_a3, ce3⟩ := He.ba ce3
  obtain ⟨b_k3, ce3⟩ := He.ba ce3
  obtain ⟨b_a4, ce3⟩ := He.ba ce3
  obtain ⟨b_k4, ce3⟩ := He.ba ce3
  obtain ⟨b_a5, ce3⟩ := He.ba ce3
  obtain ⟨b_k5, ce3⟩ := He.ba ce3
  obtain ⟨b_a6, ce3⟩ := He.ba ce3
  obtain ⟨b_k6, ce3⟩ := He.ba ce3
  have b_a7 := ce3
  obtain ⟨b_k7, ce4⟩ := He.ba ce4
  obtain ⟨b_a8, ce4⟩ := He.ba ce4
  obtain ⟨b_k8, ce4⟩ := He.ba ce4
  obtain ⟨b_a9, ce4⟩ := He.ba ce4
  obtain ⟨b_k9, ce4⟩ := He.ba ce4
  obtain ⟨b_a10, ce4⟩ := He.ba ce4
  obtain ⟨b_k10, ce4⟩ := He.ba ce4
  obtain ⟨b_k11, ce4⟩ := He.ba ce4
  obtain ⟨b_a12, ce4⟩ := He.ba ce4
  have b_k12 := ce4
  obtain ⟨b_a13, ce5⟩ := He.ba ce5
  obtain ⟨b_k13, ce5⟩ := He.ba ce5
  obtain ⟨b_aC_BadRow, ce5⟩ := He.ba ce5
  obtain ⟨b_xL_BadRow, ce5⟩ := He.ba ce5
  obtain ⟨b_sa_BadRow, ce5⟩ := He.ba ce5
  obtain ⟨b_ga_BadRow, ce5⟩ := He.ba ce5
  obtain ⟨b_gg_BadRow, ce5⟩ := He.ba ce5
  obtain ⟨b_nb_BadRow, ce5⟩ := He.ba ce5
  obtain ⟨b_ai_BadRow, ce5⟩ := He.ba ce5
  have b_ti_BadRow := ce5
  obtain ⟨b_cb_BadRow, ce6⟩ := He.ba ce6
  obtain ⟨b_cn_BadRow, ce6⟩ := He.ba ce6
  obtain ⟨b_kC_BadRow, ce6⟩ := He.ba ce6
  obtain ⟨b_eC_BadRow, ce6⟩ := He.ba ce6
  obtain ⟨b_tC_BadRow, ce6⟩ := He.ba ce6
  obtain ⟨b_hC_BadRow, ce6⟩ := He.ba ce6
  obtain ⟨b_iC_BadRow, ce6⟩ := He.ba ce6
  obtain ⟨b_sC_BadRow, ce6⟩ := He.ba ce6
  obtain ⟨b_aC_TooMany, ce6⟩ := He.ba ce6
  have b_xL_TooMany := ce6
  obtain ⟨b_sa_TooMany, ce7⟩ := He.ba ce7
  obtain ⟨b_ga_TooMany, ce7⟩ := He.ba ce7
  obtain ⟨b_gg_TooMany, ce7⟩ := He.ba ce7
  obtain ⟨b_nb_TooMany, ce7⟩ := He.ba ce7
  obtain ⟨b_ai_TooMany, ce7⟩ := He.ba ce7
  obtain ⟨b_ti_TooMany, ce7⟩ := He.ba ce7
  obtain ⟨b_cb_TooMany, ce7⟩ := He.ba ce7
  obtain ⟨b_cn_TooMany, ce7⟩ := He.ba ce7
  obtain ⟨b_kC_TooMany, ce7⟩ := He.ba ce7
  have b_eC_TooMany := ce7
  obtain ⟨b_tC_TooMany, ce8⟩ := He.ba ce8
  obtain ⟨b_hC_TooMany, ce8⟩ := He.ba ce8
  obtain ⟨b_iC_TooMany, ce8⟩ := He.ba ce8
  obtain ⟨b_sC_TooMany, ce8⟩ := He.ba ce8
  obtain ⟨b_aC_Twice, ce8⟩ := He.ba ce8
  obtain ⟨b_xL_Twice, ce8⟩ := He.ba ce8
  obtain ⟨b_sa_Twice, ce8⟩ := He.ba ce8
  obtain ⟨b_ga_Twice, ce8⟩ := He.ba ce8
  obtain ⟨b_gg_Twice, ce8⟩ := He.ba ce8
  have b_nb_Twice := ce8
  obtain ⟨b_ai_Twice, ce9⟩ := He.ba ce9
  obtain ⟨b_ti_Twice, ce9⟩ := He.ba ce9
  obtain ⟨b_cb_Twice, ce9⟩ := He.ba ce9
  obtain ⟨b_cn_Twice, ce9⟩ := He.ba ce9
  obtain ⟨b_kC_Twice, ce9⟩ := He.ba ce9
  obtain ⟨b_eC_Twice, ce9⟩ := He.ba ce9
  obtain ⟨b_tC_Twice, ce9⟩ := He.ba ce9
  obtain ⟨b_hC_Twice, ce9⟩ := He.ba ce9
  obtain ⟨b_iC_Twice, ce9⟩ := He.ba ce9
  have b_sC_Twice := ce9
  obtain ⟨b_ea_BadRow, ce10⟩ := He.ba ce10
  obtain ⟨b_en_BadRow, ce10⟩ := He.ba ce10
  obtain ⟨b_et_BadRow, ce10⟩ := He.ba ce10
  obtain ⟨b_em_BadRow, ce10⟩ := He.ba ce10
  obtain ⟨b_ea_TooMany, ce10⟩ := He.ba ce10
  obtain ⟨b_en_TooMany, ce10⟩ := He.ba ce10
  obtain ⟨b_et_TooMany, ce10⟩ := He.ba ce10
  obtain ⟨b_em_TooMany, ce10⟩ := He.ba ce10
  obtain ⟨b_ea_Twice, ce10⟩ := He.ba ce10
  have b_en_Twice := ce10
  obtain ⟨b_et_Twice, ce11⟩ := He.ba ce11
  obtain ⟨b_em_Twice, ce11⟩ := He.ba ce11
  obtain ⟨b_ki_BadRow_ValueError, ce11⟩ := He.ba ce11
  obtain ⟨b_ki_TooMany_OverflowError, ce11⟩ := He.ba ce11
  obtain ⟨b_ki_Twice_ValueError, ce11⟩ := He.ba ce11
  obtain ⟨b_kn_BadRow_BadRow, ce11⟩ := He.ba ce11
  obtain ⟨b_kn_TooMany_BadRow, ce11⟩ := He.ba ce11
  obtain ⟨b_kn_Twice_BadRow, ce11⟩ := He.ba ce11
  obtain ⟨b_kn_BadRow_TooMany, ce11⟩ := He.ba ce11
  have b_kn_TooMany_TooMany := ce11
  obtain ⟨b_kn_Twice_TooMany, ce12⟩ := He.ba ce12
  obtain ⟨b_kn_BadRow_Twice, ce12⟩ := He.ba ce12
  obtain ⟨b_kn_TooMany_Twice, ce12⟩ := He.ba ce12
  obtain ⟨b_kn_Twice_Twice, ce12⟩ := He.ba ce12
  obtain ⟨b_z_BadRule, ce12⟩ := He.ba ce12
  obtain ⟨b_z_OverflowError, ce12⟩ := He.ba ce12
  obtain ⟨b_z_ValueError, ce12⟩ := He.ba ce12
  obtain ⟨b_z_abs, ce12⟩ := He.ba ce12
  obtain ⟨b_z_bool, ce12⟩ := He.ba ce12
  have b_z_enumerate := ce12
  obtain ⟨b_z_int, ce13⟩ := He.ba ce13
  obtain ⟨b_z_isinstance, ce13⟩ := He.ba ce13
  obtain ⟨b_z_len, ce13⟩ := He.ba ce13
  obtain ⟨b_z_list, ce13⟩ := He.ba ce13
  obtain ⟨b_z_min, ce13⟩ := He.ba ce13
  obtain ⟨b_z_range, ce13⟩ := He.ba ce13
  obtain ⟨b_z_str, ce13⟩ := He.ba ce13
  obtain ⟨b_z_tuple, ce13⟩ := He.ba ce13
  obtain ⟨b_g_CHARACTERS, ce13⟩ := He.ba ce13
  have b_g_EXCEPTION := ce13
  obtain ⟨b_g_LONGEST_LABEL, ce14⟩ := He.ba ce14
  obtain ⟨b_g_MOST_LABELS_OF_ROW, ce14⟩ := He.ba ce14
  obtain ⟨b_g_MOST_ROWS, ce14⟩ := He.ba ce14
  obtain ⟨b_g_PLAIN, ce14⟩ := He.ba ce14
  obtain ⟨b_g_WILD, ce14⟩ := He.ba ce14
  obtain ⟨b_cb0, ce14⟩ := He.ba ce14
  obtain ⟨b_cb1, ce14⟩ := He.ba ce14
  obtain ⟨b_cb2, ce14⟩ := He.ba ce14
  obtain ⟨b_cb3, ce14⟩ := He.ba ce14
  have b_cb4 := ce14
  obtain ⟨b_cb5, ce15⟩ := He.ba ce15
  obtain ⟨b_cb6, ce15⟩ := He.ba ce15
  obtain ⟨b_cb7, ce15⟩ := He.ba ce15
  obtain ⟨b_cb8, ce15⟩ := He.ba ce15
  obtain ⟨b_cb9, ce15⟩ := He.ba ce15
  obtain ⟨b_cb10, ce15⟩ := He.ba ce15
  obtain ⟨b_cb11, ce15⟩ := He.ba ce15
  obtain ⟨b_cb12, ce15⟩ := He.ba ce15
  have b_cb13 := ce15
  obtain ⟨cf0, cf⟩ := List.append_inj (show fs0 K ++ _ = fv0 ++ _ from cf) rfl
  have cf1 := cf
  obtain ⟨d0, cf0⟩ := List.cons.inj cf0
  obtain ⟨d1, cf0⟩ := List.cons.inj cf0
  obtain ⟨d2, cf0⟩ := List.cons.inj cf0
  obtain ⟨d3, cf0⟩ := List.cons.inj cf0
  obtain ⟨d4, cf0⟩ := List.cons.inj cf0
  obtain ⟨d5, cf0⟩ := List.cons.inj cf0
  obtain ⟨d6, cf0⟩ := List.cons.inj cf0
  obtain ⟨d7, cf0⟩ := List.cons.inj cf0
  obtain ⟨d8, cf0⟩ := List.cons.inj cf0
  obtain ⟨d9, cf0⟩ := List.cons.inj cf0
  obtain ⟨d10, cf1⟩ := List.cons.inj cf1
  obtain ⟨d11, cf1⟩ := List.cons.inj cf1
  obtain ⟨d12, cf1⟩ := List.cons.inj cf1
  obtain ⟨d13, cf1⟩ := List.cons.inj cf1
  obtain ⟨d14, cf1⟩ := List.cons.inj cf1
  obtain ⟨d15, cf1⟩ := List.cons.inj cf1
  obtain ⟨d16, cf1⟩ := List.cons.inj cf1
  obtain ⟨ocx_BadRow, odx_BadRow, dcx_BadRow, pmx_BadRow, anx_BadRow, cdx_BadRow, ctx_BadRow, slx_BadRow, li_BadRow, ci_BadRow⟩ := funN_of d0 b_cb_BadRow b_cn_BadRow
  obtain ⟨ocx_TooMany, odx_TooMany, dcx_TooMany, pmx_TooMany, anx_TooMany, cdx_TooMany, ctx_TooMany, slx_TooMany, li_TooMany, ci_TooMany⟩ := funN_of d1 b_cb_TooMany b_cn_TooMany
  obtain ⟨ocx_Twice, odx_Twice, dcx_Twice, pmx_Twice, anx_Twice, cdx_Twice, ctx_Twice, slx_Twice, li_Twice, ci_Twice⟩ := funN_of d2 b_cb_Twice b_cn_Twice
  obtain ⟨t_CHARACTERS, h_g_CHARACTERS⟩ := strB_ok b_g_CHARACTERS
  obtain ⟨t_EXCEPTION, h_g_EXCEPTION⟩ := strB_ok b_g_EXCEPTION
  obtain ⟨t_LONGEST_LABEL, h_g_LONGEST_LABEL⟩ := intB_ok b_g_LONGEST_LABEL
  obtain ⟨t_MOST_LABELS_OF_ROW, h_g_MOST_LABELS_OF_ROW⟩ := intB_ok b_g_MOST_LABELS_OF_ROW
  obtain ⟨t_MOST_ROWS, h_g_MOST_ROWS⟩ := intB_ok b_g_MOST_ROWS
  obtain ⟨t_PLAIN, h_g_PLAIN⟩ := strB_ok b_g_PLAIN
  obtain ⟨t_WILD, h_g_WILD⟩ := strB_ok b_g_WILD
  obtain ⟨oc0, od0, kV0, dc0, pm0, an0, cd0, ct0, sl0, l0, c0⟩ := fun_of (pa := defArgs s_is_label) (bo := defBody s_is_label) (sc := defScope s_is_label) d3 b_cb0
  obtain ⟨oc1, od1, kV1, dc1, pm1, an1, cd1, ct1, sl1, l1, c1⟩ := fun_of (pa := defArgs s__law_bag) (bo := defBody s__law_bag) (sc := defScope s__law_bag) d4 b_cb1
  obtain ⟨oc2, od2, kV2, dc2, pm2, an2, cd2, ct2, sl2, l2, c2⟩ := fun_of (pa := defArgs s__law_take) (bo := defBody s__law_take) (sc := defScope s__law_take) d5 b_cb2
  obtain ⟨oc3, od3, kV3, dc3, pm3, an3, cd3, ct3, sl3, l3, c3⟩ := fun_of (pa := defArgs s__law_due) (bo := defBody s__law_due) (sc := defScope s__law_due) d6 b_cb3
  obtain ⟨oc4, od4, kV4, dc4, pm4, an4, cd4, ct4, sl4, l4, c4⟩ := fun_of (pa := defArgs s__law_same) (bo := defBody s__law_same) (sc := defScope s__law_same) d7 b_cb4
  obtain ⟨oc5, od5, kV5, dc5, pm5, an5, cd5, ct5, sl5, l5, c5⟩ := fun_of (pa := defArgs s_parsed_row) (bo := defBody s_parsed_row) (sc := defScope s_parsed_row) d8 b_cb5
  obtain ⟨oc6, od6, kV6, dc6, pm6, an6, cd6, ct6, sl6, l6, c6⟩ := fun_of (pa := defArgs s__law_of) (bo := defBody s__law_of) (sc := defScope s__law_of) d9 b_cb6
  obtain ⟨oc7, od7, kV7, dc7, pm7, an7, cd7, ct7, sl7, l7, c7⟩ := fun_of (pa := defArgs s__law_label) (bo := defBody s__law_label) (sc := defScope s__law_label) d10 b_cb7
  obtain ⟨oc8, od8, kV8, dc8, pm8, an8, cd8, ct8, sl8, l8, c8⟩ := fun_of (pa := defArgs s__law_pool) (bo := defBody s__law_pool) (sc := defScope s__law_pool) d11 b_cb8
  obtain ⟨oc9, od9, kV9, dc9, pm9, an9, cd9, ct9, sl9, l9, c9⟩ := fun_of (pa := defArgs s__law_row) (bo := defBody s__law_row) (sc := defScope s__law_row) d12 b_cb9
  obtain ⟨oc10, od10, kV10, dc10, pm10, an10, cd10, ct10, sl10, l10, c10⟩ := fun_of (pa := defArgs s__law_odd) (bo := defBody s__law_odd) (sc := defScope s__law_odd) d13 b_cb10
  obtain ⟨oc11, od11, kV11, dc11, pm11, an11, cd11, ct11, sl11, l11, c11⟩ := fun_of (pa := defArgs s_Table_init) (bo := defBody s_Table_init) (sc := defScope s_Table_init) d14 b_cb11
  obtain ⟨oc12, od12, kV12, dc12, pm12, an12, cd12, ct12, sl12, l12, c12⟩ := fun_of (pa := defArgs s__law_table) (bo := defBody s__law_table) (sc := defScope s__law_table) d15 b_cb12
  obtain ⟨oc13, od13, kV13, dc13, pm13, an13, cd13, ct13, sl13, l13, c13⟩ := fun_of (pa := defArgs s_law) (bo := defBody s_law) (sc := defScope s_law) d16 b_cb13
  exact all_mk (l := PySem.Challenge.rw_offeredentry_k65_tables_refused) X G hfa (of_decide_eq_true b_aC_Table) b_pg_Table b_hd_Table b_po_Table (of_decide_eq_true b_sa_Table) (of_decide_eq_true b_ca_Table) (of_decide_eq_true b_cn_Table) (of_decide_eq_true b_ct_Table) (of_decide_eq_true b_cm_Table) (of_decide_eq_true b_nf_Table_rows) (of_decide_eq_true b_nf_Table_parsed) b_mk_Table b_kc_Table (of_decide_eq_true b_ai_Table) b_fi_Table b_ic_Table (of_decide_eq_true b_tc_Table) (of_decide_eq_true b_sC_Table_Table) (of_decide_eq_true b_sb_Table_NoneType) (of_decide_eq_true b_sb_Table_bool) (of_decide_eq_true b_sb_Table_int) (of_decide_eq_true b_sb_Table_str) (of_decide_eq_true b_sb_Table_tuple) (of_decide_eq_true b_sb_Table_list) (of_decide_eq_true b_sb_Table_dict) (of_decide_eq_true b_a0) l0 c0 b_k0 (of_decide_eq_true b_a1) l1 c1 b_k1 (of_decide_eq_true b_a2) l2 c2 b_k2 (of_decide_eq_true b_a3) l3 c3 b_k3 (of_decide_eq_true b_a4) l4 c4 b_k4 (of_decide_eq_true b_a5) l5 c5 b_k5 (of_decide_eq_true b_a6) l6 c6 b_k6 (of_decide_eq_true b_a7) l7 c7 b_k7 (of_decide_eq_true b_a8) l8 c8 b_k8 (of_decide_eq_true b_a9) l9 c9 b_k9 (of_decide_eq_true b_a10) l10 c10 b_k10 l11 c11 b_k11 (of_decide_eq_true b_a12) l12 c12 b_k12 (of_decide_eq_true b_a13) l13 c13 b_k13 (of_decide_eq_true b_aC_BadRow) (xc_of b_xL_BadRow) (of_decide_eq_true b_sa_BadRow) (of_decide_eq_true b_ga_BadRow) (of_decide_eq_true b_gg_BadRow) (of_decide_eq_true b_nb_BadRow) (of_decide_eq_true b_ai_BadRow) (of_decide_eq_true b_ti_BadRow) li_BadRow ci_BadRow b_kC_BadRow (of_decide_eq_true b_eC_BadRow) (of_decide_eq_true b_tC_BadRow) b_hC_BadRow b_iC_BadRow (of_decide_eq_true b_sC_BadRow) (of_decide_eq_true b_aC_TooMany) (xc_of b_xL_TooMany) (of_decide_eq_true b_sa_TooMany) (of_decide_eq_true b_ga_TooMany) (of_decide_eq_true b_gg_TooMany) (of_decide_eq_true b_nb_TooMany) (of_decide_eq_true b_ai_TooMany) (of_decide_eq_true b_ti_TooMany) li_TooMany ci_TooMany b_kC_TooMany (of_decide_eq_true b_eC_TooMany) (of_decide_eq_true b_tC_TooMany) b_hC_TooMany b_iC_TooMany (of_decide_eq_true b_sC_TooMany) (of_decide_eq_true b_aC_Twice) (xc_of b_xL_Twice) (of_decide_eq_true b_sa_Twice) (of_decide_eq_true b_ga_Twice) (of_decide_eq_true b_gg_Twice) (of_decide_eq_true b_nb_Twice) (of_decide_eq_true b_ai_Twice) (of_decide_eq_true b_ti_Twice) li_Twice ci_Twice b_kC_Twice (of_decide_eq_true b_eC_Twice) (of_decide_eq_true b_tC_Twice) b_hC_Twice b_iC_Twice (of_decide_eq_true b_sC_Twice) (of_decide_eq_true b_ea_BadRow) (of_decide_eq_true b_en_BadRow) (of_decide_eq_true b_et_BadRow) (of_decide_eq_true b_em_BadRow) (of_decide_eq_true b_ea_TooMany) (of_decide_eq_true b_en_TooMany) (of_decide_eq_true b_et_TooMany) (of_decide_eq_true b_em_TooMany) (of_decide_eq_true b_ea_Twice) (of_decide_eq_true b_en_Twice) (of_decide_eq_true b_et_Twice) (of_decide_eq_true b_em_Twice) (of_decide_eq_true b_ki_BadRow_ValueError) (of_decide_eq_true b_ki_TooMany_OverflowError) (of_decide_eq_true b_ki_Twice_ValueError) (of_decide_eq_true b_kn_BadRow_BadRow) (of_decide_eq_true b_kn_TooMany_BadRow) (of_decide_eq_true b_kn_Twice_BadRow) (of_decide_eq_true b_kn_BadRow_TooMany) (of_decide_eq_true b_kn_TooMany_TooMany) (of_decide_eq_true b_kn_Twice_TooMany) (of_decide_eq_true b_kn_BadRow_Twice) (of_decide_eq_true b_kn_TooMany_Twice) (of_decide_eq_true b_kn_Twice_Twice) (of_decide_eq_true b_z_BadRule) (of_decide_eq_true b_z_OverflowError) (of_decide_eq_true b_z_ValueError) (of_decide_eq_true b_z_abs) (of_decide_eq_true b_z_bool) (of_decide_eq_true b_z_enumerate) (of_decide_eq_true b_z_int) (of_decide_eq_true b_z_isinstance) (of_decide_eq_true b_z_len) (of_decide_eq_true b_z_list) (of_decide_eq_true b_z_min) (of_decide_eq_true b_z_range) (of_decide_eq_true b_z_str) (of_decide_eq_true b_z_tuple) h_g_CHARACTERS h_g_EXCEPTION h_g_LONGEST_LABEL h_g_MOST_LABELS_OF_ROW h_g_MOST_ROWS h_g_PLAIN h_g_WILD
end K65
namespace K65
open PySem PySem.W PySem.Calls PyProof.Rows
def names0 : List PySem.Str := ["_wall", "__name__", "BadRow", "Twice", "TooMany", "CHARACTERS", "LONGEST_LABEL", "is_label", "PLAIN", "WILD", "EXCEPTION", "MOST_ROWS", "MOST_LABELS_OF_ROW", "parsed_row", "Table", "_law_bag", "_law_take", "_law_of", "_law_label", "_law_pool", "_law_row", "_law_table", "_law_odd", "_law_due", "_law_same"]
def names : List PySem.Str := names0
abbrev RR : OpenRow := OpenLaw.row PySem.Challenge.rw_offeredentry_k65_tables_refused
set_option maxHeartbeats 0 in
theorem run0 (w : World) : DL.PartEq RR 40000 w (fun s => (HandSHeadRun.looksF RR.prog (boot_heap w.params) s.abs, HandSHeadRun.seenQ (view RR.prog [28]) names (importedModules RR.prog.main.body) (fun s => xlAt (view RR.prog [28]) [] s && recOk RR.toRowW.records s) s.abs)) (true, openGood (view RR.prog [28]) names) := by
  intro os
  kernel_rfl
set_option maxHeartbeats 0 in
theorem runF (w : World) : DL.PartEq RR 40000 w (fun s => DL.obF fss (HandSHeadRun.getT s)) fvs := by
  intro os
  kernel_rfl
def gx0 (K : PySem.W.Frag) : Bool := ex0 K && (ex1 K && (ex2 K && (ex3 K && (ex4 K && (ex5 K && (ex6 K && (ex7 K && (ex8 K && (ex9 K && (ex10 K && (ex11 K && (ex12 K && (ex13 K && (ex14 K && (ex15 K)))))))))))))))
set_option maxHeartbeats 0 in
theorem runG0 (w : World) : DL.PartEq RR 40000 w (fun s => DL.obF gx0 (HandSHeadRun.getT s)) true := by
  intro os
  kernel_rfl
def gxs (K : PySem.W.Frag) : Bool := gx0 K
theorem run (w : World) : HandSHeadRun.RunEq RR (view RR.prog [28]) (DL.hookH gxs fss fvs) (DL.obH gxs fss) 40000 names w := DL.PartEq.run (run0 w) (runG0 w) (runF w)
theorem gxs_all {K : PySem.W.Frag} (c : gxs K = true) : exs K = true := by
  unfold gxs gx0 at c
  simp only [Bool.and_eq_true] at c
  unfold exs
  simp only [Bool.and_eq_true, c, and_self]
end K65
open PySem PySem.W PyProof.Rows in
set_option maxRecDepth 100000 in
set_option maxHeartbeats 0 in
theorem PySem.Challenge.cw_offeredentry_k65_tables_refused_holds : PySem.Challenge.rw_offeredentry_k65_tables_refused.Holds := by
  w_on; o_law
  refine HandSHeadRun.head_any (r := OpenLaw.row PySem.Challenge.rw_offeredentry_k65_tables_refused) (q := view (OpenLaw.row PySem.Challenge.rw_offeredentry_k65_tables_refused).prog [28]) (H := DL.hookH K65.gxs K65.fss K65.fvs) (ob := DL.obH K65.gxs K65.fss) (M := 40000) (loose := K65.names) (d := HandSHeadRun.topDef (OpenLaw.row PySem.Challenge.rw_offeredentry_k65_tables_refused).prog 28) (kwd := []) DL.obH_eq
    (by kernel_rfl) (fun s => by kernel_rfl) K65.run (by kernel_rfl) (by kernel_rfl) (by kernel_rfl) (by rfl) (by first | assumption | decide +kernel) (by decide +kernel) ⟨rfl, rfl, rfl, rfl, rfl, by decide +kernel⟩ ?hw ?hc
  case hw => w_witness2
  case hc =>
    refine DL.walk_gE (l := PySem.Challenge.rw_offeredentry_k65_tables_refused) (n := 63) (k := 6) (x := "_law_script") (g := FN.m_law_7f41) rfl (by decide) (by kernel_rfl) ⟨rfl, by decide, by decide⟩ ?F FN.law_7f41_true
    intro w mg fa h Y G hmg0
    obtain ⟨K, KX, ce, cf⟩ := Y
    have hmg : mg ("law" : PySem.Str) = some (.ref fa) := by
      have e : (HandSHeadRun.topDef (OpenLaw.row PySem.Challenge.rw_offeredentry_k65_tables_refused).prog 28).name = ("law" : PySem.Str) := by kernel_rfl
      rw [← e]
      exact hmg0
    obtain ⟨fd, hb, hF⟩ := K65.facts (w := w) KX G hmg (K65.gxs_all ce) cf
    exact ⟨K, fd, KX, hb, hF⟩
