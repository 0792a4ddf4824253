import PyProof.Rows.All
import Wide.All
import OpenK.AllK
import Wide.FinOn
import HandS.ForMost
import HandS.ForExc
import HandS.Flow
import HandS.Wide
import HandS.TupAny
import HandS.Deep
import HandS.Style
import HandS.IsInst
import KE.DataCmp
import HandS.Conv
import HandS.Ends
import HandS.TryOnly
import HandS.TryMany
import KE.KExcInit
import PyProof.ExcBaseAll.ValueError
import PyProof.ExcBaseAll.LookupError
import PyProof.ExcBaseAll.OverflowError
import PyProof.ExcBaseAll.RuntimeError
import HandS.More
import HandS.Zip
import KE.KExcIs
import HandS.ExcIs
import HandS.Property
import HandS.MakeKwOnly
import HandS.Star
import HandS.SlotsOwn
import PyProof.InstEq
import HandS.RaiseMore
import HandS.FStr
import HandS.Codes
import HandS.ClsMeth
import HandS.Replace
import PyProof.AssignAttr
import PyProof.ReprLen
import HandS.Text
import HandS.ReplaceLit
import HandS.ReplaceDef
import HandS.ReplaceList
import HandS.Nested
import KE.KSuper
import KE.KDictZip
import KE.KDictItemsList
import HandS.Zip0
import HandS.ListItems
import HandS.StrMore
import KE.GoesEnum
import HandS.Iter
import PyProof.EqAt
import PyProof.NeKinds
import HandS.HeadEnd
import HandS.HeadHook1
import HandS.HeadHook2
import HandS.Head0
import HandS.Head1
import HandS.Head2
import PyProof.ListStr
import PySem.Challenge.RW_offeredentry_k09_texts_of_patterns_refus
set_option Elab.async false
set_option linter.all false
set_option maxRecDepth 100000
set_option maxHeartbeats 4000000
namespace DL
open PySem L2
/-! ### data -/
inductive D where
  | non
  | bl (b : Bool)
  | int (i : Int)
  | str (s : List Nat)
  | tup (ds : List D)
  | lst (ds : List D)
  | dic (ks vs : List D)
  | ins (c : Str) (ns : List Str) (ds : List D)
  | scr (is : List Int)
  /-- a caught error: its object, its dict, its field -/
  | xc (a dd : Addr) (f : Str) (d : D)
instance : Inhabited D := ⟨.non⟩
structure Exn where
  c : Str
  f : Str
  d : D
/-! ### two monads -/
inductive R (α : Type) where
  | ok (a : α)
  | ex (e : Exn)
  | stuck
@[simp] def R.bd {α β : Type} : R α → (α → R β) → R β
  | .ok a, f => f a
  | .ex e, _ => .ex e
  | .stuck, _ => .stuck
instance : Monad R where
  pure := .ok
  bind := R.bd
@[simp] theorem R.pure_eq {α : Type} (a : α) : (pure a : R α) = .ok a := rfl
@[simp] theorem R.bind_eq {α β : Type} (x : R α) (f : α → R β) : (x >>= f) = x.bd f := rfl
/-- the bag's content -/
structure S where
  x : Int
  y : Int
  z : Int
  l : List Int
  w : Bool
inductive MO (α : Type) where
  | ok (a : α) (s : S)
  | ex (e : Exn) (s : S)
  | stuck
def M (α : Type) : Type := S → MO α
@[simp] def MO.bd {α β : Type} : MO α → (α → M β) → MO β
  | .ok a s, f => f a s
  | .ex e s, _ => .ex e s
  | .stuck, _ => .stuck
instance : Monad M where
  pure := fun a s => .ok a s
  bind := fun x f s => (x s).bd f
class Mo (m : Type → Type) extends Monad m where
  lift : {α : Type} → R α → m α
  wp : {α : Type} → m α → S → (α → S → Prop) → (Exn → S → Prop) → Prop
  wp_mono : ∀ {α : Type} {x : m α} {s : S} {Q Q' : α → S → Prop} {E E' : Exn → S → Prop}, wp x s Q E → (∀ a s, Q a s → Q' a s) → (∀ e s, E e s → E' e s) → wp x s Q' E'
  wp_pure : ∀ {α : Type} {a : α} {s : S} {Q : α → S → Prop} {E : Exn → S → Prop}, wp (pure a) s Q E → Q a s
  wp_bind : ∀ {α β : Type} {x : m α} {f : α → m β} {s : S} {Q : β → S → Prop} {E : Exn → S → Prop}, wp (x >>= f) s Q E → wp x s (fun a s' => wp (f a) s' Q E) E
  tryC : {α : Type} → m α → (Exn → m α) → m α
  wp_try : ∀ {α : Type} {x : m α} {h : Exn → m α} {s : S} {Q : α → S → Prop} {E : Exn → S → Prop}, wp (tryC x h) s Q E → wp x s Q (fun e s' => wp (h e) s' Q E)
  noex : {α : Type} → m α → m α
  wp_noex : ∀ {α : Type} {x : m α} {s : S} {Q : α → S → Prop} {E : Exn → S → Prop}, wp (noex x) s Q E → wp x s Q (fun _ _ => False)
  wp_lift : ∀ {α : Type} {r : R α} {s : S} {Q : α → S → Prop} {E : Exn → S → Prop}, wp (lift r) s Q E → (match r with | .ok a => Q a s | .ex e => E e s | .stuck => False)
def R.wp {α : Type} (x : R α) (s : S) (Q : α → S → Prop) (E : Exn → S → Prop) : Prop := match x with
  | .ok a => Q a s
  | .ex e => E e s
  | .stuck => False
def MO.wp {α : Type} (x : MO α) (Q : α → S → Prop) (E : Exn → S → Prop) : Prop := match x with
  | .ok a s => Q a s
  | .ex e s => E e s
  | .stuck => False
/-- an exception is none here -/
@[simp] def R.nx {α : Type} : R α → R α
  | .ok a => .ok a
  | .ex _ => .stuck
  | .stuck => .stuck
@[simp] def MO.nx {α : Type} : MO α → MO α
  | .ok a s => .ok a s
  | .ex _ _ => .stuck
  | .stuck => .stuck
def M.nx {α : Type} (x : M α) : M α := fun s => (x s).nx
@[simp] def R.tr {α : Type} : R α → (Exn → R α) → R α
  | .ok a, _ => .ok a
  | .ex e, h => h e
  | .stuck, _ => .stuck
@[simp] def MO.tr {α : Type} : MO α → (Exn → M α) → MO α
  | .ok a s, _ => .ok a s
  | .ex e s, h => h e s
  | .stuck, _ => .stuck
def M.tr {α : Type} (x : M α) (h : Exn → M α) : M α := fun s => (x s).tr h
instance : Mo R where
  tryC := R.tr
  wp_try := fun {α x h s Q E} w => by
    cases x with
    | ok a => exact w
    | ex e => exact w
    | stuck => exact w
  noex := R.nx
  wp_noex := fun {α x s Q E} h => by
    cases x with
    | ok a => exact h
    | ex e => exact h
    | stuck => exact h
  lift := fun x => x
  wp := R.wp
  wp_mono := fun {α x s Q Q' E E'} h hq he => by
    cases x with
    | ok a => exact hq _ _ h
    | ex e => exact he _ _ h
    | stuck => exact h
  wp_pure := fun h => h
  wp_bind := fun {α β x f s Q E} h => by
    cases x with
    | ok a => exact h
    | ex e => exact h
    | stuck => exact h
  wp_lift := fun {α r s Q E} h => by cases r <;> exact h
def liftM' {α : Type} (r : R α) : M α := fun s => match r with
  | .ok a => .ok a s
  | .ex e => .ex e s
  | .stuck => .stuck
instance : Mo M where
  tryC := M.tr
  wp_try := fun {α x h s Q E} w => by
    have w' : ((x s).tr h).wp Q E := w
    show (x s).wp _ _
    cases e : x s with
    | ok a s' => rw [e] at w'; exact w'
    | ex ee s' => rw [e] at w'; exact w'
    | stuck => rw [e] at w'; exact w'
  noex := M.nx
  wp_noex := fun {α x s Q E} h => by
    have h' : ((x s).nx).wp Q E := h
    show (x s).wp _ _
    cases e : x s with
    | ok a s' => rw [e] at h'; exact h'
    | ex ee s' => rw [e] at h'; exact h'
    | stuck => rw [e] at h'; exact h'
  lift := liftM'
  wp := fun x s Q E => (x s).wp Q E
  wp_mono := fun {α x s Q Q' E E'} h hq he => by
    show (x s).wp Q' E'
    have h' : (x s).wp Q E := h
    cases e : x s with
    | ok a s' => rw [e] at h'; exact hq _ _ h'
    | ex ee s' => rw [e] at h'; exact he _ _ h'
    | stuck => rw [e] at h'; exact h'
  wp_pure := fun h => h
  wp_bind := fun {α β x f s Q E} h => by
    have h' : ((x s).bd f).wp Q E := h
    show (x s).wp _ _
    cases e : x s with
    | ok a s' => rw [e] at h'; exact h'
    | ex ee s' => rw [e] at h'; exact h'
    | stuck => rw [e] at h'; exact h'
  wp_lift := fun {α r s Q E} h => by cases r <;> exact h
end DL
namespace DL
open PySem L2
/-! ### a datum stands at a value -/
def Sub (H H' : Hp) : Prop := ∀ a o, H a = some o → H' a = some o
theorem Sub.refl (H : Hp) : Sub H H := fun _ _ h => h
theorem Sub.trans {H H1 H2 : Hp} (a : Sub H H1) (b : Sub H1 H2) : Sub H H2 := fun x o h => b x o (a x o h)
theorem Sub.rd {H H' : Hp} {a : Addr} {u : HO} (e : Sub H H') (h : Rd H a u) : Rd H' a u := by
  rcases h with h | ⟨o, h⟩
  · exact .inl (e a _ h)
  · exact .inr ⟨o, e a _ h⟩
theorem Sub.sql {K : PySem.W.Frag} {H H' : Hp} {a : Addr} {xs : List V} (e : Sub H H') (h : SqL K H a xs) : SqL K H' a xs := by
  rcases h with h | h
  · exact .inl (e.rd h)
  · exact .inr h
theorem Sub.sqt {K : PySem.W.Frag} {H H' : Hp} {a : Addr} {xs : List V} (e : Sub H H') (h : SqT K H a xs) : SqT K H' a xs := by
  rcases h with h | h
  · exact .inl (e.rd h)
  · exact .inr h
/-- the script's list: frozen, or of the module (no list that a def has made) -/
def ScL (K : PySem.W.Frag) (H : Hp) (a : Addr) (xs : List V) : Prop := (∃ o, H a = some (.frz o (.lst xs))) ∨ ∃ (o : Obj) (its : Array Value) (n : Nat), K.lookup a = some o ∧ o.cls = .type "list" ∧ o.dict = none ∧ o.data = .seq its n ∧ its.size ≤ sizeLine ∧ Vals xs its.toList
theorem ScL.sq {K : PySem.W.Frag} {H : Hp} {a : Addr} {xs : List V} : ScL K H a xs → SqL K H a xs
  | .inl h => .inl (.inr h)
  | .inr h => .inr h
theorem Sub.scl {K : PySem.W.Frag} {H H' : Hp} {a : Addr} {xs : List V} (e : Sub H H') : ScL K H a xs → ScL K H' a xs
  | .inl ⟨o, h⟩ => .inl ⟨o, e _ _ h⟩
  | .inr h => .inr h
section
variable (K : PySem.W.Frag) (mg : Str → Option Value)
mutual
def Is (H : Hp) : D → V → Prop
  | .non, v => v = .non
  | .bl b, v => v = .bl b
  | .int i, v => v = .int i
  | .str s, v => v = .str ⟨s.toArray⟩ ∧ s.length ≤ sizeLine
  | .tup ds, v => ds.length ≤ sizeLine ∧ ∃ a vs, v = .ref a ∧ SqT K H a vs ∧ IsL H ds vs
  | .lst ds, v => ds.length ≤ sizeLine ∧ ∃ a vs, v = .ref a ∧ H a = some (.lst vs) ∧ IsL H ds vs
  | .dic ks ds, v => ∃ a kvs, v = .ref a ∧ Rd H a (.dK kvs) ∧ IsL H ks (kvs.map fun p => kV p.1) ∧ IsL H ds (kvs.map fun p => p.2)
  | .ins c ns ds, v => ∃ a C dx vs, v = .ref a ∧ mg c = some (.ref C) ∧ H a = some (.ins C dx (ns.zip vs)) ∧ ns.length = vs.length ∧ IsL H ds vs
  | .scr is, v => is.length ≤ sizeLine ∧ ∃ a, v = .ref a ∧ ScL K H a (is.map V.int)
  | .xc a dd f d, v => v = .ref a ∧ ∃ u, H dd = some (.xd [(f, u)]) ∧ Is H d u
def IsL (H : Hp) : List D → List V → Prop
  | [], vs => vs = []
  | d :: ds, vs => ∃ v r, vs = v :: r ∧ Is H d v ∧ IsL H ds r
end
end
section
variable {K : PySem.W.Frag} {mg : Str → Option Value}
mutual
theorem Is.mono {H H' : Hp} (s : Sub H H') : ∀ {d : D} {v : V}, Is K mg H d v → Is K mg H' d v
  | .non, _, h => h
  | .bl _, _, h => h
  | .int _, _, h => h
  | .str _, _, h => h
  | .tup ds, _, h => by
    obtain ⟨z, a, vs, e, t, l⟩ := h
    exact ⟨z, a, vs, e, s.sqt t, IsL.mono s l⟩
  | .lst ds, _, h => by
    obtain ⟨z, a, vs, e, t, l⟩ := h
    exact ⟨z, a, vs, e, s _ _ t, IsL.mono s l⟩
  | .dic ks ds, _, h => by
    obtain ⟨a, kvs, e, t, l, l'⟩ := h
    exact ⟨a, kvs, e, s.rd t, IsL.mono s l, IsL.mono s l'⟩
  | .ins c ns ds, _, h => by
    obtain ⟨a, C, dx, vs, e, m, t, n, l⟩ := h
    exact ⟨a, C, dx, vs, e, m, s _ _ t, n, IsL.mono s l⟩
  | .scr is, _, h => by
    obtain ⟨z, a, e, t⟩ := h
    exact ⟨z, a, e, s.scl t⟩
  | .xc a dd f d, _, h => by
    obtain ⟨e, u, q, i⟩ := h
    exact ⟨e, u, s _ _ q, Is.mono s i⟩
theorem IsL.mono {H H' : Hp} (s : Sub H H') : ∀ {ds : List D} {vs : List V}, IsL K mg H ds vs → IsL K mg H' ds vs
  | [], _, h => h
  | d :: ds, _, h => by
    obtain ⟨v, r, e, i, l⟩ := h
    exact ⟨v, r, e, Is.mono s i, IsL.mono s l⟩
end
theorem IsL.nil {H : Hp} : IsL K mg H [] [] := rfl
theorem IsL.cons {H : Hp} {d : D} {ds : List D} {v : V} {vs : List V} (h : Is K mg H d v) (l : IsL K mg H ds vs) : IsL K mg H (d :: ds) (v :: vs) := ⟨v, vs, rfl, h, l⟩
theorem IsL.len {H : Hp} : ∀ {ds : List D} {vs : List V}, IsL K mg H ds vs → ds.length = vs.length
  | [], _, h => by cases h; rfl
  | d :: ds, _, h => by
    obtain ⟨v, r, rfl, _, l⟩ := h
    simp [IsL.len l]
theorem IsL.app {H : Hp} : ∀ {ds es : List D} {vs ws : List V}, IsL K mg H ds vs → IsL K mg H es ws → IsL K mg H (ds ++ es) (vs ++ ws)
  | [], _, _, _, h, l => by cases h; exact l
  | d :: ds, _, _, _, h, l => by
    obtain ⟨v, r, rfl, i, t⟩ := h
    exact ⟨v, r ++ _, rfl, i, IsL.app t l⟩
theorem IsL.get {H : Hp} : ∀ {ds : List D} {vs : List V} {i : Nat} {d : D}, IsL K mg H ds vs → ds[i]? = some d → ∃ v, vs[i]? = some v ∧ Is K mg H d v
  | [], _, _, _, h, e => by simp at e
  | d :: ds, _, 0, _, h, e => by
    obtain ⟨v, r, rfl, i, t⟩ := h
    simp at e; subst e
    exact ⟨v, rfl, i⟩
  | d :: ds, _, i + 1, _, h, e => by
    obtain ⟨v, r, rfl, _, t⟩ := h
    simpa using IsL.get (i := i) t (by simpa using e)
theorem IsL.drop {H : Hp} : ∀ {ds : List D} {vs : List V} (n : Nat), IsL K mg H ds vs → IsL K mg H (ds.drop n) (vs.drop n)
  | _, _, 0, h => h
  | [], _, n + 1, h => by cases h; exact rfl
  | d :: ds, _, n + 1, h => by
    obtain ⟨v, r, rfl, _, t⟩ := h
    exact IsL.drop n t
theorem IsL.take {H : Hp} : ∀ {ds : List D} {vs : List V} (n : Nat), IsL K mg H ds vs → IsL K mg H (ds.take n) (vs.take n)
  | _, _, 0, h => rfl
  | [], _, n + 1, h => by cases h; exact rfl
  | d :: ds, _, n + 1, h => by
    obtain ⟨v, r, rfl, i, t⟩ := h
    exact ⟨v, _, rfl, i, IsL.take n t⟩
theorem IsL.set {H : Hp} {d' : D} {v' : V} (h' : Is K mg H d' v') : ∀ {ds : List D} {vs : List V} (n : Nat), IsL K mg H ds vs → IsL K mg H (ds.set n d') (vs.set n v')
  | [], _, _, h => by cases h; exact rfl
  | d :: ds, _, 0, h => by
    obtain ⟨v, r, rfl, _, t⟩ := h
    exact ⟨v', r, rfl, h', t⟩
  | d :: ds, _, n + 1, h => by
    obtain ⟨v, r, rfl, i, t⟩ := h
    exact ⟨v, _, rfl, i, IsL.set h' n t⟩
theorem IsL.eraseIdx {H : Hp} : ∀ {ds : List D} {vs : List V} (n : Nat), IsL K mg H ds vs → IsL K mg H (ds.eraseIdx n) (vs.eraseIdx n)
  | [], _, _, h => by cases h; exact rfl
  | d :: ds, _, 0, h => by
    obtain ⟨v, r, rfl, _, t⟩ := h
    exact t
  | d :: ds, _, n + 1, h => by
    obtain ⟨v, r, rfl, i, t⟩ := h
    exact ⟨v, _, rfl, i, IsL.eraseIdx n t⟩
theorem IsL.reverse {H : Hp} : ∀ {ds : List D} {vs : List V}, IsL K mg H ds vs → IsL K mg H ds.reverse vs.reverse
  | [], _, h => by cases h; exact rfl
  | d :: ds, _, h => by
    obtain ⟨v, r, rfl, i, t⟩ := h
    rw [List.reverse_cons, List.reverse_cons]
    exact (IsL.reverse t).app (.cons i .nil)
end
/-! ### the state -/
/-- the bag's content stands -/
def BagAt (bag : List Addr) (H : Hp) (s : S) : Prop := match bag with
  | [] => True
  | [b] => s.w = false ∧ H b = some (.lst [.int s.x, .int s.y])
  | b :: c :: _ => s.w = true ∧ b ≠ c ∧ H b = some (.lst [.ref c, .int s.y, .int s.z]) ∧ H c = some (.lst (s.l.map V.int))
structure Ste (bag : List Addr) (Hf H Hf' H' : Hp) : Prop where
  sub : Sub Hf Hf'
  top : Sub Hf' H'
  keep : ∀ a o, H a = some o → a ∉ bag → H' a = some o
  dom : ∀ a, H a ≠ none → H' a ≠ none
  fresh : ∀ a o, Hf' a = some o → Hf a = some o ∨ H a = none
theorem Ste.refl {bag : List Addr} {Hf H : Hp} (h : Sub Hf H) : Ste bag Hf H Hf H := ⟨.refl _, h, fun _ _ e _ => e, fun _ e => e, fun _ _ e => .inl e⟩
theorem Ste.trans {bag : List Addr} {Hf H Hf1 H1 Hf2 H2 : Hp} (a : Ste bag Hf H Hf1 H1) (b : Ste bag Hf1 H1 Hf2 H2) : Ste bag Hf H Hf2 H2 :=
  ⟨a.sub.trans b.sub, b.top, fun x o e n => b.keep x o (a.keep x o e n) n, fun x e => b.dom x (a.dom x e), fun x o e => by
    rcases b.fresh x o e with h | h
    · exact a.fresh x o h
    · refine .inr ?_
      cases q : H x with
      | none => rfl
      | some u => exact absurd h (a.dom x (by rw [q]; simp))⟩
theorem Ste.wide {bag : List Addr} {Hf H Hf' H' : Hp} (a : Ste [] Hf H Hf' H') : Ste bag Hf H Hf' H' :=
  ⟨a.sub, a.top, fun x o e _ => a.keep x o e (by simp), a.dom, a.fresh⟩
theorem Ste.bag {bag : List Addr} {Hf H Hf' H' : Hp} {s : S} (a : Ste [] Hf H Hf' H') (h : BagAt bag H s) : BagAt bag H' s := by
  match bag, h with
  | [], _ => trivial
  | [b], ⟨hw, h⟩ => exact ⟨hw, a.keep _ _ h (by simp)⟩
  | b :: c :: _, ⟨hw, h0, h1, h2⟩ => exact ⟨hw, h0, a.keep _ _ h1 (by simp), a.keep _ _ h2 (by simp)⟩
/-- a new object, frozen at once -/
theorem Ste.new {bag : List Addr} {Hf H : Hp} {p : Addr} {o : HO} (h : Sub Hf H) (hp : H p = none) : Ste bag Hf H (upd Hf p o) (upd H p o) := by
  have hf : Hf p = none := by
    cases q : Hf p with
    | none => rfl
    | some u => rw [h _ _ q] at hp; cases hp
  refine ⟨fun a u e => ?_, fun a u e => ?_, fun a u e _ => ?_, fun a e => ?_, fun a u e => ?_⟩
  · rw [upd_ne (ne_of_none e hf)]; exact e
  · by_cases q : a = p
    · subst q; rw [upd_same] at e ⊢; exact e
    · rw [upd_ne q] at e ⊢; exact h _ _ e
  · rw [upd_ne (ne_of_none e hp)]; exact e
  · by_cases q : a = p
    · subst q; exact absurd hp e
    · rw [upd_ne q]; exact e
  · by_cases q : a = p
    · subst q; exact .inr hp
    · rw [upd_ne q] at e; exact .inl e
/-- a new object, not frozen -/
theorem Ste.new' {bag : List Addr} {Hf H : Hp} {p : Addr} {o : HO} (h : Sub Hf H) (hp : H p = none) : Ste bag Hf H Hf (upd H p o) := by
  refine ⟨.refl _, fun a u e => ?_, fun a u e _ => ?_, fun a e => ?_, fun a u e => .inl e⟩
  · have : H a = some u := h _ _ e
    rw [upd_ne (ne_of_none this hp)]; exact this
  · rw [upd_ne (ne_of_none e hp)]; exact e
  · by_cases q : a = p
    · subst q; exact absurd hp e
    · rw [upd_ne q]; exact e
theorem Sub.none {Hf H : Hp} (h : Sub Hf H) {p : Addr} (hp : H p = none) : Hf p = none := by
  cases q : Hf p with
  | none => rfl
  | some u => rw [h _ _ q] at hp; cases hp
/-- a slot: forgotten, a datum, a list of the frame's own, the bag -/
inductive Sl where
  | un
  | im (d : D)
  | ow (ds : List D)
  | bg
  /-- a dict of the frame's own -/
  | od (ks ds : List D)
  /-- the object that is being made -/
  | ob (ns : List Str) (ds : List D)
structure Fx where
  bag : List Addr
  H0 : Hp
  Hf0 : Hp
  W : WX
  /-- what stands of the slots where an exception leaves -/
  gx : Option (List Sl)
  /-- the def's answers are new lists -/
  nr : Bool
  /-- the object that is being made -/
  me : List Addr
  /-- its attributes' names -/
  nas : List Str
section
variable (K : PySem.W.Frag) (mg : Str → Option Value)
def SlOk (fx : Fx) (Hf H : Hp) (o : Option (Option V)) : Sl → Prop
  | .un => True
  | .im d => ∃ v, o = some (some v) ∧ Is K mg Hf d v
  | .ow ds => ∃ p vs, o = some (some (.ref p)) ∧ H p = some (.lst vs) ∧ Hf p = none ∧ fx.H0 p = none ∧ p ∉ fx.bag ∧ IsL K mg Hf ds vs ∧ ds.length ≤ sizeLine
  | .bg => ∃ b r, fx.bag = b :: r ∧ o = some (some (.ref b))
  | .od ks ds => ∃ p kvs, o = some (some (.ref p)) ∧ H p = some (.dK kvs) ∧ Hf p = none ∧ fx.H0 p = none ∧ p ∉ fx.bag ∧ IsL K mg Hf ks (kvs.map fun p => kV p.1) ∧ IsL K mg Hf ds (kvs.map fun p => p.2) ∧ ks.length ≤ sizeLine
  | .ob ns ds => ∃ p C dx vs, o = some (some (.ref p)) ∧ H p = some (.ins C dx (ns.zip vs)) ∧ Hf p = none ∧ (p ∈ fx.me ∧ ∃ f0, fx.H0 p = some (.ins C dx f0)) ∧ p ∉ fx.bag ∧ (Cls K C ∧ ∀ f ∈ fx.nas, NoAttr K C f) ∧ ns.length = vs.length ∧ IsL K mg Hf ds vs
/-- how a def's answer stands: a datum, or a new list of its own -/
def RtOk : Bool → Hp → Hp → Hp → D → V → Prop
  | false, _, Hf', _, d, v => Is K mg Hf' d v
  | true, H0, Hf', H', d, v => ∃ p vs ds, d = .lst ds ∧ v = .ref p ∧ H' p = some (.lst vs) ∧ Hf' p = none ∧ H0 p = none ∧ IsL K mg Hf' ds vs ∧ ds.length ≤ sizeLine
def isOw : Sl → Bool
  | .ow _ => true
  | .od _ _ => true
  | .ob _ _ => true
  | _ => false
structure StS (fx : Fx) (Hf H : Hp) (σ : L2.St) (G : List Sl) (s : S) : Prop where
  ste : Ste (fx.me ++ fx.bag) fx.Hf0 fx.H0 Hf H
  bag : BagAt fx.bag H s
  bagg : ∀ b ∈ fx.me ++ fx.bag, Hf b = none ∧ H b ≠ none ∧ (b ∈ fx.me → fx.H0 b ≠ none)
  len : σ.length = G.length
  sl : ∀ (i : Nat) (x : Sl), G[i]? = some x → SlOk K mg fx Hf H σ[i]? x
  dis : ∀ (i j : Nat) (x y : Sl) (p : Addr), i ≠ j → G[i]? = some x → G[j]? = some y → isOw x = true → isOw y = true → σ[i]? = some (some (.ref p)) → σ[j]? = some (some (.ref p)) → False
end
section
variable {K : PySem.W.Frag} {mg : Str → Option Value} {fx : Fx} {Hf H Hf' H' : Hp} {σ : L2.St} {G G' : List Sl} {s s' : S}
theorem StS.bagf (st : StS K mg fx Hf H σ G s) : ∀ b ∈ fx.bag, Hf b = none ∧ H b ≠ none := fun b m => ⟨(st.bagg b (List.mem_append_right _ m)).1, (st.bagg b (List.mem_append_right _ m)).2.1⟩
/-- an own place is not of the bag, nor the object's that is made -/
theorem StS.owNb (st : StS K mg fx Hf H σ G s) {p : Addr} (h0 : fx.H0 p = none) (nb : p ∉ fx.bag) : p ∉ fx.me ++ fx.bag := fun m => by
  rcases List.mem_append.mp m with q | q
  · exact (st.bagg p m).2.2 q h0
  · exact nb q
theorem Ste.wider {bag bag' : List Addr} {Hf H Hf' H' : Hp} (a : Ste bag Hf H Hf' H') : Ste (bag' ++ bag) Hf H Hf' H' :=
  ⟨a.sub, a.top, fun x o e n => a.keep x o e fun z => n (List.mem_append_right _ z), a.dom, a.fresh⟩
theorem StS.top (st : StS K mg fx Hf H σ G s) : Sub Hf H := st.ste.top
theorem Ste.stayNone {bag : List Addr} {Hf H Hf' H' : Hp} (a : Ste bag Hf H Hf' H') {p : Addr} (hf : Hf p = none) (h : H p ≠ none) : Hf' p = none := by
  cases q : Hf' p with
  | none => rfl
  | some u =>
    rcases a.fresh _ _ q with z | z
    · rw [hf] at z; cases z
    · exact absurd z h
theorem SlOk.step {o : Option (Option V)} (a : Ste fx.bag Hf H Hf' H') : ∀ {x : Sl}, SlOk K mg fx Hf H o x → SlOk K mg fx Hf' H' o x
  | .un, _ => trivial
  | .im d, ⟨v, e, i⟩ => ⟨v, e, i.mono a.sub⟩
  | .ow ds, ⟨p, vs, e, h, hf, h0, nb, l, z⟩ => ⟨p, vs, e, a.keep _ _ h nb, a.stayNone hf (by rw [h]; simp), h0, nb, l.mono a.sub, z⟩
  | .bg, h => h
  | .od ks ds, ⟨p, vs, e, h, hf, h0, nb, l, l', z⟩ => ⟨p, vs, e, a.keep _ _ h nb, a.stayNone hf (by rw [h]; simp), h0, nb, l.mono a.sub, l'.mono a.sub, z⟩
  | .ob ns ds, ⟨p, C, dx, vs, e, h, hf, h0, nb, c, hn, l⟩ => ⟨p, C, dx, vs, e, a.keep _ _ h nb, a.stayNone hf (by rw [h]; simp), h0, nb, c, hn, l.mono a.sub⟩
theorem StS.step (st : StS K mg fx Hf H σ G s) (a : Ste fx.bag Hf H Hf' H') (hb : BagAt fx.bag H' s') : StS K mg fx Hf' H' σ G s' :=
  ⟨st.ste.trans a.wider, hb, fun b m => ⟨a.stayNone (st.bagg b m).1 (st.bagg b m).2.1, a.dom _ (st.bagg b m).2.1, (st.bagg b m).2.2⟩, st.len, fun i x e => (st.sl i x e).step a, st.dis⟩
/-- weaker slots -/
def Wk : List Sl → List Sl → Prop
  | [], [] => True
  | x :: xs, y :: ys => (x = y ∨ y = .un) ∧ Wk xs ys
  | _, _ => False
theorem Wk.len : ∀ {G G' : List Sl}, Wk G G' → G.length = G'.length
  | [], [], _ => rfl
  | _ :: _, _ :: _, h => by simp [Wk.len h.2]
  | [], _ :: _, h => h.elim
  | _ :: _, [], h => h.elim
theorem Wk.get : ∀ {G G' : List Sl} {i : Nat} {y : Sl}, Wk G G' → G'[i]? = some y → ∃ x, G[i]? = some x ∧ (x = y ∨ y = .un)
  | [], [], _, _, _, e => by simp at e
  | x :: _, y :: _, 0, _, h, e => by simp at e; subst e; exact ⟨x, rfl, h.1⟩
  | _ :: _, _ :: _, i + 1, _, h, e => by simpa using Wk.get (i := i) h.2 (by simpa using e)
  | [], _ :: _, _, _, h, _ => h.elim
  | _ :: _, [], _, _, h, _ => h.elim
theorem Wk.refl : ∀ (G : List Sl), Wk G G
  | [] => trivial
  | x :: xs => ⟨.inl rfl, Wk.refl xs⟩
theorem StS.weak (st : StS K mg fx Hf H σ G s) (w : Wk G G') : StS K mg fx Hf H σ G' s :=
  ⟨st.ste, st.bag, st.bagg, st.len.trans w.len, fun i y e => by
    obtain ⟨x, ex, h⟩ := w.get e
    rcases h with rfl | rfl
    · exact st.sl i x ex
    · trivial, fun i j x y p hij ex ey ox oy => by
    obtain ⟨x', ex', hx⟩ := w.get ex
    obtain ⟨y', ey', hy⟩ := w.get ey
    rcases hx with rfl | rfl
    · rcases hy with rfl | rfl
      · exact st.dis i j _ _ p hij ex' ey' ox oy
      · cases oy
    · cases ox⟩
/-- a datum is stored -/
theorem StS.set {i : Nat} {d : D} {v : V} (st : StS K mg fx Hf H σ G s) (h : Is K mg Hf d v) : StS K mg fx Hf H (σ.set i (some v)) (G.set i (.im d)) s := by
  refine ⟨st.ste, st.bag, st.bagg, by simpa using st.len, fun j x e => ?_, fun j k x y p hjk ex ey ox oy e1 e2 => ?_⟩
  · by_cases q : i = j
    · subst q
      have hi : i < G.length := by
        have := (List.getElem?_eq_some_iff.mp e).1
        simpa using this
      rw [List.getElem?_set_self hi] at e
      cases e
      exact ⟨v, List.getElem?_set_self (by rw [st.len]; exact hi), h⟩
    · rw [List.getElem?_set_ne q] at e
      rw [List.getElem?_set_ne q]
      exact st.sl j x e
  · have nj : i ≠ j := by
      rintro rfl
      have hi : i < G.length := by
        have := (List.getElem?_eq_some_iff.mp ex).1
        simpa using this
      rw [List.getElem?_set_self hi] at ex
      cases ex; cases ox
    have nk : i ≠ k := by
      rintro rfl
      have hi : i < G.length := by
        have := (List.getElem?_eq_some_iff.mp ey).1
        simpa using this
      rw [List.getElem?_set_self hi] at ey
      cases ey; cases oy
    rw [List.getElem?_set_ne nj] at ex e1
    rw [List.getElem?_set_ne nk] at ey e2
    exact st.dis j k x y p hjk ex ey ox oy e1 e2
/-- a new list of one's own is stored -/
theorem StS.setOw {i : Nat} {ds : List D} {p : Addr} {vs : List V} (st : StS K mg fx Hf H σ G s) (hn : ∀ (j : Nat) (q : Addr), σ[j]? = some (some (.ref q)) → (∀ x, G[j]? = some x → isOw x = true → q ≠ p)) (h : H p = some (.lst vs)) (hf : Hf p = none) (h0 : fx.H0 p = none) (nb : p ∉ fx.bag) (l : IsL K mg Hf ds vs) (hz : ds.length ≤ sizeLine) :
    StS K mg fx Hf H (σ.set i (some (.ref p))) (G.set i (.ow ds)) s := by
  refine ⟨st.ste, st.bag, st.bagg, by simpa using st.len, fun j x e => ?_, fun j k x y q hjk ex ey ox oy e1 e2 => ?_⟩
  · by_cases q : i = j
    · subst q
      have hi : i < G.length := by
        have := (List.getElem?_eq_some_iff.mp e).1
        simpa using this
      rw [List.getElem?_set_self hi] at e
      cases e
      exact ⟨p, vs, List.getElem?_set_self (by rw [st.len]; exact hi), h, hf, h0, nb, l, hz⟩
    · rw [List.getElem?_set_ne q] at e
      rw [List.getElem?_set_ne q]
      exact st.sl j x e
  · have hi : ∀ {z : Sl}, (G.set i (.ow ds))[i]? = some z → i < σ.length := fun e => by
      have := (List.getElem?_eq_some_iff.mp e).1
      rw [st.len]
      simpa using this
    by_cases a : i = j
    · subst a
      rw [List.getElem?_set_self (hi ex)] at e1
      have hk : i ≠ k := hjk
      rw [List.getElem?_set_ne hk] at ey e2
      cases e1
      exact hn k p e2 y ey oy rfl
    · rw [List.getElem?_set_ne a] at ex e1
      by_cases b : i = k
      · subst b
        rw [List.getElem?_set_self (hi ey)] at e2
        cases e2
        exact hn j p e1 x ex ox rfl
      · rw [List.getElem?_set_ne b] at ey e2
        exact st.dis j k x y q hjk ex ey ox oy e1 e2
end
theorem BagAt.upd {bag : List Addr} {H : Hp} {s : S} {p : Addr} {o : HO} (h : BagAt bag H s) (nb : p ∉ bag) : BagAt bag (L2.upd H p o) s := by
  match bag, h, nb with
  | [], _, _ => trivial
  | [b], h, nb =>
    have e : H b = some (.lst [.int s.x, .int s.y]) := h.2
    refine ⟨h.1, ?_⟩
    rw [upd_ne (fun z => nb (by simp [z]))]
    exact e
  | b :: c :: r, ⟨hw, h0, h1, h2⟩, nb =>
    refine ⟨hw, h0, ?_, ?_⟩
    · rw [upd_ne (fun z => nb (by simp [z]))]; exact h1
    · rw [upd_ne (fun z => nb (by simp [z]))]; exact h2
section
variable {K : PySem.W.Frag} {mg : Str → Option Value} {fx : Fx} {Hf H : Hp} {σ : L2.St} {G : List Sl} {s : S}
theorem SlOk.ref {o : Option (Option V)} : ∀ {x : Sl}, isOw x = true → SlOk K mg fx Hf H o x → ∃ p, o = some (some (.ref p)) ∧ H p ≠ none ∧ Hf p = none ∧ p ∉ fx.bag ∧ (fx.H0 p = none ∨ p ∈ fx.me)
  | .un, h, _ => by cases h
  | .im d, h, _ => by cases h
  | .bg, h, _ => by cases h
  | .ow ds, _, ⟨p, vs, e, h, hf, h0, nb, l, z⟩ => ⟨p, e, by rw [h]; simp, hf, nb, .inl h0⟩
  | .od ks ds, _, ⟨p, vs, e, h, hf, h0, nb, l, l', z⟩ => ⟨p, e, by rw [h]; simp, hf, nb, .inl h0⟩
  | .ob ns ds, _, ⟨p, C, dx, vs, e, h, hf, h0, nb, c, hn, l⟩ => ⟨p, e, by rw [h]; simp, hf, nb, .inr h0.1⟩
theorem SlOk.upd {o : Option (Option V)} {p : Addr} {u : HO} : ∀ {x : Sl}, (∀ q, isOw x = true → o = some (some (.ref q)) → q ≠ p) → SlOk K mg fx Hf H o x → SlOk K mg fx Hf (L2.upd H p u) o x
  | .un, _, _ => trivial
  | .im d, _, h => h
  | .bg, _, h => h
  | .ow ds, w, ⟨q, vs, e, h, hf, h0, nb, l, z⟩ => ⟨q, vs, e, by rw [upd_ne (w q rfl e)]; exact h, hf, h0, nb, l, z⟩
  | .od ks ds, w, ⟨q, vs, e, h, hf, h0, nb, l, l', z⟩ => ⟨q, vs, e, by rw [upd_ne (w q rfl e)]; exact h, hf, h0, nb, l, l', z⟩
  | .ob ns ds, w, ⟨q, C, dx, vs, e, h, hf, h0, nb, c, hn, l⟩ => ⟨q, C, dx, vs, e, by rw [upd_ne (w q rfl e)]; exact h, hf, h0, nb, c, hn, l⟩
theorem SlOk.frz {o : Option (Option V)} {p : Addr} {u : HO} (sb : Sub Hf (L2.upd Hf p u)) : ∀ {x : Sl}, (∀ q, isOw x = true → o = some (some (.ref q)) → q ≠ p) → SlOk K mg fx Hf H o x → SlOk K mg fx (L2.upd Hf p u) H o x
  | .un, _, _ => trivial
  | .im d, _, ⟨v, a, b⟩ => ⟨v, a, b.mono sb⟩
  | .bg, _, h => h
  | .ow ds, w, ⟨q, vs, e, h, hf, h0, nb, l, z⟩ => ⟨q, vs, e, h, by rw [upd_ne (w q rfl e)]; exact hf, h0, nb, l.mono sb, z⟩
  | .od ks ds, w, ⟨q, vs, e, h, hf, h0, nb, l, l', z⟩ => ⟨q, vs, e, h, by rw [upd_ne (w q rfl e)]; exact hf, h0, nb, l.mono sb, l'.mono sb, z⟩
  | .ob ns ds, w, ⟨q, C, dx, vs, e, h, hf, h0, nb, c, hn, l⟩ => ⟨q, C, dx, vs, e, h, by rw [upd_ne (w q rfl e)]; exact hf, h0, nb, c, hn, l.mono sb⟩
/-- the own thing of slot i is changed -/
theorem StS.updAt {i : Nat} {x x' : Sl} {p : Addr} {u : HO} (st : StS K mg fx Hf H σ G s) (hG : G[i]? = some x) (ox : isOw x = true) (hp : σ[i]? = some (some (.ref p))) (ox' : isOw x' = true) (new : SlOk K mg fx Hf (upd H p u) (some (some (.ref p))) x') :
    StS K mg fx Hf (upd H p u) σ (G.set i x') s := by
  obtain ⟨q, e, h, hf, nb, h0⟩ := (st.sl i _ hG).ref ox
  have eq : q = p := by rw [hp] at e; cases e; rfl
  subst eq
  have hi : i < G.length := (List.getElem?_eq_some_iff.mp hG).1
  clear e
  refine ⟨⟨st.ste.sub, fun a o e => ?_, fun a o e n => ?_, fun a n => ?_, st.ste.fresh⟩, st.bag.upd nb, fun b m => ⟨(st.bagg b m).1, ?_, (st.bagg b m).2.2⟩, by simpa using st.len, fun j x ex => ?_, fun j k x y r hjk ex ey ox oy e1 e2 => ?_⟩
  · have ne : a ≠ q := fun z => by rw [z, hf] at e; cases e
    rw [upd_ne ne]
    exact st.top a o e
  · have ne : a ≠ q := fun z => by
      rcases h0 with y | y
      · rw [z, y] at e; cases e
      · exact n (List.mem_append_left _ (z ▸ y))
    rw [upd_ne ne]
    exact st.ste.keep a o e n
  · by_cases ne : a = q
    · rw [ne, upd_same]; simp
    · rw [upd_ne ne]; exact st.ste.dom a n
  · by_cases ne : b = q
    · rw [ne, upd_same]; simp
    · rw [upd_ne ne]
      exact (st.bagg b m).2.1
  · by_cases c : i = j
    · subst c
      rw [List.getElem?_set_self hi] at ex
      cases ex
      rw [hp]
      exact new
    · rw [List.getElem?_set_ne c] at ex
      exact (st.sl j x ex).upd fun q2 o2 e2 z => st.dis i j _ _ q c hG ex ox o2 hp (by rw [e2, z])
  · have get : ∀ {n : Nat} {z : Sl}, (G.set i x')[n]? = some z → isOw z = true → ∃ z', G[n]? = some z' ∧ isOw z' = true := fun {n z} e o => by
      by_cases c : i = n
      · subst c; exact ⟨_, hG, by assumption⟩
      · rw [List.getElem?_set_ne c] at e; exact ⟨z, e, o⟩
    obtain ⟨x1, ex', ox1⟩ := get ex ox
    obtain ⟨y1, ey', oy1⟩ := get ey oy
    exact st.dis j k x1 y1 r hjk ex' ey' ox1 oy1 e1 e2
/-- the own list of slot i is changed -/
theorem StS.updOw {i : Nat} {ds ds' : List D} {p : Addr} {vs' : List V} (st : StS K mg fx Hf H σ G s) (hG : G[i]? = some (.ow ds)) (hp : σ[i]? = some (some (.ref p))) (l : IsL K mg Hf ds' vs') (hz : ds'.length ≤ sizeLine) :
    StS K mg fx Hf (upd H p (.lst vs')) σ (G.set i (.ow ds')) s := by
  obtain ⟨q, vs, e, h, hf, h0, nb, l0, z0⟩ := st.sl i _ hG
  have eq : q = p := by rw [hp] at e; cases e; rfl
  subst eq
  exact st.updAt hG rfl hp rfl ⟨q, vs', rfl, upd_same, hf, h0, nb, l, hz⟩
/-- a slot's own thing becomes a datum -/
theorem StS.freezeAt {i : Nat} {x : Sl} {d : D} {p : Addr} {u : HO} (st : StS K mg fx Hf H σ G s) (hG : G[i]? = some x) (ox : isOw x = true) (hp : σ[i]? = some (some (.ref p))) (hu : H p = some u) (h0 : fx.H0 p = none) (is : ∀ Hf', Sub Hf Hf' → Hf' p = some u → Is K mg Hf' d (.ref p)) :
    ∃ Hf', (Sub Hf Hf' ∧ ∀ a o, Hf' a = some o → Hf a = some o ∨ o = u) ∧ StS K mg fx Hf' H σ (G.set i (.im d)) s := by
  obtain ⟨q, e, h, hf, nb, _⟩ := (st.sl i _ hG).ref ox
  have eq : q = p := by rw [hp] at e; cases e; rfl
  subst eq
  have hi : i < G.length := (List.getElem?_eq_some_iff.mp hG).1
  have sb : Sub Hf (upd Hf q u) := fun a o z => by
    have ne : a ≠ q := fun y => by rw [y, hf] at z; cases z
    rw [upd_ne ne]; exact z
  refine ⟨upd Hf q u, ⟨sb, fun a o z => by
    by_cases c : a = q
    · subst c; rw [upd_same] at z; cases z; exact .inr rfl
    · rw [upd_ne c] at z; exact .inl z⟩, ⟨st.ste.sub.trans sb, fun a o z => ?_, st.ste.keep, st.ste.dom, fun a o z => ?_⟩, st.bag, fun b m => ⟨?_, (st.bagg b m).2⟩, by simpa using st.len, fun j x ex => ?_, fun j k x y r hjk ex ey ox oy e1 e2 => ?_⟩
  · by_cases c : a = q
    · subst c; rw [upd_same] at z; cases z; exact hu
    · rw [upd_ne c] at z; exact st.top a o z
  · by_cases c : a = q
    · subst c; exact .inr h0
    · rw [upd_ne c] at z; exact st.ste.fresh a o z
  · have ne : b ≠ q := fun z => st.owNb h0 nb (z ▸ m)
    rw [upd_ne ne]; exact (st.bagg b m).1
  · by_cases c : i = j
    · subst c
      rw [List.getElem?_set_self hi] at ex
      cases ex
      exact ⟨_, e, is _ sb upd_same⟩
    · rw [List.getElem?_set_ne c] at ex
      exact (st.sl j x ex).frz sb fun q2 o2 e2 z => st.dis i j _ _ q c hG ex ox o2 hp (by rw [e2, z])
  · have nx : i ≠ j := fun z => by subst z; rw [List.getElem?_set_self hi] at ex; cases ex; cases ox
    have ny : i ≠ k := fun z => by subst z; rw [List.getElem?_set_self hi] at ey; cases ey; cases oy
    rw [List.getElem?_set_ne nx] at ex
    rw [List.getElem?_set_ne ny] at ey
    exact st.dis j k x y r hjk ex ey ox oy e1 e2
/-- a slot's own list becomes a datum -/
theorem StS.freeze {i : Nat} {ds : List D} (st : StS K mg fx Hf H σ G s) (hG : G[i]? = some (.ow ds)) : ∃ Hf', Sub Hf Hf' ∧ StS K mg fx Hf' H σ (G.set i (.im (.lst ds))) s := by
  obtain ⟨p, vs, e, h, hf, h0, nb, l0, z0⟩ := st.sl i _ hG
  obtain ⟨Hf', ⟨sb, _⟩, st'⟩ := st.freezeAt (d := .lst ds) hG rfl e h h0 fun Hf' sb z => ⟨z0, p, vs, rfl, z, l0.mono sb⟩
  exact ⟨Hf', sb, st'⟩
/-- the same, and what is new is a list -/
theorem StS.freeze2 {i : Nat} {ds : List D} (st : StS K mg fx Hf H σ G s) (hG : G[i]? = some (.ow ds)) : ∃ Hf', Sub Hf Hf' ∧ (∀ a o, Hf' a = some o → Hf a = some o ∨ ∃ vs, o = .lst vs) ∧ StS K mg fx Hf' H σ (G.set i (.im (.lst ds))) s := by
  obtain ⟨p, vs, e, h, hf, h0, nb, l0, z0⟩ := st.sl i _ hG
  obtain ⟨Hf', ⟨sb, nw⟩, st'⟩ := st.freezeAt (d := .lst ds) hG rfl e h h0 fun Hf' sb z => ⟨z0, p, vs, rfl, z, l0.mono sb⟩
  exact ⟨Hf', sb, fun a o z => (nw a o z).imp id fun e => ⟨_, e⟩, st'⟩
/-- an address that the heap does not know is not of the entry, nor the bag's -/
theorem StS.new0 (st : StS K mg fx Hf H σ G s) {p : Addr} (h : H p = none) : fx.H0 p = none ∧ p ∉ fx.bag ∧ Hf p = none := by
  refine ⟨?_, fun m => (st.bagf p m).2 h, st.top.none h⟩
  cases q : fx.H0 p with
  | none => rfl
  | some o => exact absurd h (st.ste.dom p (by rw [q]; simp))
theorem StS.owNe (st : StS K mg fx Hf H σ G s) {p : Addr} (h : H p = none) : ∀ (j : Nat) (q : Addr), σ[j]? = some (some (.ref q)) → (∀ x, G[j]? = some x → isOw x = true → q ≠ p) := fun j q e x ex ox z => by
  obtain ⟨q2, e2, h2, _⟩ := (st.sl j _ ex).ref ox
  rw [e] at e2
  cases e2
  rw [z] at h2
  exact h2 h
end
end DL
namespace DL
open PySem L2
/-! ### judgements -/
section
variable (K : PySem.W.Frag) (mg : Str → Option Value) (fx : Fx)
def ExIs (Hf H : Hp) (e : Exn) (cls : Value) (dd : Option Addr) : Prop :=
  ∃ C a v, mg e.c = some (.ref C) ∧ cls = .ref C ∧ dd = some a ∧ Hf a = some (.xd [(e.f, v)]) ∧ Is K mg Hf e.d v
/-- what is wanted of an exception -/
def EX (G : List Sl) (σ : L2.St) : Exn → S → Prop := fun e s' => ∀ cls dd Hf' H', StS K mg fx Hf' H' σ G s' → ExIs K mg Hf' H' e cls dd → fx.W cls dd σ H'
variable {m : Type → Type} [Mo m] {α β : Type}
def tX (G : List Sl) (rl : Hp → α → β → Prop) (x : m α) (Hf : Hp) (s : S) (σ : L2.St) (H : Hp) (Q : β → Hp → Prop) : Prop :=
  StS K mg fx Hf H σ G s ∧ Mo.wp x s (fun a s' => ∀ b Hf' H', Ste fx.bag Hf H Hf' H' → BagAt fx.bag H' s' → rl Hf' a b → Q b H') (EX K mg fx G σ)
def tG (G : List Sl) (rl : Hp → α → β → Prop) (x : m α) : L2.St → Hp → (β → Hp → Prop) → Prop := fun σ H Q => ∃ Hf s, tX K mg fx G rl x Hf s σ H Q
abbrev tE (G : List Sl) (x : m D) : TE := tG K mg fx G (fun H d v => Is K mg H d v) x
abbrev tT (G : List Sl) (x : m Bool) : TT := tG K mg fx G (fun _ a b => b = a) x
abbrev tA (G : List Sl) (x : m (List D)) : TA := tG K mg fx G (fun H d v => IsL K mg H d v) x
end
section
variable {K : PySem.W.Frag} {mg : Str → Option Value} {fx : Fx} {m : Type → Type} [Mo m] {α β γ δ : Type} {G : List Sl} {rl : Hp → α → β → Prop} {rm : Hp → γ → δ → Prop}
theorem tX.mono {x : m α} {Hf : Hp} {s : S} {σ : L2.St} {H : Hp} {Q Q' : β → Hp → Prop} (h : tX K mg fx G rl x Hf s σ H Q) (q : ∀ b H', Q b H' → Q' b H') : tX K mg fx G rl x Hf s σ H Q' :=
  ⟨h.1, Mo.wp_mono h.2 (fun a s' k b Hf' H' e bg r => q b H' (k b Hf' H' e bg r)) fun e s' k => k⟩
theorem tX.bind {x : m α} {k : α → m γ} {Hf : Hp} {s : S} {σ : L2.St} {H : Hp} {Q : δ → Hp → Prop} (h : tX K mg fx G rm (x >>= k) Hf s σ H Q) :
    tX K mg fx G rl x Hf s σ H (fun b H1 => ∃ a Hf1 s1, Sub Hf Hf1 ∧ rl Hf1 a b ∧ tX K mg fx G rm (k a) Hf1 s1 σ H1 Q) :=
  ⟨h.1, Mo.wp_mono (Mo.wp_bind h.2) (fun a s1 h1 b Hf1 H1 ste bag r => ⟨a, Hf1, s1, ste.sub, r, h.1.step ste bag,
      Mo.wp_mono h1 (fun c s2 h2 d Hf2 H2 ste2 bag2 r2 => h2 d Hf2 H2 (ste.trans ste2) bag2 r2) fun e s2 h2 => h2⟩)
    fun e s' k => k⟩
theorem tX.pure {a : α} {Hf : Hp} {s : S} {σ : L2.St} {H : Hp} {Q : β → Hp → Prop} (h : tX K mg fx G rl (Pure.pure a : m α) Hf s σ H Q) {b : β} (r : rl Hf a b) : Q b H :=
  (Mo.wp_pure h.2) b Hf H (.refl h.1.top) h.1.bag r
theorem tX.to {x : m α} {Hf : Hp} {s : S} {σ : L2.St} {H : Hp} {Q : β → Hp → Prop} (h : tX K mg fx G rl x Hf s σ H Q) : tG K mg fx G rl x σ H Q := ⟨Hf, s, h⟩
end
/-- a question with an answer or none -/
def ask {m : Type → Type} [Mo m] {α : Type} (o : Option α) : m α := Mo.lift (match o with | some a => .ok a | none => .stuck)
@[simp] theorem ask_some {α : Type} (a : α) : (ask (some a) : R α) = .ok a := rfl
@[simp] theorem ask_none {α : Type} : (ask (none : Option α) : R α) = .stuck := rfl
@[simp] theorem askM_some {α : Type} (a : α) (s : S) : (ask (some a) : M α) s = .ok a s := rfl
@[simp] theorem askM_none {α : Type} (s : S) : (ask (none : Option α) : M α) s = .stuck := rfl
section
variable {K : PySem.W.Frag} {mg : Str → Option Value} {fx : Fx} {m : Type → Type} [Mo m] {α β : Type} {G : List Sl} {rl : Hp → α → β → Prop}
/-- what follows from an answer -/
theorem tX.ask {o : Option α} {Hf : Hp} {s : S} {σ : L2.St} {H : Hp} {Q : β → Hp → Prop} (h : tX K mg fx G rl (DL.ask o : m α) Hf s σ H Q) :
    ∃ a, o = some a ∧ ∀ b Hf' H', Ste [] Hf H Hf' H' → rl Hf' a b → Q b H' := by
  have h2 := Mo.wp_lift h.2
  cases o with
  | none => exact h2.elim
  | some a => exact ⟨a, rfl, fun b Hf' H' e r => h2 b Hf' H' e.wide (e.bag h.1.bag) r⟩
end
section
variable {X : Cx}
theorem peI {e : Expr} {t t' : TE} (h : PE X e t) (w : ∀ σ H Q, t' σ H Q → t σ H Q) : PE X e t' := ⟨fun pins s σ H Q I q => h.run pins s σ H Q I (w _ _ _ q)⟩
theorem ptI {e : Expr} {t t' : TT} (h : PT X e t) (w : ∀ σ H Q, t' σ H Q → t σ H Q) : PT X e t' := ⟨fun pins s σ H Q I q => h.run pins s σ H Q I (w _ _ _ q)⟩
theorem pwI {e : Expr} {t t' : TT} (h : PW X e t) (w : ∀ σ H Q, t' σ H Q → t σ H Q) : PW X e t' := ⟨fun wh pins s σ H Q I q => h.run wh pins s σ H Q I (w _ _ _ q)⟩
theorem paI {e : List Expr} {t t' : TA} (h : PA X e t) (w : ∀ σ H Q, t' σ H Q → t σ H Q) : PA X e t' := ⟨fun pos pins s σ H Q I q => h.run pos pins s σ H Q I (w _ _ _ q)⟩
theorem pssI {e : List Stmt} {t t' : TS} (h : PSs X e t) (w : ∀ D σ H, t' D σ H → t D σ H) : PSs X e t' := ⟨fun pins s σ H D I q => h.run pins s σ H D I (w _ _ _ q)⟩
theorem psI {e : Stmt} {t t' : TS} (h : PS X e t) (w : ∀ D σ H, t' D σ H → t D σ H) : PS X e t' := ⟨fun pins s σ H D I q => h.run pins s σ H D I (w _ _ _ q)⟩
end
/-! ### operators by data -/
section
variable (K : PySem.W.Frag) (mg : Str → Option Value)
/-- a function of data, of two values -/
def rD2 (f : D → D → Option D) : R2 := fun x y H Q => ∃ Hf dx dy d, Sub Hf H ∧ Is K mg Hf dx x ∧ Is K mg Hf dy y ∧ f dx dy = some d ∧ ∀ u Hf' H', Ste [] Hf H Hf' H' → Is K mg Hf' d u → Q u H'
def rDs (f : List D → Option D) : List V → Hp → VK → Prop := fun xs H Q => ∃ Hf ds d, Sub Hf H ∧ IsL K mg Hf ds xs ∧ f ds = some d ∧ ∀ u Hf' H', Ste [] Hf H Hf' H' → Is K mg Hf' d u → Q u H'
end
section
variable {X : Cx} {fx : Fx} {m : Type → Type} [Mo m] {G : List Sl} {a b c : Expr} {es : List Expr} {pos : Pos} {x y z : m D} {ys : m (List D)} {f : D → D → Option D}
theorem de_op {op : Operator} (ho : OpR X (binaryOp op) (rD2 X.K X.mg f)) (ha : PE X a (tE X.K X.mg fx G x)) (hb : PE X b (tE X.K X.mg fx G y)) :
    PE X (.BinOp a op b pos) (tE X.K X.mg fx G (do let u ← x; let v ← y; ask (f u v))) := peI (pe_op ho ha hb) fun σ H Q ⟨Hf, s, h⟩ =>
  (h.bind.mono fun v1 H1 ⟨d1, Hf1, s1, sb1, r1, h1⟩ => (h1.bind.mono fun v2 H2 ⟨d2, Hf2, s2, sb2, r2, h2⟩ => by
    obtain ⟨d, e, q⟩ := h2.ask
    exact ⟨Hf2, d1, d2, d, h2.1.top, r1.mono sb2, r2, e, q⟩).to).to
theorem de_cmp {op : CmpOp} (ho : OpR X (compareOp op) (rD2 X.K X.mg f)) (ha : PE X a (tE X.K X.mg fx G x)) (hb : PE X b (tE X.K X.mg fx G y)) (hm : behindInMarks op b = false) :
    PE X (.Compare a [op] [b] pos) (tE X.K X.mg fx G (do let u ← x; let v ← y; ask (f u v))) := peI (pe_cmpR ho ha hb hm) fun σ H Q ⟨Hf, s, h⟩ =>
  (h.bind.mono fun v1 H1 ⟨d1, Hf1, s1, sb1, r1, h1⟩ => (h1.bind.mono fun v2 H2 ⟨d2, Hf2, s2, sb2, r2, h2⟩ => by
    obtain ⟨d, e, q⟩ := h2.ask
    exact ⟨Hf2, d1, d2, d, h2.1.top, r1.mono sb2, r2, e, q⟩).to).to
/-- a truth value as a test -/
def bOf : D → Option Bool
  | .bl b => some b
  | _ => none
theorem dt_cmp {op : CmpOp} (ho : OpR X (compareOp op) (rD2 X.K X.mg f)) (ha : PE X a (tE X.K X.mg fx G x)) (hb : PE X b (tE X.K X.mg fx G y)) (hm : behindInMarks op b = false) :
    PT X (.Compare a [op] [b] pos) (tT X.K X.mg fx G (do let u ← x; let v ← y; ask ((f u v).bind bOf))) := ptI (pt_cmpR ho ha hb hm) fun σ H Q ⟨Hf, s, h⟩ =>
  (h.bind.mono fun v1 H1 ⟨d1, Hf1, s1, sb1, r1, h1⟩ => (h1.bind.mono fun v2 H2 ⟨d2, Hf2, s2, sb2, r2, h2⟩ => by
    obtain ⟨k, e, q⟩ := h2.ask
    cases e' : f d1 d2 with
    | none => rw [e'] at e; cases e
    | some d =>
      rw [e'] at e
      cases d with
      | bl b' =>
        have : b' = k := Option.some.inj e
        subst this
        exact ⟨Hf2, d1, d2, _, h2.1.top, r1.mono sb2, r2, e', fun u Hf' H' st i => ⟨b', i, q b' Hf' H' st rfl⟩⟩
      | _ => cases e).to).to
theorem da_nil : PA X [] (tA X.K X.mg fx G (pure [] : m (List D))) := paI pa_nil fun σ H Q ⟨Hf, s, h⟩ => h.pure rfl
theorem da_cons (ha : PE X a (tE X.K X.mg fx G x)) (hr : PA X es (tA X.K X.mg fx G ys)) (hs : starEach (a :: es) X.env = (false, eval a X.env) :: starEach es X.env := by rfl) :
    PA X (a :: es) (tA X.K X.mg fx G (do let d ← x; let ds ← ys; pure (d :: ds))) := paI (pa_cons ha hr hs) fun σ H Q ⟨Hf, s, h⟩ =>
  (h.bind.mono fun v1 H1 ⟨d1, Hf1, s1, sb1, r1, h1⟩ => (h1.bind.mono fun v2 H2 ⟨d2, Hf2, s2, sb2, r2, h2⟩ => h2.pure (IsL.cons (r1.mono sb2) r2)).to).to
theorem de_callB {g : List D → Option D} {id : String} {n : Str} {p : Pos} {e : Expr} (hc : CallR X (.builtin id) (rDs X.K X.mg g)) (hg : Gl X n) (hm : X.mg n = none) (hv : bootBuiltins n = some (.builtin id)) (ha : PA X (e :: es) (tA X.K X.mg fx G ys))
    (hn : n ≠ "__name__" := by decide) (hdb : (n == ("__debug__" : Str)) = false := by decide) (he : starEach (e :: es) X.env = (false, eval e X.env) :: starEach es X.env := by rfl) (hpl : (backTo pos (starEach es X.env)).any (·.1) = false := by rfl) :
    PE X (.Call (.Name n p) (e :: es) [] pos) (tE X.K X.mg fx G (do let ds ← ys; ask (g ds))) := peI (pe_callB hc hg hm hv ha hn hdb he hpl) fun σ H Q ⟨Hf, s, h⟩ =>
  (h.bind.mono fun v1 H1 ⟨d1, Hf1, s1, sb1, r1, h1⟩ => by
    obtain ⟨d, e, q⟩ := h1.ask
    exact ⟨Hf1, d1, d, h1.1.top, r1, e, q⟩).to
theorem de_callTy {g : List D → Option D} {T : String} {n : Str} {p : Pos} {e : Expr} (hc : CallR X (.type T) (rDs X.K X.mg g)) (hg : Gl X n) (hm : X.mg n = none) (hv : bootBuiltins n = some (.type T)) (ha : PA X (e :: es) (tA X.K X.mg fx G ys))
    (hn : n ≠ "__name__" := by decide) (hdb : (n == ("__debug__" : Str)) = false := by decide) (he : starEach (e :: es) X.env = (false, eval e X.env) :: starEach es X.env := by rfl) (hpl : (backTo pos (starEach es X.env)).any (·.1) = false := by rfl) :
    PE X (.Call (.Name n p) (e :: es) [] pos) (tE X.K X.mg fx G (do let ds ← ys; ask (g ds))) := peI (pe_callTy hc hg hm hv ha hn hdb he hpl) fun σ H Q ⟨Hf, s, h⟩ =>
  (h.bind.mono fun v1 H1 ⟨d1, Hf1, s1, sb1, r1, h1⟩ => by
    obtain ⟨d, e, q⟩ := h1.ask
    exact ⟨Hf1, d1, d, h1.1.top, r1, e, q⟩).to
theorem de_var (i : Nat) {d : D} {n : Str} (hG : G[i]? = some (.im d) := by rfl) (hN : X.N[i]? = some n := by rfl) (hv : Vis X.env.scope n := by first | exact Or.inl rfl | exact Or.inr (Or.inl rfl) | exact Or.inr (Or.inr rfl))
    (hd : (n == ("__debug__" : Str)) = false := by decide) (hcd : (n == ("__classdict__" : Str)) = false := by decide) : PE X (.Name n pos) (tE X.K X.mg fx G (pure d : m D)) :=
  peI (pe_var hN hv hd hcd) fun σ H Q ⟨Hf, s, h⟩ => by
    obtain ⟨v, e, i⟩ := h.1.sl i _ hG
    exact ⟨v, e, h.pure i⟩
theorem de_int {j : Nat} {i : Int} : PE X (.Constant (.int i) j pos) (tE X.K X.mg fx G (pure (.int i) : m D)) := peI pe_int fun σ H Q ⟨Hf, s, h⟩ => h.pure (by rw [Is])
theorem de_bl {j : Nat} {i : Bool} : PE X (.Constant (.bool i) j pos) (tE X.K X.mg fx G (pure (.bl i) : m D)) := peI pe_bl fun σ H Q ⟨Hf, s, h⟩ => h.pure (by rw [Is])
theorem de_non {j : Nat} : PE X (.Constant .none j pos) (tE X.K X.mg fx G (pure .non : m D)) := peI pe_non fun σ H Q ⟨Hf, s, h⟩ => h.pure (by rw [Is])
theorem de_str {j : Nat} {t : Str} (l : List Nat) (ht : t = ⟨l.toArray⟩ := by first | rfl | decide +kernel) (hl : l.length ≤ 1000 := by decide) : PE X (.Constant (.str t) j pos) (tE X.K X.mg fx G (pure (.str l) : m D)) :=
  peI pe_str fun σ H Q ⟨Hf, s, h⟩ => h.pure (by rw [Is, ht]; exact ⟨rfl, Nat.le_of_lt (small1000 hl)⟩)
/-- a global constant -/
theorem de_glob {n : Str} {u : Value} {v : V} {d : D} (hg : Gl X n) (hm : X.mg n = some u) (r : RelV v u) (hi : Is X.K X.mg (fun _ => none) d v) (hd : (n == ("__debug__" : Str)) = false := by decide) : PE X (.Name n pos) (tE X.K X.mg fx G (pure d : m D)) :=
  peI (pe_glob hg hm r hd) fun σ H Q ⟨Hf, s, h⟩ => h.pure (hi.mono fun a o e => by cases e)
end
end DL
namespace DL
open PySem L2
/-! ### statements -/
inductive Fl (α β : Type) where
  | nx (a : α)
  | rt (d : D)
  | bk (b : β)
  | ct (b : β)
section
variable {m : Type → Type} [Mo m] {α β γ : Type}
def seqF (x : m (Fl α β)) (k : α → m (Fl γ β)) : m (Fl γ β) := do
  match ← x with
  | .nx a => k a
  | .rt d => pure (.rt d)
  | .bk b => pure (.bk b)
  | .ct b => pure (.ct b)
def forF (u : D → Option γ) (xb : α → γ → m (Fl α α)) : List D → α → m (Fl α β)
  | [], a => pure (.nx a)
  | d :: ds, a => do
    let c ← ask (u d)
    match ← xb a c with
    | .nx a' => forF u xb ds a'
    | .ct a' => forF u xb ds a'
    | .bk a' => pure (.nx a')
    | .rt d => pure (.rt d)
end
section
variable (K : PySem.W.Frag) (mg : Str → Option Value) (fx : Fx)
def GxOk (G : List Sl) : Prop := match fx.gx with
  | none => True
  | some g => Wk G g
/-- where an exception leaves a statement -/
def XSt (Hf H : Hp) (σ : L2.St) (s : S) : Prop := match fx.gx with
  | none => Ste (fx.me ++ fx.bag) fx.Hf0 fx.H0 Hf H ∧ BagAt fx.bag H s
  | some g => StS K mg fx Hf H σ g s
def EXS : Exn → S → Prop := fun e s' => ∀ cls dd σ' Hf' H', XSt K mg fx Hf' H' σ' s' → ExIs K mg Hf' H' e cls dd → fx.W cls dd σ' H'
variable {α β : Type}
def FP (Hf : Hp) (ex : α → List Sl) (exb : β → List Sl) (De : Ends) : Fl α β → S → Prop := fun f s' => match f with
  | .nx a => ∀ Hf' H' σ', Sub Hf Hf' → StS K mg fx Hf' H' σ' (ex a) s' → De.nx σ' H'
  | .rt d => ∀ v Hf' H', Ste (fx.me ++ fx.bag) fx.Hf0 fx.H0 Hf' H' → BagAt fx.bag H' s' → RtOk K mg fx.nr fx.H0 Hf' H' d v → De.rt v H'
  | .bk b => ∀ Hf' H' σ', Sub Hf Hf' → StS K mg fx Hf' H' σ' (exb b) s' → De.bk σ' H'
  | .ct b => ∀ Hf' H' σ', Sub Hf Hf' → StS K mg fx Hf' H' σ' (exb b) s' → De.ct σ' H'
variable {m : Type → Type} [Mo m]
def tSX (G : List Sl) (ex : α → List Sl) (exb : β → List Sl) (x : m (Fl α β)) (Hf : Hp) (s : S) (De : Ends) (σ : L2.St) (H : Hp) : Prop :=
  StS K mg fx Hf H σ G s ∧ Mo.wp x s (FP K mg fx Hf ex exb De) (EXS K mg fx)
def tS (G : List Sl) (ex : α → List Sl) (exb : β → List Sl) (x : m (Fl α β)) : TS := fun De σ H => ∃ Hf s, tSX K mg fx G ex exb x Hf s De σ H
end
section
variable {K : PySem.W.Frag} {mg : Str → Option Value} {fx : Fx} {m : Type → Type} [Mo m] {α β γ δ ε : Type} {G G' : List Sl} {ex : α → List Sl} {exb : β → List Sl} {rm : Hp → γ → δ → Prop}
theorem exs_ex {σ : L2.St} {e : Exn} {s : S} (hx : GxOk fx G) (h : EXS K mg fx e s) : EX K mg fx G σ e s := fun cls dd Hf' H' st xi => by
  refine h cls dd σ Hf' H' ?_ xi
  unfold XSt
  unfold GxOk at hx
  cases q : fx.gx with
  | none => exact ⟨st.ste, st.bag⟩
  | some g =>
    rw [q] at hx
    exact st.weak hx
theorem FP.up {Hf Hf1 : Hp} {De : Ends} {f : Fl α β} {s : S} (sb : Sub Hf Hf1) (h : FP K mg fx Hf ex exb De f s) : FP K mg fx Hf1 ex exb De f s := by
  cases f with
  | nx a => exact fun Hf' H' σ' sb' => h Hf' H' σ' (sb.trans sb')
  | rt d => exact h
  | bk b => exact fun Hf' H' σ' sb' => h Hf' H' σ' (sb.trans sb')
  | ct b => exact fun Hf' H' σ' sb' => h Hf' H' σ' (sb.trans sb')
theorem tSX.to {x : m (Fl α β)} {Hf : Hp} {s : S} {σ : L2.St} {H : Hp} {De : Ends} (h : tSX K mg fx G ex exb x Hf s De σ H) : tS K mg fx G ex exb x De σ H := ⟨Hf, s, h⟩
theorem tSX.bind {x : m γ} {k : γ → m (Fl α β)} {Hf : Hp} {s : S} {σ : L2.St} {H : Hp} {De : Ends} (h : tSX K mg fx G ex exb (x >>= k) Hf s De σ H) (hx : GxOk fx G) :
    tX K mg fx G rm x Hf s σ H (fun b H1 => ∃ a Hf1 s1, Sub Hf Hf1 ∧ rm Hf1 a b ∧ tSX K mg fx G ex exb (k a) Hf1 s1 De σ H1) :=
  ⟨h.1, Mo.wp_mono (Mo.wp_bind h.2) (fun a s1 h1 b Hf1 H1 ste bag r => ⟨a, Hf1, s1, ste.sub, r, h.1.step ste bag, Mo.wp_mono h1 (fun f s2 h2 => h2.up ste.sub) fun e s' k => k⟩) fun e s' k => exs_ex hx k⟩
theorem tSX.weak {x : m (Fl α β)} {Hf : Hp} {s : S} {σ : L2.St} {H : Hp} {De : Ends} (h : tSX K mg fx G ex exb x Hf s De σ H) (w : Wk G G') : tSX K mg fx G' ex exb x Hf s De σ H := ⟨h.1.weak w, h.2⟩
theorem tSX.seq {exA : ε → List Sl} {x : m (Fl ε β)} {k : ε → m (Fl α β)} {Hf : Hp} {s : S} {σ : L2.St} {H : Hp} {De : Ends} (h : tSX K mg fx G ex exb (seqF x k) Hf s De σ H) :
    tSX K mg fx G exA exb x Hf s { De with nx := fun σ' H' => ∃ a, tS K mg fx (exA a) ex exb (k a) De σ' H' } σ H :=
  ⟨h.1, Mo.wp_mono (Mo.wp_bind h.2) (fun f s1 h1 => by
    cases f with
    | nx a => exact fun Hf' H' σ' sb st => ⟨a, Hf', s1, st, Mo.wp_mono h1 (fun f s2 h2 => h2.up sb) fun e s' k => k⟩
    | rt d => have z := Mo.wp_pure h1; exact z
    | bk b => have z := Mo.wp_pure h1; exact z
    | ct b => have z := Mo.wp_pure h1; exact z) fun e s' k => k⟩
end
section
variable {X : Cx}
theorem pss_ex {ι : Type} {sts : List Stmt} {t : ι → TS} (h : ∀ i, PSs X sts (t i)) : PSs X sts (fun D σ H => ∃ i, t i D σ H) := ⟨fun pins s σ H D I ⟨i, q⟩ => (h i).run pins s σ H D I q⟩
/-- what a context bears -/
structure Cok (X : Cx) (fx : Fx) (k : Nat) : Prop where
  calm : X.calm = true
  hp : PassesOwn (model X.prog X.w) X.A X.env X.xe
  tk : Takes X fx.W
  rm : Room k X.A
  nd : X.N.Nodup
  gd : X.A.guards = some []
end
section
variable {X : Cx} {fx : Fx} {m : Type → Type} [Mo m] {α β γ δ ε : Type} {G G' : List Sl} {ex : α → List Sl} {exb : β → List Sl} {exA : ε → List Sl} {rest A B : List Stmt} {pos : Pos} {kk : Nat} {x : m D} {k : D → m (Fl α β)} {e : Expr} {i : Nat}
theorem dss_nil {a : α} (w : Wk G (ex a)) : PSs X [] (tS X.K X.mg fx G ex exb (pure (.nx a) : m (Fl α β))) := pssI pss_nil fun D σ H ⟨Hf, s, h⟩ =>
  (Mo.wp_pure h.2) Hf H σ (.refl _) (h.1.weak w)
/-- x = e -/
theorem dss_asg (C : Cok X fx kk) {n : Str} {pos' : Pos} (i : Nat) (he : PE X e (tE X.K X.mg fx G x)) (hr : ∀ d, PSs X rest (tS X.K X.mg fx (G.set i (.im d)) ex exb (k d))) (hi : X.N[i]? = some n := by rfl) (hx : Loc X.env.scope n := by first | exact Or.inl rfl | exact Or.inr rfl)
    (hs : swapsWith e (some (.Name n pos')) pos.line X.env = pure false := by rfl) (hf : X.fn n = true ∨ X.env.scope.names.lookup n = some .local := by first | exact .inl rfl | exact .inr rfl) (hg : GxOk fx G := by first | exact True.intro | repeat' (first | exact True.intro | exact Or.inl rfl | exact Or.inr rfl | refine And.intro ?_ ?_)) :
    PSs X (.Assign [.Name n pos'] e pos :: rest) (tS X.K X.mg fx G ex exb (x >>= k)) := pssI (pss_cons (ps_set C.nd hi hx he hs hf) (pss_ex hr)) fun D σ H ⟨Hf, s, h⟩ =>
  ((h.bind hg).mono fun v H1 ⟨d, Hf1, s1, sb, r, h1⟩ => ⟨d, Hf1, s1, h1.1.set r, h1.2⟩).to
/-- return e -/
theorem dss_ret (he : PE X e (tE X.K X.mg fx G x)) (hnr : fx.nr = false := by rfl) (hg : GxOk fx G := by first | exact True.intro | repeat' (first | exact True.intro | exact Or.inl rfl | exact Or.inr rfl | refine And.intro ?_ ?_)) : PSs X (.Return (some e) pos :: rest) (tS X.K X.mg fx G ex exb (do let d ← x; pure (.rt d))) := pssI (pss_cons (ps_ret he) pss_never) fun D σ H ⟨Hf, s, h⟩ =>
  ((h.bind hg).mono fun v H1 ⟨d, Hf1, s1, sb, r, h1⟩ => (Mo.wp_pure h1.2) v Hf1 H1 h1.1.ste h1.1.bag (by rw [hnr]; exact r)).to
/-- if -/
theorem dss_if {c : Expr} {xc : m Bool} {xa xb : m (Fl ε β)} {k : ε → m (Fl α β)} (hc : PT X c (tT X.K X.mg fx G xc)) (ha : PSs X A (tS X.K X.mg fx G exA exb xa)) (hb : PSs X B (tS X.K X.mg fx G exA exb xb)) (hr : ∀ a, PSs X rest (tS X.K X.mg fx (exA a) ex exb (k a))) (hg : GxOk fx G := by first | exact True.intro | repeat' (first | exact True.intro | exact Or.inl rfl | exact Or.inr rfl | refine And.intro ?_ ?_)) :
    PSs X (.If c A B pos :: rest) (tS X.K X.mg fx G ex exb (do let t ← xc; seqF (if t = true then xa else xb) k)) := pssI (pss_cons (ps_if hc ha hb) (pss_ex hr)) fun D σ H ⟨Hf, s, h⟩ =>
  ((h.bind hg).mono fun v H1 ⟨d, Hf1, s1, sb, r, h1⟩ => by
    cases r
    cases v with
    | true => exact h1.seq.to
    | false => exact h1.seq.to).to
end
/-! ### what is walked -/
section
variable (K : PySem.W.Frag) (mg : Str → Option Value)
def Yl (J : It) (Hf0 : Hp) (ds : List D) : Prop := ds.length ≤ sizeLine ∧ ∀ Hf H, Sub Hf0 Hf → Sub Hf H → ∀ i : Nat,
  (∀ d, ds[i]? = some d → J.go i H ∧ ∀ x H', J.yld i H x H' → ∃ Hf', Ste [] Hf H Hf' H' ∧ Is K mg Hf' d x) ∧ (ds.length ≤ i → J.stop i H)
abbrev tI (fx : Fx) (G : List Sl) {m : Type → Type} [Mo m] (x : m (List D)) : TI := tG K mg fx G (fun Hf ds J => Yl K mg J Hf ds) x
end
section
variable {X : Cx} {fx : Fx} {m : Type → Type} [Mo m] {α β γ : Type} {G G' : List Sl} {ex : α → List Sl} {exb : β → List Sl} {rest body : List Stmt} {pos : Pos} {kk : Nat}
/-- a target: it takes c of the datum (u), and sets slots (st) -/
def PGd (X : Cx) (fx : Fx) (tg : Expr) (g : TG) (u : D → Option γ) (st : List Sl → γ → List Sl) (is : List Nat) : Prop :=
  PG X tg g ∧ ∀ {G : List Sl} {Hf : Hp} {d : D} {v : V} {σ : L2.St} {H : Hp} {s : S} {c : γ} {Q : L2.St → Hp → Prop}, StS X.K X.mg fx Hf H σ G s → Is X.K X.mg Hf d v → u d = some c → (∀ σ', (∀ j, j ∉ is → σ'[j]? = σ[j]?) → σ'.length = σ.length → StS X.K X.mg fx Hf H σ' (st G c) s → Q σ' H) → g v σ H Q
theorem pgd_name (C : Cok X fx kk) (i : Nat) {n : Str} (hi : X.N[i]? = some n := by rfl) (hx : Loc X.env.scope n := by first | exact Or.inl rfl | exact Or.inr rfl) (hf : X.fn n = true ∨ X.env.scope.names.lookup n = some .local := by first | exact .inl rfl | exact .inr rfl) :
    PGd X fx (.Name n pos) (gName i) (fun d => some d) (fun G d => G.set i (.im d)) [i] :=
  ⟨pg_name C.nd hi hx hf, fun {G Hf d v σ H s c Q} st r e q => by
    cases e
    exact q _ (fun j hj => List.getElem?_set_ne (fun z => hj (by simp [z]))) (by simp) (st.set r)⟩
theorem dss_for {ε : Type} {exl : ε → List Sl} {tg iter : Expr} {g : TG} {u : D → Option γ} {st : List Sl → γ → List Sl} {xi : m (List D)} {xb : ε → γ → m (Fl ε ε)} {k : ε → m (Fl α β)} {is : List Nat} (a0 : ε) (C : Cok X fx kk) (hi : PI X tg iter (tI X.K X.mg fx G xi)) (hg : PGd X fx tg g u st is)
    (w : Wk G (exl a0)) (hb : ∀ a c, PSs X body (tS X.K X.mg fx (st (exl a) c) exl exl (xb a c))) (hr : ∀ a, PSs X rest (tS X.K X.mg fx (exl a) ex exb (k a))) (hs : ∀ x, foldedSetIterable iter X.env x = pure x := by intro _; rfl) (hx : GxOk fx G := by first | exact True.intro | repeat' (first | exact True.intro | exact Or.inl rfl | exact Or.inr rfl | refine And.intro ?_ ?_)) :
    PSs X (.For tg iter body [] pos :: rest) (tS X.K X.mg fx G ex exb (do let ds ← xi; seqF (forF u xb ds a0) k)) := by
  refine pssI (pss_cons (ps_for C.hp C.calm hi hg.1 (pss_ex (ι := ε × γ) (t := fun p => tS X.K X.mg fx (st (exl p.1) p.2) exl exl (xb p.1 p.2)) fun p => hb p.1 p.2) hs) (pss_ex hr)) fun D σ H ⟨Hf, s, h⟩ => ?_
  refine ((h.bind hx).mono fun J H1 ⟨ds, Hf1, s1, sb, yl, h1⟩ => ?_).to
  have h2 := h1.seq (exA := exl)
  obtain ⟨st1, w1⟩ := h2
  refine ⟨fun i m σ H => m = ds.length - i ∧ i ≤ ds.length ∧ ∃ a Hf s, Sub Hf1 Hf ∧ StS X.K X.mg fx Hf H σ (exl a) s ∧
    Mo.wp (forF (β := β) u xb (ds.drop i) a) s (FP X.K X.mg fx Hf exl exb { D with nx := fun σ' H' => ∃ a, tS X.K X.mg fx (exl a) ex exb (k a) D σ' H' }) (EXS X.K X.mg fx), ⟨ds.length, by simp, Nat.zero_le _, a0, Hf1, s1, .refl _, st1.weak w, w1⟩, ?_⟩
  rintro i m σ H ⟨rfl, hi, a, Hf2, s2, sb2, st2, w2⟩
  obtain ⟨y1, y2⟩ := yl.2 Hf2 H sb2 st2.top i
  by_cases hlt : i < ds.length
  · obtain ⟨go, yd⟩ := y1 ds[i] (List.getElem?_eq_getElem hlt)
    rw [List.drop_eq_getElem_cons hlt] at w2
    have w3 := Mo.wp_bind w2
    have w4 := Mo.wp_lift w3
    refine .inr ⟨go, fun σ' H' => i + 1 ≤ ds.length ∧ ∃ a Hf s, Sub Hf1 Hf ∧ StS X.K X.mg fx Hf H' σ' (exl a) s ∧
      Mo.wp (forF (β := β) u xb (ds.drop (i + 1)) a) s (FP X.K X.mg fx Hf exl exb { D with nx := fun σ' H' => ∃ a, tS X.K X.mg fx (exl a) ex exb (k a) D σ' H' }) (EXS X.K X.mg fx), fun σ' H' q => ⟨ds.length - (i + 1), by omega, rfl, q⟩, fun x H' y => ?_⟩
    obtain ⟨Hf3, e3, is3⟩ := yd x H' y
    cases q : u ds[i] with
    | none => rw [q] at w4; exact w4.elim
    | some c =>
      rw [q] at w4
      have st3 := st2.step e3.wide (e3.bag st2.bag)
      refine hg.2 st3 is3 q fun σ' _ _ st4 => ?_
      refine ⟨(a, c), Hf3, s2, st4, ?_⟩
      refine Mo.wp_mono (Mo.wp_bind w4) (fun f s5 h5 => ?_) fun e s' k => k
      cases f with
      | nx a' => exact fun Hf' H' σ' sb' st' => ⟨hlt, a', Hf', s5, (sb2.trans e3.sub).trans sb', st', Mo.wp_mono h5 (fun f s2 h2 => h2.up (e3.sub.trans sb')) fun e s' k => k⟩
      | ct a' => exact fun Hf' H' σ' sb' st' => ⟨hlt, a', Hf', s5, (sb2.trans e3.sub).trans sb', st', Mo.wp_mono h5 (fun f s2 h2 => h2.up (e3.sub.trans sb')) fun e s' k => k⟩
      | bk a' => have z := Mo.wp_pure h5; exact fun Hf' H' σ' sb' => z Hf' H' σ' (e3.sub.trans sb')
      | rt d => have z := Mo.wp_pure h5; exact z
  · have e : i = ds.length := by omega
    subst e
    refine .inl ⟨y2 (Nat.le_refl _), ?_⟩
    rw [List.drop_length] at w2
    exact (Mo.wp_pure w2) Hf2 H σ (.refl _) st2
end
end DL
namespace DL
open PySem L2
/-! ### defs -/
def runR (nr : Bool) : R (Fl Unit Empty) → R D
  | .ok (.nx _) => if nr = true then .stuck else .ok .non
  | .ok (.rt d) => .ok d
  | .ok (.bk b) => b.elim
  | .ok (.ct b) => b.elim
  | .ex e => .ex e
  | .stuck => .stuck
def runM (nr : Bool) (x : M (Fl Unit Empty)) : M D := fun s => match x s with
  | .ok (.nx _) s => if nr = true then .stuck else .ok .non s
  | .ok (.rt d) s => .ok d s
  | .ok (.bk b) _ => b.elim
  | .ok (.ct b) _ => b.elim
  | .ex e s => .ex e s
  | .stuck => .stuck
def unG (N : List Str) : List Sl := N.map fun _ => .un
def G0 (N : List Str) (ds : List D) : List Sl := ds.map Sl.im ++ List.replicate (N.length - ds.length) .un
def G1 (N : List Str) (ds : List D) : List Sl := .bg :: (ds.map Sl.im ++ List.replicate (N.length - ds.length - 1) .un)
abbrev fxE (bag : List Addr) (nr : Bool) (H Hf : Hp) (E : XK) : Fx := ⟨bag, H, Hf, fun cls d _ H' => E cls d H', none, nr, [], []⟩
section
variable (K : PySem.W.Frag) (mg : Str → Option Value)
def spR (nr : Bool) (n : Nat) (g : List D → R D) : Sp := fun vs H Q E => vs.length = n ∧ ∃ Hf ds, Sub Hf H ∧ IsL K mg Hf ds vs ∧ (match g ds with
  | .ok d => ∀ v Hf' H', Ste [] Hf H Hf' H' → RtOk K mg nr H Hf' H' d v → Q v H'
  | .ex e => ∀ cls dd Hf' H', Ste [] Hf H Hf' H' → ExIs K mg Hf' H' e cls dd → E cls dd H'
  | .stuck => False)
def spM (nr : Bool) (n : Nat) (g : List D → M D) : Sp := fun vs H Q E => vs.length = n ∧ ∃ bag b r Hf ds vs' s, bag = b :: r ∧ vs = .ref b :: vs' ∧ Sub Hf H ∧ (∀ b ∈ bag, Hf b = none ∧ H b ≠ none) ∧ BagAt bag H s ∧ IsL K mg Hf ds vs' ∧ (match g ds s with
  | .ok d s' => ∀ v Hf' H', Ste bag Hf H Hf' H' → BagAt bag H' s' → RtOk K mg nr H Hf' H' d v → Q v H'
  | .ex e s' => ∀ cls dd Hf' H', Ste bag Hf H Hf' H' → BagAt bag H' s' → ExIs K mg Hf' H' e cls dd → E cls dd H'
  | .stuck => False)
end
theorem start_at {N : List Str} {vs : List V} {i : Nat} {v : V} (h : vs[i]? = some v) : (start N vs)[i]? = some (some v) := by
  unfold L2.start
  have hl : i < vs.length := (List.getElem?_eq_some_iff.mp h).1
  rw [List.getElem?_append_left (by simpa using hl), List.getElem?_map, h]
  rfl
theorem start_len {N : List Str} {vs : List V} (h : vs.length ≤ N.length) : (start N vs).length = N.length := by
  unfold L2.start
  simp
  omega
theorem isOw_im {ds : List D} {n i : Nat} {x : Sl} (h : (ds.map Sl.im ++ List.replicate n .un)[i]? = some x) (o : isOw x = true) : False := by
  have hm := List.mem_of_getElem? h
  rcases List.mem_append.mp hm with hm | hm
  · obtain ⟨d, _, rfl⟩ := List.mem_map.mp hm
    cases o
  · have := List.eq_of_mem_replicate hm
    subst this
    cases o
section
variable {K : PySem.W.Frag} {mg : Str → Option Value}
theorem slOk_G0 {fx : Fx} {Hf H : Hp} {ds : List D} {vs : List V} {N : List Str} {n : Nat} (l : IsL K mg Hf ds vs) {i : Nat} {x : Sl} (e : (ds.map Sl.im ++ List.replicate n .un)[i]? = some x) : SlOk K mg fx Hf H (vs[i]?.map some) x := by
  by_cases h : i < ds.length
  · rw [List.getElem?_append_left (by simpa using h), List.getElem?_map, List.getElem?_eq_getElem h] at e
    cases e
    obtain ⟨v, hv, hi⟩ := l.get (List.getElem?_eq_getElem h)
    exact ⟨v, by rw [hv]; rfl, hi⟩
  · rw [List.getElem?_append_right (by simpa using Nat.le_of_not_lt h)] at e
    have := List.eq_of_mem_replicate (List.mem_of_getElem? e)
    subst this
    trivial
theorem StS.init0 {nr : Bool} {Hf H : Hp} {E : XK} {ds : List D} {vs : List V} {N : List Str} {s : S} (sb : Sub Hf H) (l : IsL K mg Hf ds vs) (hn : vs.length ≤ N.length) : StS K mg (fxE [] nr H Hf E) Hf H (start N vs) (G0 N ds) s := by
  refine ⟨.refl sb, trivial, fun b hb => (by cases hb), ?_, fun i x e => ?_, fun i j x y p _ ex _ ox _ => (isOw_im ex ox).elim⟩
  · rw [start_len hn]
    unfold G0
    have := l.len
    simp
    omega
  · have q := slOk_G0 (fx := fxE [] nr H Hf E) (H := H) (N := N) l e
    cases x with
    | un => trivial
    | im d =>
      obtain ⟨v, hv, hi⟩ := q
      refine ⟨v, ?_, hi⟩
      cases h : vs[i]? with
      | none => rw [h] at hv; cases hv
      | some w => rw [h] at hv; cases hv; exact start_at h
    | ow ds => exact (isOw_im e rfl).elim
    | od ks ds => exact (isOw_im e rfl).elim
    | ob ns ds => exact (isOw_im e rfl).elim
    | bg =>
      obtain ⟨b, r, e, _⟩ := q
      cases e
theorem StS.init1 {nr : Bool} {Hf H : Hp} {E : XK} {ds : List D} {vs : List V} {N : List Str} {s : S} {bag : List Addr} {b : Addr} {r : List Addr} (eb : bag = b :: r) (sb : Sub Hf H) (hb : ∀ b ∈ bag, Hf b = none ∧ H b ≠ none) (bg : BagAt bag H s) (l : IsL K mg Hf ds vs) (hn : vs.length + 1 ≤ N.length) :
    StS K mg (fxE bag nr H Hf E) Hf H (start N (.ref b :: vs)) (G1 N ds) s := by
  refine ⟨.refl sb, bg, fun b m => ⟨(hb b m).1, (hb b m).2, fun z => nomatch z⟩, ?_, fun i x e => ?_, fun i j x y p _ ex _ ox _ => ?_⟩
  · rw [start_len (by simpa using hn)]
    unfold G1
    have := l.len
    simp
    omega
  · cases i with
    | zero =>
      cases e
      exact ⟨b, r, eb, start_at rfl⟩
    | succ i =>
      have e' : (ds.map Sl.im ++ List.replicate (N.length - ds.length - 1) .un)[i]? = some x := e
      have q := slOk_G0 (fx := fxE bag nr H Hf E) (H := H) (N := N) l e'
      cases x with
      | un => trivial
      | im d =>
        obtain ⟨v, hv, hi⟩ := q
        refine ⟨v, ?_, hi⟩
        cases h : vs[i]? with
        | none => rw [h] at hv; cases hv
        | some w => rw [h] at hv; cases hv; exact start_at (by simpa using h)
      | ow ds => exact (isOw_im e' rfl).elim
      | od ks ds => exact (isOw_im e' rfl).elim
      | ob ns ds => exact (isOw_im e' rfl).elim
      | bg =>
        have hm := List.mem_of_getElem? e'
        rcases List.mem_append.mp hm with hm | hm
        · obtain ⟨d, _, z⟩ := List.mem_map.mp hm
          cases z
        · have := List.eq_of_mem_replicate hm
          cases this
  · cases i with
    | zero => cases ex; cases ox
    | succ i => exact (isOw_im (n := N.length - ds.length - 1) (ds := ds) (i := i) ex ox).elim
end
/-- a def's promise where no repr is under way -/
structure FnG (P : Program) (w : World) (K : PySem.W.Frag) (mg : Str → Option Value) (base : Heap) (k : Nat) (f : Addr) (fd : FuncData) (ps : List Str) (sp : Sp) : Prop where
  len : ∀ vs H Q E, sp vs H Q E → vs.length = ps.length
  run : ∀ (A : Around) (outer : List Env) (s : Shared) (H : Hp) (args : Args) (us : List Value) (vs : List V) (Q : VK) (E : XK), A.guards = some [] → Room k A → Env0 P w K mg base A outer s H → BindsTo s fd args (ps.zip us) → Vals vs us → sp vs H Q E →
    codeAny (model P w) A (.call (.ref f) args) (CR (L2.CX P w) outer P w H s Q E) s
/-- a call's end, for the caller -/
theorem ends_call {X : Cx} {pins : List (Addr × Obj)} {σ : L2.St} {H : Hp} {s s' : Shared} {Q : VK} {E : XK} {r : PySem.Result} (I : Inv X pins σ H s) (hx : PassesAt (L2.CX X.prog X.w) X σ E) (hq : CR (L2.CX X.prog X.w) X.stack X.prog X.w H s Q E r s') :
    match r with
    | .ok (.ret u) => EP X pins σ Q u s'
    | .ok _ => False
    | .error e => X.xe e s' := by
  cases r with
  | error e => exact hx pins H s e s' I hq
  | ok fl => cases fl <;> first | exact I.after hq | exact hq
theorem run_g {X : Cx} {k : Nat} {f : Addr} {fd : FuncData} {ps : List Str} {sp : Sp} {dvs : List V} {ds : List Value} {E : L2.St → XK} {pins : List (Addr × Obj)} {σ : L2.St} {H : Hp} {s : Shared} {Q : VK} {us : List Value} {vs : List V} (F : FnG X.prog X.w X.K X.mg X.base k f fd ps sp) (hg : X.A.guards = some []) (hr : Room k X.A) (hb : Binds X.K fd ps ds) (hd : Vals dvs ds)
    (hx : PassesAt (L2.CX X.prog X.w) X σ (E σ)) (I : Inv X pins σ H s) (r : Vals vs us) (h : sp (vs ++ dvs) H Q (E σ)) : wpAny (model X.prog X.w) X.A (call (.ref f) us) (EP X pins σ Q) X.xe s := by
  have ra := r.append hd
  have hl := F.len _ _ _ _ h
  rw [ra.length] at hl
  refine wpAny_call (codeAny_mono (F.run X.A X.stack s H ⟨us, []⟩ (us ++ ds) (vs ++ dvs) Q (E σ) hg hr I.env0 (hb s us I.kIn hl) ra h) fun r s' hq => ?_)
  have z := ends_call I hx hq
  cases r with
  | error e => exact z
  | ok fl => cases fl <;> first | exact z | exact z.elim
theorem pe_callG {X : Cx} {k : Nat} {f : Addr} {fd : FuncData} {ps : List Str} {sp : Sp} {dvs : List V} {ds : List Value} {E : L2.St → XK} {x : Str} {p pos : Pos} {e : Expr} {es : List Expr} {t : TA} (F : FnG X.prog X.w X.K X.mg X.base k f fd ps sp) (hgd : X.A.guards = some []) (hr : Room k X.A) (hg : Gl X x) (hm : X.mg x = some (.ref f)) (hk : PySem.W.keepIn X.K (.ref f) = true) (hb : Binds X.K fd ps ds) (hd : Vals dvs ds)
    (hx : ∀ σ, PassesAt (L2.CX X.prog X.w) X σ (E σ)) (ha : PA X (e :: es) t) (hdb : (x == ("__debug__" : Str)) = false := by decide) (he : starEach (e :: es) X.env = (false, eval e X.env) :: starEach es X.env := by rfl) (hpl : (backTo pos (starEach es X.env)).any (·.1) = false := by rfl) :
    PE X (.Call (.Name x p) (e :: es) [] pos) (fun σ H Q => t σ H fun vs H1 => sp (vs ++ dvs) H1 Q (E σ)) := ⟨fun pins s σ H Q I h =>
  wpAny_Call_Name_kw (ld_glob I hg hm (PySem.W.callWith_K (h₀ := X.base) I.ok.mod.kin hk (thn (ha.run pos pins s σ H _ I h) fun us s1 ⟨vs, H1, I1, r, q⟩ => ⟨I1.kIn, run_g F hgd hr hb hd (hx σ) I1 r q⟩) he hpl) hdb)⟩
section
variable {P : Program} {w : World} {K : PySem.W.Frag} {mg : Str → Option Value} {base : Heap}
open PyProof.Rows PySem.Spec in
/-- a def by its body -/
theorem fn_g {x qual : Str} {st : Stmt} {f : Addr} {fd : FuncData} {N ps : List Str} {k : Nat} {sp : Sp} (F : Fun K x qual st f fd) (Sc : FnScope N ps (defScope st)) (len : ∀ vs H Q E, sp vs H Q E → vs.length = ps.length)
    (hbody : ∀ (cdv : Value) (A : Around) (outer : List Env) (s : Shared) (H : Hp) (vs : List V) (Q : VK) (E : XK), A.guards = some [] → Room k (A.deeper (envOfC qual (defScope st) s.heap.objs.size f cdv)) → sp vs H Q E →
      ∃ t, PSs (cxOf (L2.CX P w) P w K mg base N qual (defScope st) f cdv A outer s H E) (defBody st) t ∧ t { nx := fun _ H' => Q .non H', rt := Q } (start N vs) H) : FnG P w K mg base (k + 1) f fd ps sp := by
  refine ⟨len, fun A outer s H args us vs Q E gd hr e0 hb r hsp => ?_⟩
  obtain ⟨oc, od, kV, doc, pm, an, cdv, ct, osl, rfl, lk, hcd⟩ := F.ex
  have kp := fun b o e => (e0.bs b o e).1
  have hk : ∀ y ∈ ps.zip us, (defScope st).names.lookup y.1 = some .local ∨ ((defScope st).names.lookup y.1 = some .cell ∧ ((cellsFrom (s.heap.objs.size + 1) (defScope st).names []).lookup y.1).isSome = true) := fun y hy =>
    (Sc.par y.1 (List.of_mem_zip (a := y.1) (b := y.2) hy).1).imp (fun q => q) fun q => ⟨q, PySem.W.cellsFrom_some _ _ _ (.inl q)⟩
  refine codeAny_call_function hr.depth (e0.mod.kin.keeps kp _ _ lk) rfl Sc.co Sc.gen rfl (PySem.W.codeRec_of (e0.mod.kin.keeps kp) hcd) (hb _ _ _ _ (wpAny_newFunctionEnv_cells Sc.kind hk fun env he s1 x => ?_))
  subst he
  obtain ⟨t, ht, hq⟩ := hbody cdv A outer s H vs Q E gd (hr.deeper _) hsp
  have I : Inv (cxOf (L2.CX P w) P w K mg base N qual (defScope st) f cdv A outer s H E) [] (start N vs) H s1 := inv_start Sc hr.hd e0 (len _ _ _ _ hsp) r x
  refine ⟨(e0.mod.nolimit.keeps kp).keeps x.toInCall.keep, codeAny_func (wpAny_mono (ht.run [] s1 (start N vs) H _ I hq) (fun fl s' hs => ?_) fun e s' hs => hs)⟩
  cases fl with
  | ret u =>
    obtain ⟨v, σ', H', J, rv, q⟩ := hs
    exact ⟨v, H', J.os, J.bare, J.base, J.hok, rv, q⟩
  | next =>
    obtain ⟨σ', H', J, q⟩ := hs
    exact ⟨.non, H', J.os, J.bare, J.base, J.hok, rfl, q⟩
  | brk => exact hs.elim fun _ h => h.elim fun _ h => h.2.elim
  | cont => exact hs.elim fun _ h => h.elim fun _ h => h.2.elim
/-- a def without a bag -/
theorem fnR {nr : Bool} {x qual : Str} {st : Stmt} {f : Addr} {fd : FuncData} {N ps : List Str} {k n : Nat} {g : List D → R D} (F : Fun K x qual st f fd) (Sc : FnScope N ps (defScope st)) (hn : ps.length = n) (hN : n ≤ N.length)
    (hb : ∀ (cdv : Value) (A : Around) (outer : List Env) (s : Shared) (H Hf : Hp) (E : XK) (ds : List D), Cok (cxOf (L2.CX P w) P w K mg base N qual (defScope st) f cdv A outer s H E) (fxE [] nr H Hf E) k → ds.length = n →
      ∃ body : R (Fl Unit Empty), PSs (cxOf (L2.CX P w) P w K mg base N qual (defScope st) f cdv A outer s H E) (defBody st)
        (tS (cxOf (L2.CX P w) P w K mg base N qual (defScope st) f cdv A outer s H E).K (cxOf (L2.CX P w) P w K mg base N qual (defScope st) f cdv A outer s H E).mg (fxE [] nr H Hf E) (G0 N ds) (fun _ => unG N) Empty.elim body) ∧ g ds = runR nr body) :
    FnG P w K mg base (k + 1) f fd ps (spR K mg nr n g) := by
  refine fn_g F Sc (fun vs H Q E h => h.1.trans hn.symm) (fun cdv A outer s H vs Q E gd hr h => ?_)
  obtain ⟨hl, Hf, ds, sb, l, q⟩ := h
  have C : Cok (cxOf (L2.CX P w) P w K mg base N qual (defScope st) f cdv A outer s H E) (fxE [] nr H Hf E) k := ⟨rfl, passes_of rfl, takes_of rfl rfl rfl rfl, hr, Sc.nd, gd⟩
  obtain ⟨body, hp, hg⟩ := hb cdv A outer s H Hf E ds C (l.len.trans hl)
  refine ⟨_, hp, Hf, ⟨0, 0, 0, [], false⟩, .init0 sb l (by omega), ?_⟩
  rw [hg] at q
  show R.wp body _ _ _
  cases body with
  | ok f =>
    cases f with
    | nx a =>
      cases nr with
      | true => exact (show False from q).elim
      | false => exact fun Hf' H' σ' _ st => q .non Hf' H' st.ste (rfl : V.non = V.non)
    | rt d => exact fun v Hf' H' st _ i => q v Hf' H' st i
    | bk b => exact b.elim
    | ct b => exact b.elim
  | ex e => exact fun cls dd σ' Hf' H' st x => q cls dd Hf' H' st.1 x
  | stuck => exact q
theorem fnM {nr : Bool} {x qual : Str} {st : Stmt} {f : Addr} {fd : FuncData} {N ps : List Str} {k n : Nat} {g : List D → M D} (F : Fun K x qual st f fd) (Sc : FnScope N ps (defScope st)) (hn : ps.length = n + 1) (hN : n + 1 ≤ N.length)
    (hb : ∀ (cdv : Value) (A : Around) (outer : List Env) (s : Shared) (H Hf : Hp) (bag : List Addr) (E : XK) (ds : List D), Cok (cxOf (L2.CX P w) P w K mg base N qual (defScope st) f cdv A outer s H E) (fxE bag nr H Hf E) k → ds.length = n →
      ∃ body : M (Fl Unit Empty), PSs (cxOf (L2.CX P w) P w K mg base N qual (defScope st) f cdv A outer s H E) (defBody st)
        (tS (cxOf (L2.CX P w) P w K mg base N qual (defScope st) f cdv A outer s H E).K (cxOf (L2.CX P w) P w K mg base N qual (defScope st) f cdv A outer s H E).mg (fxE bag nr H Hf E) (G1 N ds) (fun _ => unG N) Empty.elim body) ∧ g ds = runM nr body) :
    FnG P w K mg base (k + 1) f fd ps (spM K mg nr (n + 1) g) := by
  refine fn_g F Sc (fun vs H Q E h => h.1.trans hn.symm) (fun cdv A outer s H vs Q E gd hr h => ?_)
  obtain ⟨hl, bag, b, r, Hf, ds, vs', s0, eb, rfl, sb, hbb, bg, l, q⟩ := h
  have C : Cok (cxOf (L2.CX P w) P w K mg base N qual (defScope st) f cdv A outer s H E) (fxE bag nr H Hf E) k := ⟨rfl, passes_of rfl, takes_of rfl rfl rfl rfl, hr, Sc.nd, gd⟩
  have hl' : vs'.length = n := by simpa using hl
  obtain ⟨body, hp, hg⟩ := hb cdv A outer s H Hf bag E ds C (l.len.trans hl')
  refine ⟨_, hp, Hf, s0, .init1 eb sb hbb bg l (by omega), ?_⟩
  rw [hg] at q
  show (body s0).wp _ _
  have e : runM nr body s0 = (match body s0 with
    | .ok (.nx _) s => if nr = true then .stuck else .ok .non s
    | .ok (.rt d) s => .ok d s
    | .ok (.bk b) _ => b.elim
    | .ok (.ct b) _ => b.elim
    | .ex e s => .ex e s
    | .stuck => .stuck) := rfl
  rw [e] at q
  cases z : body s0 with
  | ok f s1 =>
    rw [z] at q
    cases f with
    | nx a =>
      cases nr with
      | true => exact (show False from q).elim
      | false => exact fun Hf' H' σ' _ st => q .non Hf' H' st.ste st.bag (rfl : V.non = V.non)
    | rt d => exact fun v Hf' H' st bg i => q v Hf' H' st bg i
    | bk b => exact b.elim
    | ct b => exact b.elim
  | ex e s1 => rw [z] at q; exact fun cls dd σ' Hf' H' st x => q cls dd Hf' H' st.1 st.2 x
  | stuck => rw [z] at q; exact q
end
section
variable {X : Cx} {fx : Fx} {m : Type → Type} [Mo m] {G : List Sl} {es : List Expr} {pos : Pos} {ys : m (List D)} {kk j n : Nat} {g : List D → R D} {f : Addr} {fd : FuncData} {ps : List Str} {nm : Str} {p : Pos} {e : Expr}
/-- a call of a def without a bag -/
theorem fn_core {vs : List V} {ds : List D} {Hf : Hp} {s : S} {σ : L2.St} {H : Hp} {Q : VK} (hn : vs.length = n) (r : IsL X.K X.mg Hf ds vs) (h : tX X.K X.mg fx G (fun H d v => Is X.K X.mg H d v) (Mo.lift (g ds) : m D) Hf s σ H Q) : spR X.K X.mg false n g vs H Q (WE fx.W σ) := by
  have w := Mo.wp_lift h.2
  refine ⟨hn, Hf, ds, h.1.top, r, ?_⟩
  cases z : g ds with
  | ok d => rw [z] at w; exact fun v Hf' H' st i => w v Hf' H' st.wide (st.bag h.1.bag) i
  | ex e => rw [z] at w; exact fun cls dd Hf' H' st x => w cls dd Hf' H' (h.1.step st.wide (st.bag h.1.bag)) x
  | stuck => rw [z] at w; exact w
theorem de_fn (C : Cok X fx kk) (F : FnG X.prog X.w X.K X.mg X.base j f fd ps (spR X.K X.mg false n g)) (hm : X.mg nm = some (.ref f)) (hk : PySem.W.keepIn X.K (.ref f) = true) (hb : Binds X.K fd ps []) (ha : PA X (e :: es) (tA X.K X.mg fx G ys)) (hn : ∀ ds : List D, g ds ≠ .stuck → ds.length = n)
    (hj : j ≤ kk := by decide) (hg : Gl X nm := by rfl) (hdb : (nm == ("__debug__" : Str)) = false := by decide) (he : starEach (e :: es) X.env = (false, eval e X.env) :: starEach es X.env := by rfl) (hpl : (backTo pos (starEach es X.env)).any (·.1) = false := by rfl) :
    PE X (.Call (.Name nm p) (e :: es) [] pos) (tE X.K X.mg fx G (do let ds ← ys; Mo.lift (g ds))) := peI (pe_callG (E := WE fx.W) F C.gd (C.rm.mono hj) hg hm hk hb .nil (fun σ => passAt C.tk σ) ha hdb he hpl) fun σ H Q ⟨Hf, s, h⟩ =>
  (h.bind.mono fun vs H1 ⟨ds, Hf1, s1, sb, r, h1⟩ => by
    rw [List.append_nil]
    exact fn_core (by
    have w := Mo.wp_lift h1.2
    rw [← r.len]
    refine hn ds fun z => ?_
    rw [z] at w
    exact w) r h1).to
end
section
variable {X : Cx} {fx : Fx} {G : List Sl} {es : List Expr} {pos : Pos} {ys : M (List D)} {kk j n : Nat} {g : List D → M D} {f : Addr} {fd : FuncData} {ps : List Str} {nm bn : Str} {p bp : Pos}
/-- a call of a def with the bag -/
theorem de_fnM (C : Cok X fx kk) (i : Nat) (F : FnG X.prog X.w X.K X.mg X.base j f fd ps (spM X.K X.mg false (n + 1) g)) (hm : X.mg nm = some (.ref f)) (hk : PySem.W.keepIn X.K (.ref f) = true) (hb : Binds X.K fd ps []) (ha : PA X es (tA X.K X.mg fx G ys)) (hn : ∀ ds s, g ds s ≠ .stuck → ds.length = n)
    (hG : G[i]? = some .bg := by rfl) (hN : X.N[i]? = some bn := by rfl) (hv : Vis X.env.scope bn := by first | exact Or.inl rfl | exact Or.inr (Or.inl rfl) | exact Or.inr (Or.inr rfl))
    (hj : j ≤ kk := by decide) (hg : Gl X nm := by rfl) (hdb : (nm == ("__debug__" : Str)) = false := by decide) (he : starEach (.Name bn bp :: es) X.env = (false, eval (.Name bn bp) X.env) :: starEach es X.env := by rfl) (hpl : (backTo pos (starEach es X.env)).any (·.1) = false := by rfl)
    (hd : (bn == ("__debug__" : Str)) = false := by decide) (hcd : (bn == ("__classdict__" : Str)) = false := by decide) :
    PE X (.Call (.Name nm p) (.Name bn bp :: es) [] pos) (tE X.K X.mg fx G (do let ds ← ys; g ds)) :=
  peI (pe_callG (E := WE fx.W) F C.gd (C.rm.mono hj) hg hm hk hb .nil (fun σ => passAt C.tk σ) (pa_cons (pe_var hN hv hd hcd) ha he) hdb he hpl) fun σ H Q ⟨Hf, s, h⟩ => by
    obtain ⟨b, r, eb, ev⟩ := h.1.sl i _ hG
    refine ⟨.ref b, ev, (h.bind.mono fun vs H1 ⟨ds, Hf1, s1, sb, rl, h1⟩ => ?_).to⟩
    show spM X.K X.mg false (n + 1) g ((.ref b :: vs) ++ []) H1 Q (WE fx.W σ)
    rw [List.append_nil]
    have w : (g ds s1).wp _ _ := h1.2
    have hlen : ds.length = n := hn ds s1 fun z => by rw [z] at w; exact w
    refine ⟨by rw [List.length_cons, ← rl.len, hlen], fx.bag, b, r, Hf1, ds, vs, s1, eb, rfl, h1.1.top, h1.1.bagf, h1.1.bag, rl, ?_⟩
    cases z : g ds s1 with
    | ok d s' => rw [z] at w; exact fun v Hf' H' st bg i => w v Hf' H' st bg i
    | ex e s' => rw [z] at w; exact fun cls dd Hf' H' st bg x => w cls dd Hf' H' (h1.1.step st bg) x
    | stuck => rw [z] at w; exact w
end
end DL
namespace DL
open PySem L2
/-! ### plain data -/
mutual
def toPy : D → Option PyData
  | .non => some .none
  | .bl b => some (.bool b)
  | .int i => some (.int i)
  | .str s => some (.str ⟨s.toArray⟩)
  | .tup ds => (toPyL ds).map .tuple
  | .lst ds => (toPyL ds).map .list
  | _ => none
def toPyL : List D → Option (List PyData)
  | [] => some []
  | d :: ds => do
    let x ← toPy d
    let xs ← toPyL ds
    return x :: xs
end
section
variable {K : PySem.W.Frag} {mg : Str → Option Value}
mutual
theorem Is.dp {H : Hp} : ∀ {d : D} {v : V} {p : PyData}, Is K mg H d v → toPy d = some p → Dp K H v p
  | .non, _, _, h, e => by cases e; cases h; exact .non
  | .bl b, _, _, h, e => by cases e; cases h; exact .bl b
  | .int i, _, _, h, e => by cases e; cases h; exact .int i
  | .str s, _, _, h, e => by cases e; cases h.1; exact .str _
  | .tup ds, _, _, h, e => by
    obtain ⟨_, a, vs, rfl, t, l⟩ := h
    unfold toPy at e
    cases q : toPyL ds with
    | none => rw [q] at e; cases e
    | some ps => rw [q] at e; cases e; exact .tup t (IsL.dp l q)
  | .lst ds, _, _, h, e => by
    obtain ⟨_, a, vs, rfl, t, l⟩ := h
    unfold toPy at e
    cases q : toPyL ds with
    | none => rw [q] at e; cases e
    | some ps => rw [q] at e; cases e; exact .lst (.inl (.inl t)) (IsL.dp l q)
  | .dic _ _, _, _, h, e => by unfold toPy at e; cases e
  | .ins _ _ _, _, _, h, e => by unfold toPy at e; cases e
  | .scr _, _, _, h, e => by unfold toPy at e; cases e
  | .xc _ _ _ _, _, _, h, e => by unfold toPy at e; cases e
theorem IsL.dp {H : Hp} : ∀ {ds : List D} {vs : List V} {ps : List PyData}, IsL K mg H ds vs → toPyL ds = some ps → DpAll K H vs ps
  | [], _, _, h, e => by cases h; unfold toPyL at e; cases e; exact .nil
  | d :: ds, _, _, h, e => by
    obtain ⟨v, r, rfl, i, l⟩ := h
    unfold toPyL at e
    cases q : toPy d with
    | none => rw [q] at e; cases e
    | some x =>
      cases q2 : toPyL ds with
      | none => rw [q, q2] at e; cases e
      | some xs => rw [q, q2] at e; cases e; exact .cons (Is.dp i q) (IsL.dp l q2)
end
end
/-- == of plain data -/
def eqS (a b : D) : Option Bool := match toPy a, toPy b with
  | some x, some y => if SeqAt.shaped x && SeqAt.shaped y then some (PyData.eqv x y) else none
  | _, _ => none
def eqP : D → D → Option Bool
  | .str x, .str y => some (decide (x = y))
  | .int x, .int y => some (decide (x = y))
  | .bl x, .bl y => some (decide (x = y))
  | .non, .non => some true
  | a, b => eqS a b
def eqD (a b : D) : Option D := (eqP a b).map .bl
def neD (a b : D) : Option D := (eqP a b).map fun x => .bl (!x)
def addD : D → D → Option D
  | .int i, .int j => some (.int (i + j))
  | .str a, .str b => if a.length + b.length ≤ sizeLine then some (.str (a ++ b)) else none
  | .lst a, .lst b => if a.length + b.length ≤ sizeLine then some (.lst (a ++ b)) else none
  | .tup a, .tup b => if a.length + b.length ≤ sizeLine then some (.tup (a ++ b)) else none
  | _, _ => none
def subD : D → D → Option D
  | .int i, .int j => some (.int (i - j))
  | _, _ => none
def mulD : D → D → Option D
  | .int i, .int j => if i.natAbs.log2 + j.natAbs.log2 < 1000000 then some (.int (i * j)) else none
  | .str a, .int k => if 0 ≤ k ∧ k < 1000000 ∧ a.length * k.toNat ≤ 1000000 then some (.str (List.replicate k.toNat a).flatten) else none
  | .lst a, .int k => if 0 ≤ k ∧ k < 1000000 ∧ a.length * k.toNat ≤ 1000000 then some (.lst (List.replicate k.toNat a).flatten) else none
  | _, _ => none
def fdivD : D → D → Option D
  | .int i, .int j => if 0 < j ∧ j.natAbs.log2 < 9000 then some (.int (i / j)) else none
  | _, _ => none
def modD : D → D → Option D
  | .int i, .int j => if 0 < j then some (.int (i % j)) else none
  | _, _ => none
/-- < of data that are alike -/
def ltP (a b : D) : Option Bool := match toPy a, toPy b with
  | some x, some y => if PySem.W.alike x y && decide (x.depth ≤ 60) && (isNonP x == false) then some (PySem.W.dataLt x y) else none
  | _, _ => none
where isNonP : PyData → Bool
  | .none => true
  | _ => false
def ltD : D → D → Option D
  | .int i, .int j => some (.bl (decide (i < j)))
  | .str a, .str b => some (.bl (decide (a < b)))
  | a, b => (ltP a b).map .bl
def leD : D → D → Option D
  | .int i, .int j => some (.bl (decide (i ≤ j)))
  | a, b => (leP a b).map .bl
where leP (a b : D) : Option Bool := match toPy a, toPy b with
  | some x, some y => if PySem.W.alike x y && decide (x.depth ≤ 60) && (ltP.isNonP x == false) then some (!PySem.W.dataLt y x) else none
  | _, _ => none
def gtD : D → D → Option D
  | .int i, .int j => some (.bl (decide (j < i)))
  | a, b => (gtP a b).map .bl
where gtP (a b : D) : Option Bool := match toPy a, toPy b with
  | some x, some y => if PySem.W.alike x y && decide (x.depth ≤ 60) && (ltP.isNonP x == false) then some (PySem.W.dataLt y x) else none
  | _, _ => none
def geD : D → D → Option D
  | .int i, .int j => some (.bl (decide (j ≤ i)))
  | a, b => (geP a b).map .bl
where geP (a b : D) : Option Bool := match toPy a, toPy b with
  | some x, some y => if PySem.W.alike x y && decide (x.depth ≤ 60) && (ltP.isNonP x == false) then some (!PySem.W.dataLt x y) else none
  | _, _ => none
def isNone : D → Option Bool
  | .non => some true
  | .bl _ => some false
  | .int _ => some false
  | .str _ => some false
  | .tup _ => some false
  | .lst _ => some false
  | .dic _ _ => some false
  | .ins _ _ _ => some false
  | .scr _ => some false
  | .xc _ _ _ _ => some false
/-- is: of None, of truth values -/
def isD : D → D → Option D
  | a, .non => (isNone a).map .bl
  | .bl a, .bl b => some (.bl (decide (a = b)))
  | _, _ => none
/-- x in y -/
def inP : D → D → Option Bool
  | .str [c], .str z => some (decide (c ∈ z))
  | d, .lst ds => match toPy d, toPy (.lst ds) with
    | some x, some (.list ys) => if SeqAt.shaped x && SeqAt.shaped (.list ys) then some (ys.any fun z => PyData.eqv z x) else none
    | _, _ => none
  | d, .tup ds => match toPy d, toPy (.tup ds) with
    | some x, some (.tuple ys) => if SeqAt.shaped x && SeqAt.shaped (.tuple ys) then some (ys.any fun z => PyData.eqv z x) else none
    | _, _ => none
  | _, _ => none
def inD (a b : D) : Option D := (inP a b).map .bl
def notInD (a b : D) : Option D := (inP a b).map fun x => .bl (!x)
section
variable {X : Cx}
theorem str_tl (s : List Nat) : (⟨s.toArray⟩ : Str).cps.toList = s := by simp
theorem str_len (s : List Nat) : (⟨s.toArray⟩ : Str).length = s.length := by
  show s.toArray.size = s.length
  simp
theorem str_app (a b : List Nat) : (⟨a.toArray⟩ ++ ⟨b.toArray⟩ : Str) = ⟨(a ++ b).toArray⟩ := by
  show (⟨a.toArray ++ b.toArray⟩ : Str) = _
  simp
theorem dec_str {a b : List Nat} : decide (V.str ⟨a.toArray⟩ = V.str ⟨b.toArray⟩) = decide (a = b) := by
  by_cases h : a = b
  · subst h; simp
  · rw [decide_eq_false h, decide_eq_false]
    intro z
    apply h
    have z1 : (⟨a.toArray⟩ : Str) = ⟨b.toArray⟩ := V.str.inj z
    have z2 : a.toArray = b.toArray := Str.mk.inj z1
    simpa using z2
theorem eq_core (hu : X.A.units + 64 < cLine) {pins : List (Addr × Obj)} {s : Shared} {σ : L2.St} {H : Hp} {x y : V} {v u : Value} (I : Inv X pins σ H s) (rx : RelV x v) (ry : RelV y u) {Hf : Hp} {dx dy : D} {b : Bool} (sb : Sub Hf H) (ix : Is X.K X.mg Hf dx x) (iy : Is X.K X.mg Hf dy y) (e : eqP dx dy = some b) :
    (∀ Q : VK, Q (.bl b) H → wpAny (model X.prog X.w) X.A (compareOp .Eq v u) (EP X pins σ Q) X.xe s) ∧ (∀ Q : VK, Q (.bl (!b)) H → wpAny (model X.prog X.w) X.A (compareOp .NotEq v u) (EP X pins σ Q) X.xe s) := by
  unfold eqP at e
  split at e
  · obtain ⟨rfl, _⟩ := ix
    obtain ⟨rfl, _⟩ := iy
    cases e
    exact ⟨fun Q q => op_eq pins s σ H _ _ v u Q I rx ry ⟨rfl, by rw [dec_str]; exact q⟩, fun Q q => op_ne pins s σ H _ _ v u Q I rx ry ⟨rfl, by rw [dec_str]; exact q⟩⟩
  · cases ix; cases iy; cases e
    refine ⟨fun Q q => op_eq pins s σ H _ _ v u Q I rx ry ⟨rfl, ?_⟩, fun Q q => op_ne pins s σ H _ _ v u Q I rx ry ⟨rfl, ?_⟩⟩ <;> simpa using q
  · cases ix; cases iy; cases e
    refine ⟨fun Q q => op_eq pins s σ H _ _ v u Q I rx ry ⟨rfl, ?_⟩, fun Q q => op_ne pins s σ H _ _ v u Q I rx ry ⟨rfl, ?_⟩⟩ <;> simpa using q
  · cases ix; cases iy; cases e
    exact ⟨fun Q q => op_eq pins s σ H _ _ v u Q I rx ry ⟨rfl, by simpa using q⟩, fun Q q => op_ne pins s σ H _ _ v u Q I rx ry ⟨rfl, by simpa using q⟩⟩
  · unfold eqS at e
    cases e1 : toPy dx with
    | none => rw [e1] at e; cases e
    | some p1 =>
      cases e2 : toPy dy with
      | none => rw [e1, e2] at e; cases e
      | some p2 =>
        rw [e1, e2] at e
        by_cases c : (SeqAt.shaped p1 && SeqAt.shaped p2) = true
        · simp only [c, if_true, Option.some.injEq] at e
          subst e
          rw [Bool.and_eq_true] at c
          exact ⟨fun Q q => op_eqD hu pins s σ H x y v u Q I rx ry ⟨p1, p2, (ix.mono sb).dp e1, (iy.mono sb).dp e2, c.1, c.2, q⟩, fun Q q => op_neD hu pins s σ H x y v u Q I rx ry ⟨p1, p2, (ix.mono sb).dp e1, (iy.mono sb).dp e2, c.1, c.2, q⟩⟩
        · simp only [c, if_false] at e
          cases e
theorem od_eq (hu : X.A.units + 64 < cLine) : OpR X (compareOp .Eq) (rD2 X.K X.mg eqD) := by
  intro pins s σ H x y v u Q I rx ry h
  obtain ⟨Hf, dx, dy, d, sb, ix, iy, e, q⟩ := h
  unfold eqD at e
  cases e1 : eqP dx dy with
  | none => rw [e1] at e; cases e
  | some b => rw [e1] at e; cases e; exact (eq_core hu I rx ry sb ix iy e1).1 Q (q _ Hf H (.refl sb) (by cases b <;> rw [Is]))
theorem od_ne (hu : X.A.units + 64 < cLine) : OpR X (compareOp .NotEq) (rD2 X.K X.mg neD) := by
  intro pins s σ H x y v u Q I rx ry h
  obtain ⟨Hf, dx, dy, d, sb, ix, iy, e, q⟩ := h
  unfold neD at e
  cases e1 : eqP dx dy with
  | none => rw [e1] at e; cases e
  | some b => rw [e1] at e; cases e; exact (eq_core hu I rx ry sb ix iy e1).2 Q (q _ Hf H (.refl sb) (by cases b <;> rw [Is]))
theorem od_add : OpR X (binaryOp .Add) (rD2 X.K X.mg addD) := by
  intro pins s σ H x y v u Q I rx ry h
  obtain ⟨Hf, dx, dy, d, sb, ix, iy, e, q⟩ := h
  unfold addD at e
  split at e
  · cases e; cases ix; cases iy
    exact op_add pins s σ H _ _ v u Q I rx ry ⟨_, _, rfl, rfl, q _ Hf H (.refl sb) (by rw [Is])⟩
  · split at e
    · rename_i a b hz
      cases e; cases ix.1; cases iy.1
      exact op_add_str pins s σ H _ _ v u Q I rx ry ⟨_, _, rfl, rfl, by rw [str_len, str_len]; exact hz, q _ Hf H (.refl sb) (by rw [Is, str_app]; exact ⟨rfl, by rw [List.length_append]; exact hz⟩)⟩
    · cases e
  · split at e
    · rename_i a b hz
      cases e
      obtain ⟨z1, p1, v1, rfl, h1, l1⟩ := ix
      obtain ⟨z2, p2, v2, rfl, h2, l2⟩ := iy
      refine op_cat pins s σ H _ _ v u Q I rx ry ⟨_, _, _, _, rfl, rfl, sb _ _ h1, sb _ _ h2, by rw [← l1.len, ← l2.len]; exact hz, fun p hp => q _ _ _ (.new sb hp) ?_⟩
      exact ⟨by rw [List.length_append]; exact hz, p, _, rfl, upd_same, (l1.app l2).mono (Ste.new (bag := []) sb hp).sub⟩
    · cases e
  · split at e
    · rename_i a b hz
      cases e
      obtain ⟨z1, p1, v1, rfl, h1, l1⟩ := ix
      obtain ⟨z2, p2, v2, rfl, h2, l2⟩ := iy
      refine op_catA pins s σ H _ _ v u Q I rx ry ⟨_, _, _, _, rfl, rfl, sb.sqt h1, sb.sqt h2, by rw [← l1.len, ← l2.len]; exact hz, fun z => ?_, fun z3 z4 => ?_, fun _ _ p hp => q _ _ _ (.new sb hp) ?_⟩
      · subst z
        have := l1.len
        have ea : a = [] := List.eq_nil_of_length_eq_zero (by simpa using this)
        subst ea
        exact q _ _ _ (.refl sb) ⟨z2, p2, v2, rfl, h2, l2⟩
      · subst z4
        have := l2.len
        have eb : b = [] := List.eq_nil_of_length_eq_zero (by simpa using this)
        subst eb
        rw [List.append_nil] at q
        exact q _ _ _ (.refl sb) ⟨z1, p1, v1, rfl, h1, l1⟩
      · exact ⟨by rw [List.length_append]; exact hz, p, _, rfl, .inl (.inl upd_same), (l1.app l2).mono (Ste.new (bag := []) sb hp).sub⟩
    · cases e
  · cases e
theorem od_sub : OpR X (binaryOp .Sub) (rD2 X.K X.mg subD) := by
  intro pins s σ H x y v u Q I rx ry h
  obtain ⟨Hf, dx, dy, d, sb, ix, iy, e, q⟩ := h
  unfold subD at e
  split at e
  · cases e; cases ix; cases iy
    exact op_sub pins s σ H _ _ v u Q I rx ry ⟨_, _, rfl, rfl, q _ Hf H (.refl sb) (by rw [Is])⟩
  · cases e
theorem od_fdiv : OpR X (binaryOp .FloorDiv) (rD2 X.K X.mg fdivD) := by
  intro pins s σ H x y v u Q I rx ry h
  obtain ⟨Hf, dx, dy, d, sb, ix, iy, e, q⟩ := h
  unfold fdivD at e
  split at e
  · split at e
    · rename_i hz
      cases e; cases ix; cases iy
      exact op_fdivW pins s σ H _ _ v u Q I rx ry ⟨_, _, rfl, rfl, hz, q _ Hf H (.refl sb) (by rw [Is])⟩
    · cases e
  · cases e
theorem od_mod : OpR X (binaryOp .Mod) (rD2 X.K X.mg modD) := by
  intro pins s σ H x y v u Q I rx ry h
  obtain ⟨Hf, dx, dy, d, sb, ix, iy, e, q⟩ := h
  unfold modD at e
  split at e
  · split at e
    · rename_i hz
      cases e; cases ix; cases iy
      exact op_mod pins s σ H _ _ v u Q I rx ry ⟨_, _, rfl, rfl, hz, q _ Hf H (.refl sb) (by rw [Is])⟩
    · cases e
  · cases e
theorem od_lt (hu : X.A.units + 64 < cLine) : OpR X (compareOp .Lt) (rD2 X.K X.mg ltD) := by
  intro pins s σ H x y v u Q I rx ry h
  obtain ⟨Hf, dx, dy, d, sb, ix, iy, e, q⟩ := h
  unfold ltD at e
  split at e
  · cases e; cases ix; cases iy
    exact op_lt pins s σ H _ _ v u Q I rx ry ⟨_, _, rfl, rfl, q _ Hf H (.refl sb) (by rw [Is])⟩
  · cases e; cases ix.1; cases iy.1
    refine op_lt_str pins s σ H _ _ v u Q I rx ry ⟨_, _, rfl, rfl, ?_⟩
    rw [str_tl, str_tl]
    exact q _ Hf H (.refl sb) (by rw [Is])
  · cases e1 : ltP dx dy with
    | none => rw [e1] at e; cases e
    | some b =>
      rw [e1] at e; cases e
      unfold ltP at e1
      split at e1
      · rename_i p1 p2 f1 f2
        split at e1
        · rename_i hc
          cases e1
          simp only [Bool.and_eq_true, decide_eq_true_eq, beq_iff_eq] at hc
          obtain ⟨as, r1⟩ := Dp.reads I p1 x v ((ix.mono sb).dp f1) rx
          obtain ⟨bs, r2⟩ := Dp.reads I p2 y u ((iy.mono sb).dp f2) ry
          have hm : X.A.units + min p1.depth p2.depth < cLine := by
            have := Nat.min_le_left p1.depth p2.depth
            omega
          exact PySem.W.lt_data r1 r2 hc.1.1 (fun z => by rw [z] at hc; exact Bool.noConfusion hc.2) hm ⟨.bl _, H, I, rfl, q _ Hf H (.refl sb) (by cases (PySem.W.dataLt p1 p2) <;> cases (PySem.W.dataLt p2 p1) <;> rw [Is])⟩
        · cases e1
      · cases e1
theorem od_le (hu : X.A.units + 64 < cLine) : OpR X (compareOp .LtE) (rD2 X.K X.mg leD) := by
  intro pins s σ H x y v u Q I rx ry h
  obtain ⟨Hf, dx, dy, d, sb, ix, iy, e, q⟩ := h
  unfold leD at e
  split at e
  · cases e; cases ix; cases iy
    exact op_le pins s σ H _ _ v u Q I rx ry ⟨_, _, rfl, rfl, q _ Hf H (.refl sb) (by rw [Is])⟩
  · cases e1 : leD.leP dx dy with
    | none => rw [e1] at e; cases e
    | some b =>
      rw [e1] at e; cases e
      unfold leD.leP at e1
      split at e1
      · rename_i p1 p2 f1 f2
        split at e1
        · rename_i hc
          cases e1
          simp only [Bool.and_eq_true, decide_eq_true_eq, beq_iff_eq] at hc
          obtain ⟨as, r1⟩ := Dp.reads I p1 x v ((ix.mono sb).dp f1) rx
          obtain ⟨bs, r2⟩ := Dp.reads I p2 y u ((iy.mono sb).dp f2) ry
          have hm : X.A.units + min p1.depth p2.depth < cLine := by
            have := Nat.min_le_left p1.depth p2.depth
            omega
          exact PySem.W.le_data r1 r2 hc.1.1 (fun z => by rw [z] at hc; exact Bool.noConfusion hc.2) hm ⟨.bl _, H, I, rfl, q _ Hf H (.refl sb) (by cases (PySem.W.dataLt p1 p2) <;> cases (PySem.W.dataLt p2 p1) <;> rw [Is])⟩
        · cases e1
      · cases e1
theorem od_gt (hu : X.A.units + 64 < cLine) : OpR X (compareOp .Gt) (rD2 X.K X.mg gtD) := by
  intro pins s σ H x y v u Q I rx ry h
  obtain ⟨Hf, dx, dy, d, sb, ix, iy, e, q⟩ := h
  unfold gtD at e
  split at e
  · cases e; cases ix; cases iy
    exact op_gt pins s σ H _ _ v u Q I rx ry ⟨_, _, rfl, rfl, q _ Hf H (.refl sb) (by rw [Is])⟩
  · cases e1 : gtD.gtP dx dy with
    | none => rw [e1] at e; cases e
    | some b =>
      rw [e1] at e; cases e
      unfold gtD.gtP at e1
      split at e1
      · rename_i p1 p2 f1 f2
        split at e1
        · rename_i hc
          cases e1
          simp only [Bool.and_eq_true, decide_eq_true_eq, beq_iff_eq] at hc
          obtain ⟨as, r1⟩ := Dp.reads I p1 x v ((ix.mono sb).dp f1) rx
          obtain ⟨bs, r2⟩ := Dp.reads I p2 y u ((iy.mono sb).dp f2) ry
          have hm : X.A.units + min p1.depth p2.depth < cLine := by
            have := Nat.min_le_left p1.depth p2.depth
            omega
          exact PySem.W.gt_data r1 r2 hc.1.1 (fun z => by rw [z] at hc; exact Bool.noConfusion hc.2) hm ⟨.bl _, H, I, rfl, q _ Hf H (.refl sb) (by cases (PySem.W.dataLt p1 p2) <;> cases (PySem.W.dataLt p2 p1) <;> rw [Is])⟩
        · cases e1
      · cases e1
theorem od_ge (hu : X.A.units + 64 < cLine) : OpR X (compareOp .GtE) (rD2 X.K X.mg geD) := by
  intro pins s σ H x y v u Q I rx ry h
  obtain ⟨Hf, dx, dy, d, sb, ix, iy, e, q⟩ := h
  unfold geD at e
  split at e
  · cases e; cases ix; cases iy
    exact op_ge pins s σ H _ _ v u Q I rx ry ⟨_, _, rfl, rfl, q _ Hf H (.refl sb) (by rw [Is])⟩
  · cases e1 : geD.geP dx dy with
    | none => rw [e1] at e; cases e
    | some b =>
      rw [e1] at e; cases e
      unfold geD.geP at e1
      split at e1
      · rename_i p1 p2 f1 f2
        split at e1
        · rename_i hc
          cases e1
          simp only [Bool.and_eq_true, decide_eq_true_eq, beq_iff_eq] at hc
          obtain ⟨as, r1⟩ := Dp.reads I p1 x v ((ix.mono sb).dp f1) rx
          obtain ⟨bs, r2⟩ := Dp.reads I p2 y u ((iy.mono sb).dp f2) ry
          have hm : X.A.units + min p1.depth p2.depth < cLine := by
            have := Nat.min_le_left p1.depth p2.depth
            omega
          exact PySem.W.ge_data r1 r2 hc.1.1 (fun z => by rw [z] at hc; exact Bool.noConfusion hc.2) hm ⟨.bl _, H, I, rfl, q _ Hf H (.refl sb) (by cases (PySem.W.dataLt p1 p2) <;> cases (PySem.W.dataLt p2 p1) <;> rw [Is])⟩
        · cases e1
      · cases e1
end
end DL
namespace DL
open PySem L2
/-! ### a new list -/
section
variable (K : PySem.W.Frag) (mg : Str → Option Value) (fx : Fx)
def FrQ (Hf H : Hp) (Q : VK) : List D → S → Prop := fun ds s' => ∀ p vs Hf' H', Ste fx.bag Hf H Hf' H' → BagAt fx.bag H' s' → H' p = some (.lst vs) → Hf' p = none → H p = none → IsL K mg Hf' ds vs → ds.length ≤ sizeLine → Q (.ref p) H'
def tF (G : List Sl) {m : Type → Type} [Mo m] (x : m (List D)) : TE := fun σ H Q => ∃ Hf s, StS K mg fx Hf H σ G s ∧ Mo.wp x s (FrQ K mg fx Hf H Q) (EX K mg fx G σ)
end
def mkL {m : Type → Type} [Mo m] (x : m (List D)) : m D := do
  let ds ← x
  pure (.lst ds)
/-- not too long -/
def szL (ds : List D) : Option (List D) := if ds.length ≤ sizeLine then some ds else none
theorem Ste.upd {bag : List Addr} {Hf H Hf' H' : Hp} (e : Ste bag Hf H Hf' H') {p : Addr} {o : HO} (hp : H p = none) (hf : Hf' p = none) : Ste bag Hf H Hf' (L2.upd H' p o) := by
  refine ⟨e.sub, fun a u q => ?_, fun a u q n => ?_, fun a n => ?_, e.fresh⟩
  · have ne : a ≠ p := fun z => by rw [z, hf] at q; cases q
    rw [upd_ne ne]; exact e.top a u q
  · have ne : a ≠ p := fun z => by rw [z, hp] at q; cases q
    rw [upd_ne ne]; exact e.keep a u q n
  · by_cases c : a = p
    · rw [c, upd_same]; simp
    · rw [upd_ne c]; exact e.dom a n
section
variable {K : PySem.W.Frag} {mg : Str → Option Value} {fx : Fx} {Hf H : Hp} {σ : L2.St} {G : List Sl} {s : S}
theorem StS.other (st : StS K mg fx Hf H σ G s) {p : Addr} {o : HO} (hf : Hf p = none) (h0 : fx.H0 p = none) (nb : p ∉ fx.bag) (no : ∀ (j : Nat) (q : Addr), σ[j]? = some (some (.ref q)) → (∀ x, G[j]? = some x → isOw x = true → q ≠ p)) : StS K mg fx Hf (upd H p o) σ G s := by
  refine ⟨st.ste.upd h0 hf, st.bag.upd nb, fun b m => ⟨(st.bagg b m).1, ?_, (st.bagg b m).2.2⟩, st.len, fun j x ex => ?_, st.dis⟩
  · have ne : b ≠ p := fun z => st.owNb h0 nb (z ▸ m)
    rw [upd_ne ne]; exact (st.bagg b m).2.1
  · exact (st.sl j x ex).upd fun q o e => no j q e x ex o
end
section
variable {X : Cx} {fx : Fx} {m : Type → Type} [Mo m] {G : List Sl} {e : Expr}
theorem de_frz {x : m (List D)} (h : PE X e (tF X.K X.mg fx G x)) : PE X e (tE X.K X.mg fx G (mkL x)) := peI h fun σ H Q ⟨Hf, s, st, w⟩ =>
  ⟨Hf, s, st, Mo.wp_mono (Mo.wp_bind w) (fun ds s' k p vs Hf' H' e bg hp hf hn l hz => by
    have k' := Mo.wp_pure k
    have sb : Sub Hf' (upd Hf' p (.lst vs)) := fun a o q => by
      have ne : a ≠ p := fun z => by rw [z, hf] at q; cases q
      rw [upd_ne ne]; exact q
    refine k' (.ref p) (upd Hf' p (.lst vs)) H' ⟨e.sub.trans sb, fun a o q => ?_, e.keep, e.dom, fun a o q => ?_⟩ bg ⟨hz, p, vs, rfl, upd_same, l.mono sb⟩
    · by_cases c : a = p
      · subst c; rw [upd_same] at q; cases q; exact hp
      · rw [upd_ne c] at q; exact e.top a o q
    · by_cases c : a = p
      · subst c; exact .inr hn
      · rw [upd_ne c] at q; exact e.fresh a o q) fun e s' k => k⟩
/-- what a new list's rule wants -/
theorem frq_new {Hf H : Hp} {σ : L2.St} {s : S} {ds : List D} {vs : List V} {Q : VK} (st : StS X.K X.mg fx Hf H σ G s) {Hf0 H0 : Hp} (e : Ste fx.bag Hf0 H0 Hf H) (h : FrQ X.K X.mg fx Hf0 H0 Q ds s) (l : IsL X.K X.mg Hf ds vs) (hz : ds.length ≤ sizeLine) (p : Addr) (hp : H p = none) : Q (.ref p) (upd H p (.lst vs)) := by
  have hn : H0 p = none := by
    cases q : H0 p with
    | none => rfl
    | some o => exact absurd hp (e.dom p (by rw [q]; simp))
  obtain ⟨_, nb, hf⟩ := st.new0 hp
  exact h p vs Hf _ (e.upd hn hf) (st.bag.upd nb) upd_same hf hn l hz
/-- [a, b, ..] -/
theorem df_list {es : List Expr} {pos : Pos} {ys : m (List D)} (h : PA X es (tA X.K X.mg fx G ys)) : PE X (.List es pos) (tF X.K X.mg fx G (do let ds ← ys; ask (szL ds))) := peI (pe_lst h) fun σ H Q ⟨Hf, s, st, w⟩ =>
  ⟨Hf, s, st, Mo.wp_mono (Mo.wp_bind w) (fun ds s1 k vs Hf1 H1 e bg l => by
    have k' := Mo.wp_lift k
    by_cases hz : ds.length ≤ sizeLine
    · have e1 : szL ds = some ds := if_pos hz
      rw [e1] at k'
      exact ⟨by rw [← l.len]; exact hz, fun p hp => frq_new (st.step e bg) e k' l hz p hp⟩
    · have e1 : szL ds = none := if_neg hz
      rw [e1] at k'
      exact k'.elim) fun e s' k => k⟩
/-- (a, b, ..) -/
theorem de_tup {es : List Expr} {pos : Pos} {x1 : Nat} {ys : m (List D)} (h : PA X es (tA X.K X.mg fx G ys)) : PE X (.Tuple es x1 pos) (tE X.K X.mg fx G (do let ds ← ys; let ds ← ask (szL ds); pure (.tup ds))) := peI (pe_tup h) fun σ H Q ⟨Hf, s, h⟩ =>
  (h.bind.mono fun vs H1 ⟨ds, Hf1, s1, sb, l, h1⟩ => by
    have k' := Mo.wp_lift (Mo.wp_bind h1.2)
    by_cases hz : ds.length ≤ sizeLine
    · have e1 : szL ds = some ds := if_pos hz
      rw [e1] at k'
      refine ⟨by rw [← l.len]; exact hz, fun p hp => (Mo.wp_pure k') _ _ _ (.new h1.1.top hp) (h1.1.bag.upd (h1.1.new0 hp).2.1) ?_⟩
      exact ⟨hz, p, vs, rfl, .inl (.inl upd_same), l.mono (Ste.new (bag := []) h1.1.top hp).sub⟩
    · have e1 : szL ds = none := if_neg hz
      rw [e1] at k'
      exact k'.elim).to
end
/-! ### truth, and, or, not -/
def truD : D → Option Bool
  | .non => some false
  | .bl b => some b
  | .int i => some (i != 0)
  | .str s => some (!s.isEmpty)
  | .tup ds => some (!ds.isEmpty)
  | .lst ds => some (!ds.isEmpty)
  | _ => none
theorem isEmpty_len {α β : Type} {a : List α} {b : List β} (h : a.length = b.length) : a.isEmpty = b.isEmpty := by
  cases a <;> cases b <;> simp at h ⊢
section
variable {K : PySem.W.Frag} {mg : Str → Option Value}
theorem is_bl {H : Hp} (b : Bool) : Is K mg H (.bl b) (.bl b) := by
  cases b <;> rw [Is]
theorem is_int {H : Hp} (b : Int) : Is K mg H (.int b) (.int b) := by rw [Is]
theorem tru_is {Hf H : Hp} (sb : Sub Hf H) {d : D} {v : V} {b : Bool} (i : Is K mg Hf d v) (e : truD d = some b) : TruV K v H b := by
  cases d with
  | non => cases i; cases e; exact rfl
  | bl c => cases i; cases e; exact rfl
  | int c => cases i; cases e; exact rfl
  | str c =>
    obtain ⟨rfl, hz⟩ := i
    cases e
    refine ⟨by rw [str_len]; exact hz, ?_⟩
    rw [str_len]
    cases c with
    | nil => rfl
    | cons x r =>
      show (!(x :: r).isEmpty) = ((((x :: r).length : Nat) : Int) != 0)
      simp
      omega
  | tup ds =>
    obtain ⟨_, a, vs, rfl, t, l⟩ := i
    cases e
    exact .inr (.inl ⟨vs, sb.sqt t, by rw [isEmpty_len l.len]⟩)
  | lst ds =>
    obtain ⟨_, a, vs, rfl, t, l⟩ := i
    cases e
    exact .inl ⟨vs, .inl (.inl (sb _ _ t)), by rw [isEmpty_len l.len]⟩
  | dic _ _ => cases e
  | ins _ _ _ => cases e
  | scr _ => cases e
  | xc _ _ _ _ => cases e
end
section
variable {X : Cx} {fx : Fx} {m : Type → Type} [Mo m] {G : List Sl} {a b c : Expr} {rest : List Expr} {pos : Pos} {x y : m D} {t u : m Bool}
def andM (t u : m Bool) : m Bool := do
  let b ← t
  if b = true then u else pure false
def orM (t u : m Bool) : m Bool := do
  let b ← t
  if b = true then pure true else u
def notM (t : m Bool) : m Bool := do
  let b ← t
  pure (!b)
def iteM {α : Type} (t : m Bool) (x y : m α) : m α := do
  let b ← t
  if b = true then x else y
def andV (x y : m D) : m D := do
  let d ← x
  let b ← ask (truD d)
  if b = true then y else pure d
def orV (x y : m D) : m D := do
  let d ← x
  let b ← ask (truD d)
  if b = true then pure d else y
def notV (x : m D) : m D := do
  let d ← x
  let b ← ask (truD d)
  pure (.bl (!b))
/-- a value's truth -/
theorem dt_tru (ha : PE X a (tE X.K X.mg fx G x)) (he : ∀ whole, isTrue a X.env whole = (do let v ← whole; standAt a.pos; holding [v] (truthy v)) := by intro _; rfl) :
    PT X a (tT X.K X.mg fx G (do let d ← x; ask (truD d))) := ptI (pt_truth ha he) fun σ H Q ⟨Hf, s, h⟩ =>
  (h.bind.mono fun v H1 ⟨d, Hf1, s1, sb, r, h1⟩ => by
    obtain ⟨k, e, q⟩ := h1.ask
    exact ⟨k, tru_is h1.1.top r e, q k Hf1 H1 (.refl h1.1.top) rfl⟩).to
theorem dw_and1 (ha : PT X a (tT X.K X.mg fx G t)) : PW X (.BoolOp .And [a] pos) (tT X.K X.mg fx G t) := pw_and1 ha
theorem dw_or1 (ha : PT X a (tT X.K X.mg fx G t)) : PW X (.BoolOp .Or [a] pos) (tT X.K X.mg fx G t) := pw_or1 ha
theorem dw_and (ha : PT X a (tT X.K X.mg fx G t)) (hb : PW X (.BoolOp .And (b :: rest) pos) (tT X.K X.mg fx G u)) : PW X (.BoolOp .And (a :: b :: rest) pos) (tT X.K X.mg fx G (andM t u)) := pwI (pw_and ha hb) fun σ H Q ⟨Hf, s, h⟩ =>
  (h.bind.mono fun v H1 ⟨d, Hf1, s1, sb, r, h1⟩ => by
    subst r
    cases v with
    | true => exact h1.to
    | false => exact h1.pure rfl).to
theorem dw_or (ha : PT X a (tT X.K X.mg fx G t)) (hb : PW X (.BoolOp .Or (b :: rest) pos) (tT X.K X.mg fx G u)) : PW X (.BoolOp .Or (a :: b :: rest) pos) (tT X.K X.mg fx G (orM t u)) := pwI (pw_or ha hb) fun σ H Q ⟨Hf, s, h⟩ =>
  (h.bind.mono fun v H1 ⟨d, Hf1, s1, sb, r, h1⟩ => by
    subst r
    cases v with
    | true => exact h1.pure rfl
    | false => exact h1.to).to
theorem dt_not (ha : PT X a (tT X.K X.mg fx G t)) : PT X (.UnaryOp .Not a pos) (tT X.K X.mg fx G (notM t)) := ptI (pt_not ha) fun σ H Q ⟨Hf, s, h⟩ =>
  (h.bind.mono fun v H1 ⟨d, Hf1, s1, sb, r, h1⟩ => by
    subst r
    exact h1.pure rfl).to
theorem de_not (ha : PE X a (tE X.K X.mg fx G x)) : PE X (.UnaryOp .Not a pos) (tE X.K X.mg fx G (notV x)) := peI (pe_notT ha) fun σ H Q ⟨Hf, s, h⟩ =>
  (h.bind.mono fun v H1 ⟨d, Hf1, s1, sb, r, h1⟩ => by
    have h2 := h1.bind (rl := fun _ a b => b = a) (β := Bool)
    have k := Mo.wp_lift (Mo.wp_bind h1.2)
    cases e : truD d with
    | none => rw [e] at k; exact k.elim
    | some b =>
      rw [e] at k
      exact ⟨b, tru_is h1.1.top r e, (Mo.wp_pure k) _ Hf1 H1 (.refl h1.1.top) h1.1.bag (is_bl _)⟩).to
theorem de_and (ha : PE X a (tE X.K X.mg fx G x)) (hb : PE X (.BoolOp .And (b :: rest) pos) (tE X.K X.mg fx G y)) : PE X (.BoolOp .And (a :: b :: rest) pos) (tE X.K X.mg fx G (andV x y)) := peI (pe_andT ha hb) fun σ H Q ⟨Hf, s, h⟩ =>
  (h.bind.mono fun v H1 ⟨d, Hf1, s1, sb, r, h1⟩ => by
    have k := Mo.wp_lift (Mo.wp_bind h1.2)
    cases e : truD d with
    | none => rw [e] at k; exact k.elim
    | some b =>
      rw [e] at k
      refine ⟨b, tru_is h1.1.top r e, ?_⟩
      cases b with
      | true => exact ⟨Hf1, s1, h1.1, k⟩
      | false => exact (Mo.wp_pure k) _ Hf1 H1 (.refl h1.1.top) h1.1.bag r).to
theorem de_or (ha : PE X a (tE X.K X.mg fx G x)) (hb : PE X (.BoolOp .Or (b :: rest) pos) (tE X.K X.mg fx G y)) : PE X (.BoolOp .Or (a :: b :: rest) pos) (tE X.K X.mg fx G (orV x y)) := peI (pe_orT ha hb) fun σ H Q ⟨Hf, s, h⟩ =>
  (h.bind.mono fun v H1 ⟨d, Hf1, s1, sb, r, h1⟩ => by
    have k := Mo.wp_lift (Mo.wp_bind h1.2)
    cases e : truD d with
    | none => rw [e] at k; exact k.elim
    | some b =>
      rw [e] at k
      refine ⟨b, tru_is h1.1.top r e, ?_⟩
      cases b with
      | false => exact ⟨Hf1, s1, h1.1, k⟩
      | true => exact (Mo.wp_pure k) _ Hf1 H1 (.refl h1.1.top) h1.1.bag r).to
theorem de_one {op : BoolOp} (ha : PE X a (tE X.K X.mg fx G x)) : PE X (.BoolOp op [a] pos) (tE X.K X.mg fx G x) := pe_one ha
theorem de_ifExp (hc : PT X c (tT X.K X.mg fx G t)) (ha : PE X a (tE X.K X.mg fx G x)) (hb : PE X b (tE X.K X.mg fx G y)) : PE X (.IfExp c a b pos) (tE X.K X.mg fx G (iteM t x y)) := peI (pe_ifExp hc ha hb) fun σ H Q ⟨Hf, s, h⟩ =>
  (h.bind.mono fun v H1 ⟨d, Hf1, s1, sb, r, h1⟩ => by
    subst r
    cases v with
    | true => exact h1.to
    | false => exact h1.to).to
/-- a < b < c -/
def chainM (f g : D → D → Option D) (x y z : m D) : m D := do
  let u ← x
  let v ← y
  let p ← ask ((f u v).bind bOf)
  if p = true then do
    let w ← z
    ask (g v w)
  else pure (.bl false)
theorem chain_read {op op' : CmpOp} {f g : D → D → Option D} {z : m D} {σ : L2.St} {H : Hp} {Q : VK} (h : tE X.K X.mg fx G (chainM f g x y z) σ H Q) :
    tChain (rD2 X.K X.mg f) (rD2 X.K X.mg g) (tE X.K X.mg fx G x) (tE X.K X.mg fx G y) (tE X.K X.mg fx G z) σ H Q := by
  obtain ⟨Hf, s, h⟩ := h
  refine (h.bind.mono fun v1 H1 ⟨d1, Hf1, s1, sb1, r1, h1⟩ => (h1.bind.mono fun v2 H2 ⟨d2, Hf2, s2, sb2, r2, h2⟩ => ?_).to).to
  have k := Mo.wp_lift (Mo.wp_bind h2.2)
  cases e : f d1 d2 with
  | none => rw [e] at k; exact k.elim
  | some d =>
    cases d with
    | bl p =>
      rw [e] at k
      have k' : Mo.wp (if p = true then (do let w ← z; ask (g d2 w)) else pure (.bl false) : m D) s2 _ _ := k
      refine ⟨Hf2, d1, d2, .bl p, h2.1.top, r1.mono sb2, r2, e, fun u Hf3 H3 e3 i3 => ⟨p, i3, ?_⟩⟩
      have st3 := h2.1.step e3.wide (e3.bag h2.1.bag)
      cases p with
      | true =>
        have h3 : tX X.K X.mg fx G (fun H d v => Is X.K X.mg H d v) (do let w ← z; ask (g d2 w) : m D) Hf3 s2 σ H3 Q :=
          ⟨st3, Mo.wp_mono k' (fun a s' q b Hf' H' e bg i => q b Hf' H' (e3.wide.trans e) bg i) fun e s' q => q⟩
        show tE X.K X.mg fx G z σ H3 _
        exact (h3.bind.mono fun v4 H4 ⟨d4, Hf4, s4, sb4, r4, h4⟩ => by
          obtain ⟨d, e, q⟩ := h4.ask
          exact ⟨Hf4, d2, d4, d, h4.1.top, (r2.mono e3.sub).mono sb4, r4, e, q⟩).to
      | false => exact (Mo.wp_pure k') _ Hf3 H3 e3.wide (e3.bag h2.1.bag) (is_bl _)
    | _ => rw [e] at k; exact k.elim
theorem de_chain {op op' : CmpOp} {f g : D → D → Option D} {z : m D} (ho : OpR X (compareOp op) (rD2 X.K X.mg f)) (ho' : OpR X (compareOp op') (rD2 X.K X.mg g)) (ha : PE X a (tE X.K X.mg fx G x)) (hb : PE X b (tE X.K X.mg fx G y)) (hc : PE X c (tE X.K X.mg fx G z))
    (hm : lastMarks [op, op'] [b, c] = false := by with_unfolding_all rfl) : PE X (.Compare a [op, op'] [b, c] pos) (tE X.K X.mg fx G (chainM f g x y z)) := peI (pe_chain ho ho' ha hb hc hm) fun σ H Q h => chain_read (op := op) (op' := op') h
theorem test_read {x : m D} {Hf : Hp} {s : S} {σ : L2.St} {H : Hp} {Q : Bool → Hp → Prop} (h : tX X.K X.mg fx G (fun _ a b => b = a) (do let d ← x; ask (bOf d)) Hf s σ H Q) : tE X.K X.mg fx G x σ H fun v H' => ∃ k, v = .bl k ∧ Q k H' :=
  (h.bind.mono fun v H1 ⟨d, Hf1, s1, sb, r, h1⟩ => by
    obtain ⟨k, e, q⟩ := h1.ask
    cases d with
    | bl b =>
      cases e
      exact ⟨_, r, q _ Hf1 H1 (.refl h1.1.top) rfl⟩
    | _ => cases e).to
theorem dt_chain {op op' : CmpOp} {f g : D → D → Option D} {z : m D} (ho : OpR X (compareOp op) (rD2 X.K X.mg f)) (ho' : OpR X (compareOp op') (rD2 X.K X.mg g)) (ha : PE X a (tE X.K X.mg fx G x)) (hb : PE X b (tE X.K X.mg fx G y)) (hc : PE X c (tE X.K X.mg fx G z))
    (hm : lastMarks [op, op'] [b, c] = false := by with_unfolding_all rfl) : PT X (.Compare a [op, op'] [b, c] pos) (tT X.K X.mg fx G (do let d ← chainM f g x y z; ask (bOf d))) := ptI (pt_chain ho ho' ha hb hc hm) fun σ H Q ⟨Hf, s, h⟩ => chain_read (op := op) (op' := op') (test_read h)
end
end DL
namespace DL
open PySem L2
/-! ### what is walked -/
section
variable {X : Cx} {tg l : Expr} {tl : TE}
theorem piI {it : Expr} {t t' : TI} (h : PI X tg it t) (w : ∀ σ H Q, t' σ H Q → t σ H Q) : PI X tg it t' := ⟨fun pins s σ H Q I q => h.run pins s σ H Q I (w _ _ _ q)⟩
end
def sqOf : D → Option (List D)
  | .lst ds => some ds
  | .tup ds => some ds
  | _ => none
def intOf : D → Option Int
  | .int i => some i
  | _ => none
def rangeL (lo : Int) (n : Nat) : List D := (List.range n).map fun (k : Nat) => .int (lo + (k : Int))
def enumL (ds : List D) : List D := ds.mapIdx fun i d => .tup [.int (i : Int), d]
section
variable {K : PySem.W.Frag} {mg : Str → Option Value}
theorem yl_list {Hf : Hp} {ds : List D} {a : Addr} {vs : List V} (hz : ds.length ≤ sizeLine) (h : Hf a = some (.lst vs)) (l : IsL K mg Hf ds vs) : Yl K mg (Itl K a) Hf ds := ⟨hz, fun Hf2 H s1 s2 i => by
  have hq : SqL K H a vs := .inl (.inl (s2 _ _ (s1 _ _ h)))
  refine ⟨fun d hd => ?_, fun hl => ⟨vs, hq, by rw [← l.len]; exact hl⟩⟩
  obtain ⟨v, hv, iv⟩ := l.get hd
  exact ⟨⟨vs, v, hq, hv⟩, fun x H' ⟨e, f⟩ => by
    subst e
    have := f vs hq
    rw [hv] at this
    cases this
    exact ⟨Hf2, .refl s2, iv.mono s1⟩⟩⟩
theorem yl_tup {Hf : Hp} {ds : List D} {a : Addr} {vs : List V} (hz : ds.length ≤ sizeLine) (h : SqT K Hf a vs) (l : IsL K mg Hf ds vs) : Yl K mg (Itt K a) Hf ds := ⟨hz, fun Hf2 H s1 s2 i => by
  have hq : SqT K H a vs := s2.sqt (s1.sqt h)
  refine ⟨fun d hd => ?_, fun hl => ⟨vs, hq, by rw [← l.len]; exact hl⟩⟩
  obtain ⟨v, hv, iv⟩ := l.get hd
  exact ⟨⟨vs, v, hq, hv⟩, fun x H' ⟨e, f⟩ => by
    subst e
    have := f vs hq
    rw [hv] at this
    cases this
    exact ⟨Hf2, .refl s2, iv.mono s1⟩⟩⟩
theorem yl_range (lo : Int) (n : Nat) {Hf : Hp} (hz : n ≤ sizeLine) : Yl K mg (Itr lo n) Hf (rangeL lo n) := ⟨by simpa [rangeL] using hz, fun Hf2 H s1 s2 i => by
  refine ⟨fun d hd => ?_, fun hl => ?_⟩
  rotate_left
  · have z : n ≤ i := by simpa [rangeL] using hl
    exact z
  have hi : i < n := by
    have := (List.getElem?_eq_some_iff.mp hd).1
    simpa [rangeL] using this
  have e : d = .int (lo + (i : Int)) := by
    unfold rangeL at hd
    rw [List.getElem?_map, List.getElem?_range hi] at hd
    cases hd
    rfl
  subst e
  exact ⟨hi, fun x H' ⟨e1, e2⟩ => by
    subst e1 e2
    exact ⟨Hf2, .refl s2, is_int _⟩⟩⟩
theorem yl_str (s : List Nat) {Hf : Hp} (hz : s.length ≤ sizeLine) : Yl K mg (Its ⟨s.toArray⟩) Hf (s.map fun c => .str [c]) := ⟨by simpa using hz, fun Hf2 H s1 s2 i => by
  refine ⟨fun d hd => ?_, fun hl => ?_⟩
  · have hi : i < s.length := by
      have := (List.getElem?_eq_some_iff.mp hd).1
      simpa using this
    rw [List.getElem?_map, List.getElem?_eq_getElem hi] at hd
    cases hd
    refine ⟨?_, fun x H' ⟨e1, c, e2, e3⟩ => ?_⟩
    · show i < s.toArray.size
      simpa using hi
    · subst e1 e3
      refine ⟨Hf2, .refl s2, ?_⟩
      have e2' : s.toArray[i]? = some c := e2
      rw [List.getElem?_toArray, List.getElem?_eq_getElem hi] at e2'
      cases e2'
      exact ⟨rfl, by show 1 ≤ sizeLine; decide⟩
  · show s.toArray.size ≤ i
    simpa using hl⟩
theorem yl_enum {Hf : Hp} {ds : List D} {a : Addr} {vs : List V} (hz : ds.length ≤ sizeLine) (h : Hf a = some (.lst vs)) (l : IsL K mg Hf ds vs) : Yl K mg (Ite K a) Hf (enumL ds) := ⟨by simpa [enumL] using hz, fun Hf2 H s1 s2 i => by
  have hq : SqL K H a vs := .inl (.inl (s2 _ _ (s1 _ _ h)))
  refine ⟨fun d hd => ?_, fun hl => ⟨vs, hq, by rw [← l.len]; simpa [enumL] using hl⟩⟩
  have hi : i < ds.length := by
    have := (List.getElem?_eq_some_iff.mp hd).1
    simpa [enumL] using this
  have ed : d = .tup [.int (i : Int), ds[i]] := by
    unfold enumL at hd
    rw [List.getElem?_mapIdx, List.getElem?_eq_getElem hi] at hd
    cases hd
    rfl
  subst ed
  obtain ⟨v, hv, iv⟩ := l.get (List.getElem?_eq_getElem hi)
  refine ⟨⟨vs, v, hq, hv⟩, fun x H' ⟨T, y, e1, hT, e2, f⟩ => ?_⟩
  subst e1 e2
  have := f vs hq
  rw [hv] at this
  cases this
  refine ⟨upd Hf2 T (.tup [.int (i : Nat), v]), .new s2 hT, ?_⟩
  exact ⟨by show 2 ≤ sizeLine; decide, T, _, rfl, .inl (.inl upd_same), .cons (is_int _) (.cons ((iv.mono s1).mono (Ste.new (bag := []) s2 hT).sub) .nil)⟩⟩
end
section
variable {X : Cx} {fx : Fx} {m : Type → Type} [Mo m] {G : List Sl} {tg l a b : Expr} {x y : m D} {ys : m (List D)} {pos : Pos} {kk : Nat}
def strOf : D → Option (List Nat)
  | .str s => some s
  | _ => none
def chrs (s : List Nat) : List D := s.map fun c => .str [c]
def rng1 : List D → Option (List D)
  | [.int j] => if -(2 ^ 62) ≤ j ∧ j ≤ 1000000 then some (rangeL 0 j.toNat) else none
  | _ => none
theorem di_range1 {p : Pos} (hg : Gl X "range") (hm : X.mg "range" = none) (ha : PA X [a] (tA X.K X.mg fx G ys)) (hs : starEach [a] X.env = [(false, eval a X.env)] := by rfl) :
    PI X tg (.Call (.Name "range" p) [a] [] pos) (tI X.K X.mg fx G (do let ds ← ys; ask (rng1 ds))) := piI (pi_range1 hg hm ha hs) fun σ H Q ⟨Hf, s, h⟩ =>
  (h.bind.mono fun v H1 ⟨d, Hf1, s1, sb, r, h1⟩ => by
    obtain ⟨ds, e, q⟩ := h1.ask
    unfold rng1 at e
    split at e
    · rename_i j
      split at e
      · rename_i hj
        cases e
        obtain ⟨v1, r1, rfl, rfl, rfl⟩ := r
        exact ⟨j, rfl, hj.1, Int.lt_of_le_of_lt hj.2 (by decide), q _ Hf1 H1 (.refl h1.1.top) (yl_range _ _ (by rw [sizeLine_eq]; omega))⟩
      · cases e
    · cases e).to
def enumOf : List D → Option (List D)
  | [.lst ds] => some (enumL ds)
  | _ => none
theorem di_enumL {p tpos : Pos} {elts : List Expr} {k : Nat} (hg : Gl X "enumerate") (hm : X.mg "enumerate" = none) (ha : PA X [a] (tA X.K X.mg fx G ys)) (hs : starEach [a] X.env = [(false, eval a X.env)] := by rfl) :
    PI X (.Tuple elts k tpos) (.Call (.Name "enumerate" p) [a] [] pos) (tI X.K X.mg fx G (do let ds ← ys; ask (enumOf ds))) := piI (pi_enum hg hm ha hs) fun σ H Q ⟨Hf, s, h⟩ =>
  (h.bind.mono fun v H1 ⟨d, Hf1, s1, sb, r, h1⟩ => by
    obtain ⟨ds, e, q⟩ := h1.ask
    unfold enumOf at e
    split at e
    · rename_i es
      cases e
      obtain ⟨v1, r1, rfl, ⟨hz, a, vs, rfl, t, il⟩, rfl⟩ := r
      exact ⟨a, vs, rfl, .inl (.inl (h1.1.top _ _ t)), q _ Hf1 H1 (.refl h1.1.top) (yl_enum hz t il)⟩
    · cases e).to
/-! ### targets -/
def un2 : D → Option (D × D)
  | .tup [a, b] => some (a, b)
  | _ => none
def un3 : D → Option (D × D × D)
  | .tup [a, b, c] => some (a, b, c)
  | _ => none
theorem pgd_tup2 (C : Cok X fx kk) (i j : Nat) {n1 n2 : Str} {p1 p2 : Pos} {k : Nat} (hi : X.N[i]? = some n1 := by rfl) (hx : Loc X.env.scope n1 := by first | exact Or.inl rfl | exact Or.inr rfl) (hf : X.fn n1 = true ∨ X.env.scope.names.lookup n1 = some .local := by first | exact .inl rfl | exact .inr rfl)
    (hi2 : X.N[j]? = some n2 := by rfl) (hx2 : Loc X.env.scope n2 := by first | exact Or.inl rfl | exact Or.inr rfl) (hf2 : X.fn n2 = true ∨ X.env.scope.names.lookup n2 = some .local := by first | exact .inl rfl | exact .inr rfl) :
    PGd X fx (.Tuple [.Name n1 p1, .Name n2 p2] k pos) (gTup X.K 2 (gCons (gName i) (gCons (gName j) gNil))) un2 (fun G d => (G.set i (.im d.1)).set j (.im d.2)) [i, j] :=
  ⟨pg_tup C.calm (pgs_cons (pg_name C.nd hi hx hf) (pgs_cons (pg_name C.nd hi2 hx2 hf2) pgs_nil)), fun {G Hf d v σ H s c Q} st r e q => by
    cases d with
    | tup ds =>
      obtain ⟨hz, a, vs, rfl, t, l⟩ := r
      unfold un2 at e
      split at e
      · rename_i d1 d2 eq
        cases eq
        cases e
        obtain ⟨v1, r1, rfl, i1, v2, r2, rfl, i2, rfl⟩ := l
        refine ⟨a, _, rfl, st.top.sqt t, rfl, v1, _, rfl, v2, _, rfl, rfl, q _ (fun k hk => ?_) (by simp) ((st.set i1).set i2)⟩
        rw [List.getElem?_set_ne (fun z => hk (by simp [z])), List.getElem?_set_ne (fun z => hk (by simp [z]))]
      · cases e
    | _ => cases e⟩
theorem pgd_tup3 (C : Cok X fx kk) (i j l : Nat) {n1 n2 n3 : Str} {p1 p2 p3 : Pos} {k : Nat} (hi : X.N[i]? = some n1 := by rfl) (hx : Loc X.env.scope n1 := by first | exact Or.inl rfl | exact Or.inr rfl) (hf : X.fn n1 = true ∨ X.env.scope.names.lookup n1 = some .local := by first | exact .inl rfl | exact .inr rfl)
    (hi2 : X.N[j]? = some n2 := by rfl) (hx2 : Loc X.env.scope n2 := by first | exact Or.inl rfl | exact Or.inr rfl) (hf2 : X.fn n2 = true ∨ X.env.scope.names.lookup n2 = some .local := by first | exact .inl rfl | exact .inr rfl)
    (hi3 : X.N[l]? = some n3 := by rfl) (hx3 : Loc X.env.scope n3 := by first | exact Or.inl rfl | exact Or.inr rfl) (hf3 : X.fn n3 = true ∨ X.env.scope.names.lookup n3 = some .local := by first | exact .inl rfl | exact .inr rfl) :
    PGd X fx (.Tuple [.Name n1 p1, .Name n2 p2, .Name n3 p3] k pos) (gTup X.K 3 (gCons (gName i) (gCons (gName j) (gCons (gName l) gNil)))) un3 (fun G d => ((G.set i (.im d.1)).set j (.im d.2.1)).set l (.im d.2.2)) [i, j, l] :=
  ⟨pg_tup C.calm (pgs_cons (pg_name C.nd hi hx hf) (pgs_cons (pg_name C.nd hi2 hx2 hf2) (pgs_cons (pg_name C.nd hi3 hx3 hf3) pgs_nil))), fun {G Hf d v σ H s c Q} st r e q => by
    cases d with
    | tup ds =>
      obtain ⟨hz, a, vs, rfl, t, l⟩ := r
      unfold un3 at e
      split at e
      · rename_i d1 d2 d3 eq
        cases eq
        cases e
        obtain ⟨v1, r1, rfl, i1, v2, r2, rfl, i2, v3, r3, rfl, i3, rfl⟩ := l
        refine ⟨a, _, rfl, st.top.sqt t, rfl, v1, _, rfl, v2, _, rfl, v3, _, rfl, rfl, q _ (fun k hk => ?_) (by simp) (((st.set i1).set i2).set i3)⟩
        rw [List.getElem?_set_ne (fun z => hk (by simp [z])), List.getElem?_set_ne (fun z => hk (by simp [z])), List.getElem?_set_ne (fun z => hk (by simp [z]))]
      · cases e
    | _ => cases e⟩
end
end DL
namespace DL
open PySem L2
/-! ### list comprehensions -/
section
variable {m : Type → Type} [Mo m] {γ : Type}
def lcF (u : D → Option γ) (xt : γ → m Bool) (xe : γ → m D) : List D → m (List D)
  | [] => pure []
  | d :: ds => do
    let c ← ask (u d)
    let b ← Mo.noex (xt c)
    if b = true then do
      let y ← Mo.noex (xe c)
      let r ← lcF u xt xe ds
      pure (y :: r)
    else lcF u xt xe ds
end
abbrev Fx.nox (fx : Fx) : Fx := { fx with W := fun _ _ _ _ => False, gx := none }
def wipeG (G : List Sl) : List Nat → List Sl
  | [] => G
  | v :: vs => (wipeG G vs).set v .un
theorem wipe_get {σ : L2.St} {i : Nat} : ∀ {vs : List Nat}, i ∉ vs → (wipe σ vs)[i]? = σ[i]?
  | [], _ => rfl
  | v :: vs, h => by
    unfold wipe
    rw [List.getElem?_set_ne (fun z => h (by simp [z])), wipe_get (fun z => h (List.mem_cons_of_mem _ z))]
theorem wipe_in {σ : L2.St} {i : Nat} : ∀ {vs : List Nat}, i ∈ vs → i < σ.length → (wipe σ vs)[i]? = some none
  | [], h, _ => by cases h
  | v :: vs, h, hl => by
    unfold wipe
    by_cases c : v = i
    · subst c
      rw [List.getElem?_set_self (by rw [wipe_length]; exact hl)]
    · rw [List.getElem?_set_ne c]
      rcases List.mem_cons.mp h with e | h'
      · exact absurd e.symm c
      · exact wipe_in h' hl
theorem wipeG_len {G : List Sl} : ∀ (vs : List Nat), (wipeG G vs).length = G.length
  | [] => rfl
  | v :: vs => by unfold wipeG; rw [List.length_set, wipeG_len vs]
theorem wipeG_get {G : List Sl} {i : Nat} : ∀ {vs : List Nat}, i ∉ vs → (wipeG G vs)[i]? = G[i]?
  | [], _ => rfl
  | v :: vs, h => by
    unfold wipeG
    rw [List.getElem?_set_ne (fun z => h (by simp [z])), wipeG_get (fun z => h (List.mem_cons_of_mem _ z))]
theorem wipeG_in {G : List Sl} {i : Nat} : ∀ {vs : List Nat} {x : Sl}, i ∈ vs → (wipeG G vs)[i]? = some x → x = .un
  | [], _, h, _ => by cases h
  | v :: vs, x, h, e => by
    unfold wipeG at e
    by_cases c : v = i
    · subst c
      have hl : v < (wipeG G vs).length := by
        have := (List.getElem?_eq_some_iff.mp e).1
        simpa using this
      rw [List.getElem?_set_self hl] at e
      cases e
      rfl
    · rw [List.getElem?_set_ne c] at e
      rcases List.mem_cons.mp h with e' | h'
      · exact absurd e'.symm c
      · exact wipeG_in h' e
theorem wipe_eq {σ σ2 : L2.St} {vs : List Nat} (hl : σ2.length = (wipe σ vs).length) (h : ∀ j, j ∉ vs → σ2[j]? = (wipe σ vs)[j]?) : wipe σ2 vs = wipe σ vs := by
  apply List.ext_getElem?
  intro i
  by_cases c : i ∈ vs
  · by_cases hi : i < σ.length
    · rw [wipe_in c hi, wipe_in c (by rw [hl, wipe_length]; exact hi)]
    · rw [List.getElem?_eq_none (by rw [wipe_length, hl, wipe_length]; omega), List.getElem?_eq_none (by rw [wipe_length]; omega)]
  · rw [wipe_get c, h i c]
section
variable {K : PySem.W.Frag} {mg : Str → Option Value} {fx : Fx} {Hf H : Hp} {σ : L2.St} {G : List Sl} {s : S}
theorem StS.wiped (st : StS K mg fx Hf H σ G s) (vs : List Nat) : StS K mg fx.nox Hf H (wipe σ vs) (wipeG G vs) s := by
  have get : ∀ {i : Nat} {x : Sl}, (wipeG G vs)[i]? = some x → x ≠ .un → G[i]? = some x ∧ (wipe σ vs)[i]? = σ[i]? := fun {i x} e n => by
    by_cases c : i ∈ vs
    · exact absurd (wipeG_in c e) n
    · rw [wipeG_get c] at e
      exact ⟨e, wipe_get c⟩
  refine ⟨st.ste, st.bag, st.bagg, by rw [wipe_length, wipeG_len]; exact st.len, fun i x e => ?_, fun i j x y p hij ex ey ox oy e1 e2 => ?_⟩
  · cases x with
    | un => trivial
    | im d =>
      obtain ⟨e', q⟩ := get e (by simp)
      rw [q]; exact st.sl i _ e'
    | bg =>
      obtain ⟨e', q⟩ := get e (by simp)
      rw [q]; exact st.sl i _ e'
    | ow ds =>
      obtain ⟨e', q⟩ := get e (by simp)
      rw [q]; exact st.sl i _ e'
    | od ks ds =>
      obtain ⟨e', q⟩ := get e (by simp)
      rw [q]; exact st.sl i _ e'
    | ob ns ds =>
      obtain ⟨e', q⟩ := get e (by simp)
      rw [q]; exact st.sl i _ e'
  · have nx : x ≠ .un := fun z => by subst z; cases ox
    have ny : y ≠ .un := fun z => by subst z; cases oy
    obtain ⟨ex', q1⟩ := get ex nx
    obtain ⟨ey', q2⟩ := get ey ny
    rw [q1] at e1
    rw [q2] at e2
    exact st.dis i j x y p hij ex' ey' ox oy e1 e2
theorem StS.nox (st : StS K mg fx Hf H σ G s) : StS K mg fx.nox Hf H σ G s := ⟨st.ste, st.bag, st.bagg, st.len, fun i x e => by
  have so := st.sl i x e
  cases x with
  | un => trivial
  | im d => exact so
  | ow ds => exact so
  | od ks ds => exact so
  | ob ns ds => exact so
  | bg => exact so, st.dis⟩
end
section
variable {X : Cx} {fx : Fx} {m : Type → Type} [Mo m] {G : List Sl} {γ : Type} {kk : Nat}
/-- the reading of a comprehension -/
theorem lc_read {xi : m (List D)} {u : D → Option γ} {xt : γ → m Bool} {xe : γ → m D} {g : TG} {st : List Sl → γ → List Sl} {is vs : List Nat} {tg : Expr} {K : PySem.W.Frag} {mg : Str → Option Value}
    (hg : ∀ {G : List Sl} {Hf : Hp} {d : D} {v : V} {σ : L2.St} {H : Hp} {s : S} {c : γ} {Q : L2.St → Hp → Prop}, StS K mg fx.nox Hf H σ G s → Is K mg Hf d v → u d = some c → (∀ σ', (∀ j, j ∉ is → σ'[j]? = σ[j]?) → σ'.length = σ.length → StS K mg fx.nox Hf H σ' (st G c) s → Q σ' H) → g v σ H Q)
    (hsub : ∀ i ∈ is, i ∈ vs) {σ : L2.St} {H : Hp} {Q : VK} (h : tF K mg fx G (do let ds ← xi; lcF u xt xe ds) σ H Q) :
    tLc (tI K mg fx G xi) g (fun σ H Q => ∃ c, tT K mg fx.nox (st (wipeG G vs) c) (xt c) σ H Q) (fun σ H Q => ∃ c, tE K mg fx.nox (st (wipeG G vs) c) (xe c) σ H Q) vs σ H Q := by
  obtain ⟨Hf0, s0, st0, w0⟩ := h
  refine ⟨Hf0, s0, st0, Mo.wp_mono (Mo.wp_bind w0) (fun ds s1 w1 J Hf1 H1 e1 bg1 yl Da hD => ?_) fun e s' k => k⟩
  have st1 := st0.step e1 bg1
  obtain ⟨nH0, nb, nf⟩ := st1.new0 hD
  have hn0 : H Da = none := by
    cases q : H Da with
    | none => rfl
    | some o => exact absurd hD (e1.dom Da (by rw [q]; simp))
  have no := st1.owNe hD
  refine ⟨fun i m H' => m = ds.length - i ∧ i ≤ ds.length ∧ ∃ Hf s acc accV, Sub Hf1 Hf ∧ StS K mg fx Hf H' σ G s ∧ Ste fx.bag Hf0 H Hf H' ∧ H' Da = some (.lst accV) ∧ IsL K mg Hf acc accV ∧ Hf Da = none ∧ acc.length ≤ i ∧
    Mo.wp (lcF u xt xe (ds.drop i)) s (fun r s' => FrQ K mg fx Hf0 H Q (acc ++ r) s') (EX K mg fx G σ), ⟨ds.length, by simp, Nat.zero_le _, Hf1, s1, [], [], .refl _, st1.other nf nH0 nb no, e1.upd hn0 nf, upd_same, .nil, nf, Nat.zero_le _, w1⟩, ?_⟩
  rintro i m H2 ⟨rfl, hi, Hf2, s2, acc, accV, sb2, st2, e2, hD2, l2, nf2, la, w2⟩
  obtain ⟨y1, y2⟩ := yl.2 Hf2 H2 sb2 st2.top i
  by_cases hlt : i < ds.length
  · obtain ⟨go, yd⟩ := y1 ds[i] (List.getElem?_eq_getElem hlt)
    rw [List.drop_eq_getElem_cons hlt] at w2
    have w4 := Mo.wp_lift (Mo.wp_bind w2)
    refine .inr ⟨go, fun H' => i + 1 ≤ ds.length ∧ ∃ Hf s acc accV, Sub Hf1 Hf ∧ StS K mg fx Hf H' σ G s ∧ Ste fx.bag Hf0 H Hf H' ∧ H' Da = some (.lst accV) ∧ IsL K mg Hf acc accV ∧ Hf Da = none ∧ acc.length ≤ i + 1 ∧
      Mo.wp (lcF u xt xe (ds.drop (i + 1))) s (fun r s' => FrQ K mg fx Hf0 H Q (acc ++ r) s') (EX K mg fx G σ), fun H' q => ⟨ds.length - (i + 1), by omega, rfl, q⟩, fun x H3 y => ?_⟩
    obtain ⟨Hf3, e3, is3⟩ := yd x H3 y
    cases q : u ds[i] with
    | none => rw [q] at w4; exact w4.elim
    | some c =>
      rw [q] at w4
      have st3 := st2.step e3.wide (e3.bag st2.bag)
      refine hg (st3.wiped vs) is3 q fun σ2 hs hl st4 => ⟨wipe_eq hl fun j hj => hs j fun z => hj (hsub j z), c, Hf3, s2, st4, ?_⟩
      refine Mo.wp_mono (Mo.wp_noex (Mo.wp_bind w4)) (fun b s5 w5 b' Hf5 H5 e5 bg5 eb => ?_) fun _ _ f => f.elim
      subst eb
      have st5 := st3.step (fx := fx) (Hf' := Hf5) (H' := H5) e5 bg5
      have hD5 : H5 Da = some (.lst accV) := e5.keep _ _ (e3.keep _ _ hD2 (by simp)) nb
      have nf5 : Hf5 Da = none := e5.stayNone (e3.stayNone nf2 (by rw [hD2]; simp)) (by rw [e3.keep _ _ hD2 (by simp)]; simp)
      have e25 : Ste fx.bag Hf2 H2 Hf5 H5 := (e3.wide).trans e5
      cases b' with
      | true =>
        refine ⟨c, Hf5, s5, st4.step e5 bg5, ?_⟩
        have w6 : Mo.wp (Mo.noex (xe c) >>= fun y => lcF u xt xe (ds.drop (i + 1)) >>= fun r => pure (y :: r)) s5 _ _ := w5
        refine Mo.wp_mono (Mo.wp_noex (Mo.wp_bind w6)) (fun y s6 w7 yv Hf6 H6 e6 bg6 is6 => ?_) fun _ _ f => f.elim
        have hD6 : H6 Da = some (.lst accV) := e6.keep _ _ hD5 nb
        have nf6 : Hf6 Da = none := e6.stayNone nf5 (by rw [hD5]; simp)
        have e26 := e25.trans e6
        have st6 := st5.step (fx := fx) (Hf' := Hf6) (H' := H6) e6 bg6
        refine ⟨accV, hD6, ?_, hlt, Hf6, s6, acc ++ [y], accV ++ [yv], sb2.trans e26.sub, st6.other nf6 nH0 nb no, (e2.trans e26).upd hn0 nf6, upd_same, (l2.mono e26.sub).app (.cons is6 .nil), nf6, ?_, ?_⟩
        · rw [← l2.len]
          exact Nat.lt_of_lt_of_le (Nat.lt_of_le_of_lt la hlt) yl.1
        · rw [List.length_append, List.length_singleton]
          omega
        · refine Mo.wp_mono (Mo.wp_bind w7) (fun r s8 w8 => ?_) fun e s' k => k
          have w9 := Mo.wp_pure w8
          rw [List.append_assoc, List.singleton_append]
          exact w9
      | false => exact ⟨hlt, Hf5, s5, acc, accV, sb2.trans e25.sub, st5, e2.trans e25, hD5, l2.mono e25.sub, nf5, Nat.le_succ_of_le la, w5⟩
  · have e : i = ds.length := by omega
    subst e
    refine .inl ⟨y2 (Nat.le_refl _), ?_⟩
    rw [List.drop_length] at w2
    have w3 := Mo.wp_pure w2
    rw [List.append_nil] at w3
    exact w3 Da accV Hf2 H2 e2 st2.bag hD2 nf2 hn0 l2 (Nat.le_trans la yl.1)
end
end DL
namespace DL
open PySem L2
theorem Cok.blk {X : Cx} {fx : Fx} {kk : Nat} (C : Cok X fx kk) (s : Shared) (H : Hp) (scope : Scope) (cenv : Env) (fp : List Addr) : Cok (X.blk s H scope cenv fp) fx.nox kk :=
  ⟨C.calm, PassesOwn.never, fun _ _ ⟨_, _, _, _, _, _, _, _, _, _, _, _, _, _, _, _, w⟩ => w.elim, C.rm, C.nd, C.gd⟩
theorem pts_true {X : Cx} {fx : Fx} {m : Type → Type} [Mo m] {G : List Sl} : PTs X [] (tT X.K X.mg fx G (pure true : m Bool)) := ⟨fun pins s σ H Q I ⟨Hf, s', h⟩ => pts_nil.run pins s σ H Q I (h.pure rfl)⟩
theorem pts_test {X : Cx} {fx : Fx} {m : Type → Type} [Mo m] {G : List Sl} {c : Expr} {t : m Bool} (h : PT X c (tT X.K X.mg fx G t)) : PTs X [c] (tT X.K X.mg fx G t) := pts_one h
theorem pts_ex {X : Cx} {ι : Type} {ifs : List Expr} {t : ι → TT} (h : ∀ i, PTs X ifs (t i)) : PTs X ifs (fun σ H Q => ∃ i, t i σ H Q) := ⟨fun pins s σ H Q I ⟨i, q⟩ => (h i).run pins s σ H Q I q⟩
theorem pe_ex {X : Cx} {ι : Type} {e : Expr} {t : ι → TE} (h : ∀ i, PE X e (t i)) : PE X e (fun σ H Q => ∃ i, t i σ H Q) := ⟨fun pins s σ H Q I ⟨i, q⟩ => (h i).run pins s σ H Q I q⟩
section
variable {X : Cx} {fx : Fx} {m : Type → Type} [Mo m] {G : List Sl} {γ α β : Type} {kk : Nat} {elt tg iter : Expr} {ifs : List Expr} {scope : Scope} {pos : Pos} {xi : m (List D)} {u : D → Option γ} {xt : γ → m Bool} {xe : γ → m D} {g : TG} {st : List Sl → γ → List Sl} {is : List Nat}
/-- [elt for tg in iter if ..] -/
theorem df_lc (own : List (Str × Nat)) (C : Cok X fx kk) (hi : PI X tg iter (tI X.K X.mg fx G xi)) (ok : BlkOk X.N X.env.scope scope own)
    (hg : ∀ (s : Shared) (H : Hp) (A : Addr) (cl : List (Str × Addr)) (fp : List Addr), PGd (X.blk s H scope (compEnvC scope cl A X.env) fp) fx.nox tg g u st is)
    (ht : ∀ (s : Shared) (H : Hp) (A : Addr) (cl : List (Str × Addr)) (fp : List Addr), Cok (X.blk s H scope (compEnvC scope cl A X.env) fp) fx.nox kk → ∀ c, PTs (X.blk s H scope (compEnvC scope cl A X.env) fp) ifs (tT X.K X.mg fx.nox (st (wipeG G (own.map (·.2))) c) (xt c)))
    (he : ∀ (s : Shared) (H : Hp) (A : Addr) (cl : List (Str × Addr)) (fp : List Addr), Cok (X.blk s H scope (compEnvC scope cl A X.env) fp) fx.nox kk → ∀ c, PE (X.blk s H scope (compEnvC scope cl A X.env) fp) elt (tE X.K X.mg fx.nox (st (wipeG G (own.map (·.2))) c) (xe c)))
    (hsub : ∀ i ∈ is, i ∈ own.map (·.2)) (hs : ∀ x, foldedSetIterable iter X.env x = pure x := by intro _; rfl) :
    PE X (.ListComp elt [⟨tg, iter, ifs, 0⟩] scope pos) (tF X.K X.mg fx G (do let ds ← xi; lcF u xt xe ds)) :=
  peI (pe_lc (own := own) C.calm C.nd hi ok (fun s H A cl fp => (hg s H A cl fp).1) (fun s H A cl fp => pts_ex (ht s H A cl fp (C.blk ..))) (fun s H A cl fp => pe_ex (he s H A cl fp (C.blk ..))) hs) fun σ H Q h =>
    lc_read (tg := tg) (fun {G Hf d v σ H s c Q} => (hg {} (fun _ => none) 0 [] []).2) hsub h
/-- x = [.. for ..] on one line -/
theorem ps_setLcF (own : List (Str × Nat)) (C : Cok X fx kk) {n : Str} {pos' : Pos} (i : Nat) (hi : PI X tg iter (tI X.K X.mg fx G xi)) (ok : BlkOk X.N X.env.scope scope own)
    (hg : ∀ (s : Shared) (H : Hp) (A : Addr) (cl : List (Str × Addr)) (fp : List Addr), PGd (X.blk s H scope (compEnvC scope cl A X.env) fp) fx.nox tg g u st is)
    (ht : ∀ (s : Shared) (H : Hp) (A : Addr) (cl : List (Str × Addr)) (fp : List Addr), Cok (X.blk s H scope (compEnvC scope cl A X.env) fp) fx.nox kk → ∀ c, PTs (X.blk s H scope (compEnvC scope cl A X.env) fp) ifs (tT X.K X.mg fx.nox (st (wipeG G (own.map (·.2))) c) (xt c)))
    (he : ∀ (s : Shared) (H : Hp) (A : Addr) (cl : List (Str × Addr)) (fp : List Addr), Cok (X.blk s H scope (compEnvC scope cl A X.env) fp) fx.nox kk → ∀ c, PE (X.blk s H scope (compEnvC scope cl A X.env) fp) elt (tE X.K X.mg fx.nox (st (wipeG G (own.map (·.2))) c) (xe c)))
    (hsub : ∀ i ∈ is, i ∈ own.map (·.2)) {spos : Pos} (hn : X.N[i]? = some n := by rfl) (hyl : X.env.scope.names.lookup n = some .local := by rfl)
    (hsw : swapsWith (.ListComp elt [⟨tg, iter, ifs, 0⟩] scope pos) (some (.Name n pos')) spos.line X.env = pure true := by exact sw_true rfl rfl rfl (by decide +kernel)) (hs : ∀ x, foldedSetIterable iter X.env x = pure x := by intro _; rfl) :
    PS X (.Assign [.Name n pos'] (.ListComp elt [⟨tg, iter, ifs, 0⟩] scope pos) spos) (fun D σ H => tF X.K X.mg fx G (do let ds ← xi; lcF u xt xe ds) σ H fun x H1 => D.nx (σ.set i (some x)) H1) :=
  psI (ps_setLc (own := own) C.calm C.nd hn hyl hsw hi ok (fun s H A cl fp => (hg s H A cl fp).1) (fun s H A cl fp => pts_ex (ht s H A cl fp (C.blk ..))) (fun s H A cl fp => pe_ex (he s H A cl fp (C.blk ..))) hs) fun D σ H h =>
    lc_read (tg := tg) (fun {G Hf d v σ H s c Q} => (hg {} (fun _ => none) 0 [] []).2) hsub h
/-- a statement that stores a new list: as a datum -/
theorem dss_setF {stm : Stmt} {rest : List Stmt} {ex : α → List Sl} {exb : β → List Sl} {x : m (List D)} {k : D → m (Fl α β)} {i : Nat} (h : PS X stm (fun D σ H => tF X.K X.mg fx G x σ H fun v H1 => D.nx (σ.set i (some v)) H1)) (hr : ∀ d, PSs X rest (tS X.K X.mg fx (G.set i (.im d)) ex exb (k d))) (hg : GxOk fx G := by first | exact True.intro | repeat' (first | exact True.intro | exact Or.inl rfl | exact Or.inr rfl | refine And.intro ?_ ?_)) :
    PSs X (stm :: rest) (tS X.K X.mg fx G ex exb (do let d ← mkL x; k d)) := pssI (pss_cons h (pss_ex hr)) fun D σ H ⟨Hf, s, h⟩ =>
  ⟨Hf, s, h.1, Mo.wp_mono (Mo.wp_bind (Mo.wp_bind h.2)) (fun ds s1 w p vs Hf1 H1 e bg hp hf1 hn l hz => by
    have st1 := h.1.step e bg
    have n0 := h.1.new0 hn
    have w' := Mo.wp_pure w
    have st2 := st1.setOw (i := i) (h.1.owNe hn) hp hf1 n0.1 n0.2.1 l hz
    have sb : Sub Hf1 (L2.upd Hf1 p (.lst vs)) := fun a o q => by
      have ne : a ≠ p := fun z => by rw [z, hf1] at q; cases q
      rw [upd_ne ne]; exact q
    have e2 : Ste fx.bag Hf H (L2.upd Hf1 p (.lst vs)) H1 := by
      refine ⟨e.sub.trans sb, fun a o q => ?_, e.keep, e.dom, fun a o q => ?_⟩
      · by_cases c : a = p
        · subst c; rw [upd_same] at q; cases q; exact hp
        · rw [upd_ne c] at q; exact e.top a o q
      · by_cases c : a = p
        · subst c; exact .inr hn
        · rw [upd_ne c] at q; exact e.fresh a o q
    exact ⟨.lst ds, _, s1, (h.1.step e2 bg).set ⟨hz, p, vs, rfl, upd_same, l.mono sb⟩, Mo.wp_mono w' (fun f s2 h2 => h2.up e2.sub) fun e s' k => k⟩) fun e s' k => exs_ex hg k⟩
/-- the own list of slot i is a datum from here on -/
theorem dss_frz {rest : List Stmt} {ex : α → List Sl} {exb : β → List Sl} {ds : List D} {x : m (Fl α β)} (i : Nat) (hG : G[i]? = some (.ow ds)) (hr : PSs X rest (tS X.K X.mg fx (G.set i (.im (.lst ds))) ex exb x)) : PSs X rest (tS X.K X.mg fx G ex exb x) := pssI hr fun D σ H ⟨Hf, s, h⟩ => by
  obtain ⟨Hf', sb, st⟩ := h.1.freeze hG
  exact ⟨Hf', s, st, Mo.wp_mono h.2 (fun f s2 h2 => h2.up sb) fun e s' k => k⟩
def apd (ds : List D) (d : D) : Option (List D) := if ds.length < sizeLine then some (ds ++ [d]) else none
end
end DL
namespace DL
open PySem L2
/-! ### items and slices -/
theorem IsL.atI {K : PySem.W.Frag} {mg : Str → Option Value} {H : Hp} {ds : List D} {vs : List V} {i : Int} {d : D} (l : IsL K mg H ds vs) (e : L2.atI ds i = some d) : ∃ v, L2.atI vs i = some v ∧ Is K mg H d v := by
  unfold L2.atI at e ⊢
  rw [← l.len]
  cases q : ixN ds.length i with
  | none => rw [q] at e; cases e
  | some j =>
    rw [q] at e
    exact l.get e
def ixD : D → D → Option D
  | .lst ds, .int i => L2.atI ds i
  | .tup ds, .int i => L2.atI ds i
  | .str s, .int i => (L2.atI s i).map fun c => .str [c]
  | .scr is, .int i => (L2.atI is i).map .int
  | _, _ => none
def cutL {α : Type} (xs : List α) (lo hi : Option Int) : List α := (xs.drop (HT.sIx xs.length 0 lo)).take (HT.sIx xs.length xs.length hi - HT.sIx xs.length 0 lo)
theorem cutL_len {α : Type} (xs : List α) (lo hi : Option Int) : (cutL xs lo hi).length ≤ xs.length := by
  unfold cutL
  rw [List.length_take, List.length_drop]
  omega
def sliceD : D → Option Int → Option Int → Option D
  | .lst ds, lo, hi => some (.lst (cutL ds lo hi))
  | .tup ds, lo, hi => some (.tup (cutL ds lo hi))
  | .str s, lo, hi => some (.str (cutL s lo hi))
  | .scr is, lo, hi => some (.lst ((cutL is lo hi).map .int))
  | _, _, _ => none
section
variable {X : Cx}
theorem oix : IxR X (rD2 X.K X.mg ixD) := by
  intro value slice pins s σ H x y v u Q I rx ry h hs
  obtain ⟨Hf, dx, dy, d, sb, ix, iy, e, q⟩ := h
  unfold ixD at e
  split at e
  · obtain ⟨z1, p1, v1, rfl, h1, l1⟩ := ix
    cases iy
    obtain ⟨w, hw, iw⟩ := l1.atI e
    exact ix_list value slice pins s σ H _ _ v u Q I rx ry ⟨_, _, _, _, rfl, rfl, .inl (.inl (sb _ _ h1)), hw, q _ Hf H (.refl sb) iw⟩ hs
  · obtain ⟨z1, p1, v1, rfl, h1, l1⟩ := ix
    cases iy
    obtain ⟨w, hw, iw⟩ := l1.atI e
    exact ix_tup value slice pins s σ H _ _ v u Q I rx ry ⟨_, _, _, _, rfl, rfl, sb.sqt h1, hw, q _ Hf H (.refl sb) iw⟩ hs
  · rename_i z i
    obtain ⟨rfl, hz⟩ := ix
    cases iy
    cases e1 : L2.atI z i with
    | none => rw [e1] at e; cases e
    | some c =>
      rw [e1] at e
      cases e
      exact ix_str value slice pins s σ H _ _ v u Q I rx ry ⟨_, _, c, rfl, rfl, by rw [str_len]; exact hz, by rw [str_tl]; exact e1, q _ Hf H (.refl sb) ⟨rfl, by show 1 ≤ sizeLine; decide⟩⟩ hs
  · rename_i z i
    obtain ⟨z1, p1, rfl, h1⟩ := ix
    cases iy
    cases e1 : L2.atI z i with
    | none => rw [e1] at e; cases e
    | some c =>
      rw [e1] at e
      cases e
      refine ix_list value slice pins s σ H _ _ v u Q I rx ry ⟨_, _, _, _, rfl, rfl, sb.sql h1.sq, ?_, q _ Hf H (.refl sb) (is_int _)⟩ hs
      unfold L2.atI at e1 ⊢
      rw [List.length_map]
      cases q2 : ixN z.length i with
      | none => rw [q2] at e1; cases e1
      | some j =>
        rw [q2] at e1
        have e1' : z[j]? = some c := e1
        show (z.map V.int)[j]? = _
        rw [List.getElem?_map, e1']
        rfl
  · cases e
theorem isL_ints {K : PySem.W.Frag} {mg : Str → Option Value} {H : Hp} : ∀ z : List Int, IsL K mg H (z.map .int) (z.map V.int)
  | [] => rfl
  | c :: z => ⟨_, _, rfl, is_int _, isL_ints z⟩
theorem osl : SlR X (fun x lo hi H Q => ∃ Hf dx d, Sub Hf H ∧ Is X.K X.mg Hf dx x ∧ sliceD dx lo hi = some d ∧ ∀ u Hf' H', Ste [] Hf H Hf' H' → Is X.K X.mg Hf' d u → Q u H') := by
  intro pins s σ H x v vl vu lo hi sl Q I rx hs pl pu h
  obtain ⟨Hf, dx, d, sb, ix, e, q⟩ := h
  unfold sliceD at e
  split at e
  · cases e
    obtain ⟨z1, p1, v1, rfl, h1, l1⟩ := ix
    refine sl_list pins s σ H _ v vl vu lo hi sl Q I rx hs pl pu ⟨_, _, rfl, .inl (.inl (sb _ _ h1)), fun p hp => q _ _ _ (.new sb hp) ?_⟩
    refine ⟨Nat.le_trans (cutL_len _ _ _) z1, p, _, rfl, upd_same, ?_⟩
    have l2 := l1.mono (Ste.new (bag := []) (o := .lst (cutV v1 lo hi)) sb hp).sub
    unfold cutL cutV
    rw [l1.len]
    exact (l2.drop _).take _
  · cases e
    obtain ⟨z1, p1, v1, rfl, h1, l1⟩ := ix
    refine sl_tupA pins s σ H _ v vl vu lo hi sl Q I rx hs pl pu ⟨_, _, rfl, sb.sqt h1, fun z => ?_, fun z p hp => q _ _ _ (.new sb hp) ?_⟩
    · refine q _ _ _ (.refl sb) ⟨Nat.le_trans (cutL_len _ _ _) z1, p1, v1, rfl, h1, ?_⟩
      unfold cutL
      rw [l1.len, z.1, z.2, List.drop_zero, Nat.sub_zero, ← l1.len, List.take_length]
      exact l1
    · refine ⟨Nat.le_trans (cutL_len _ _ _) z1, p, _, rfl, .inl (.inl upd_same), ?_⟩
      have l2 := l1.mono (Ste.new (bag := []) (o := .tup (cutV v1 lo hi)) sb hp).sub
      unfold cutL cutV
      rw [l1.len]
      exact (l2.drop _).take _
  · cases e
    obtain ⟨rfl, hz⟩ := ix
    refine sl_str pins s σ H _ v vl vu lo hi sl Q I rx hs pl pu ⟨_, rfl, by rw [str_len]; exact hz, q _ Hf H (.refl sb) ?_⟩
    refine ⟨?_, Nat.le_trans (cutL_len _ _ _) hz⟩
    unfold cutS cutL
    rw [str_tl, str_len]
  · cases e
    obtain ⟨z1, p1, rfl, h1⟩ := ix
    refine sl_list pins s σ H _ v vl vu lo hi sl Q I rx hs pl pu ⟨_, _, rfl, sb.sql h1.sq, fun p hp => q _ _ _ (.new sb hp) ?_⟩
    refine ⟨by rw [List.length_map]; exact Nat.le_trans (cutL_len _ _ _) z1, p, _, rfl, upd_same, ?_⟩
    have e2 : ∀ (z : List Int) (lo hi : Option Int), cutV (z.map V.int) lo hi = (cutL z lo hi).map V.int := fun z lo hi => by
      unfold cutL cutV
      rw [List.length_map, List.map_take, List.map_drop]
    rw [e2]
    exact isL_ints _
  · cases e
end
section
variable {X : Cx} {fx : Fx} {m : Type → Type} [Mo m] {G : List Sl} {a b e : Expr} {lo hi : Option Expr} {pos p2 : Pos} {x y : m D} {tl th : m (Option Int)}
theorem de_ix (ha : PE X a (tE X.K X.mg fx G x)) (hb : PE X b (tE X.K X.mg fx G y)) (hs : PlainIx b := by exact fun _ _ => rfl) : PE X (.Subscript a b pos) (tE X.K X.mg fx G (do let u ← x; let v ← y; ask (ixD u v))) := peI (pe_ix oix ha hb hs) fun σ H Q ⟨Hf, s, h⟩ =>
  (h.bind.mono fun v1 H1 ⟨d1, Hf1, s1, sb1, r1, h1⟩ => (h1.bind.mono fun v2 H2 ⟨d2, Hf2, s2, sb2, r2, h2⟩ => by
    obtain ⟨d, e, q⟩ := h2.ask
    exact ⟨Hf2, d1, d2, d, h2.1.top, r1.mono sb2, r2, e, q⟩).to).to
theorem poI {o : Option Expr} {t t' : TO} (h : PO X o t) (w : ∀ σ H Q, t' σ H Q → t σ H Q) : PO X o t' := ⟨fun pins s σ H Q I q => h.run pins s σ H Q I (w _ _ _ q)⟩
abbrev tOp' (K : PySem.W.Frag) (mg : Str → Option Value) (fx : Fx) (G : List Sl) (x : m (Option Int)) : TO := tG K mg fx G (fun _ a b => b = a) x
theorem do_none : PO X none (tOp' X.K X.mg fx G (pure none : m (Option Int))) := poI po_none fun σ H Q ⟨Hf, s, h⟩ => h.pure rfl
theorem do_some (he : PE X e (tE X.K X.mg fx G x)) : PO X (some e) (tOp' X.K X.mg fx G (do let d ← x; let i ← ask (intOf d); pure (some i))) := poI (po_some he) fun σ H Q ⟨Hf, s, h⟩ =>
  (h.bind.mono fun v1 H1 ⟨d1, Hf1, s1, sb1, r1, h1⟩ => by
    have k := Mo.wp_lift (Mo.wp_bind h1.2)
    cases d1 with
    | int i => exact ⟨i, r1, (Mo.wp_pure k) _ Hf1 H1 (.refl h1.1.top) h1.1.bag rfl⟩
    | _ => exact k.elim).to
theorem de_sl (he : PE X e (tE X.K X.mg fx G x)) (hl : PO X lo (tOp' X.K X.mg fx G tl)) (hu : PO X hi (tOp' X.K X.mg fx G th)) : PE X (.Subscript e (.Slice lo hi none p2) pos) (tE X.K X.mg fx G (do let d ← x; let l ← tl; let u ← th; ask (sliceD d l u))) :=
  peI (pe_slice osl he hl hu) fun σ H Q ⟨Hf, s, h⟩ =>
  (h.bind.mono fun v1 H1 ⟨d1, Hf1, s1, sb1, r1, h1⟩ => (h1.bind.mono fun v2 H2 ⟨d2, Hf2, s2, sb2, r2, h2⟩ => (h2.bind.mono fun v3 H3 ⟨d3, Hf3, s3, sb3, r3, h3⟩ => by
    subst r2 r3
    obtain ⟨d, e, q⟩ := h3.ask
    exact ⟨Hf3, d1, d, h3.1.top, (r1.mono sb2).mono sb3, e, q⟩).to).to).to
end
/-! ### built-in functions -/
def lenD : List D → Option D
  | [.lst ds] => some (.int ds.length)
  | [.tup ds] => some (.int ds.length)
  | [.str s] => some (.int s.length)
  | [.scr s] => some (.int s.length)
  | _ => none
def listD : List D → Option (List D)
  | [.lst ds] => some ds
  | [.tup ds] => some ds
  | [.str s] => some (chrs s)
  | _ => none
def tupleD : List D → Option D
  | [.lst ds] => some (.tup ds)
  | [.tup ds] => some (.tup ds)
  | _ => none
def intD : List D → Option D
  | [.int i] => some (.int i)
  | [.bl b] => some (.int (if b then 1 else 0))
  | _ => none
def absD : List D → Option D
  | [.int i] => some (.int (if i < 0 then -i else i))
  | _ => none
def maxD : List D → Option D
  | [.int i, .int j] => some (.int (if j > i then j else i))
  | _ => none
def minD : List D → Option D
  | [.int i, .int j] => some (.int (if j < i then j else i))
  | _ => none
section
variable {X : Cx}
theorem oc_len : CallR X (.builtin "len") (rDs X.K X.mg lenD) := by
  intro pins s σ H xs us Q I r h
  obtain ⟨Hf, ds, d, sb, l, e, q⟩ := h
  unfold lenD at e
  split at e
  · cases e
    obtain ⟨v, r1, rfl, ⟨z1, p1, v1, rfl, h1, l1⟩, rfl⟩ := l
    exact call_len_seq pins s σ H _ us Q I r ⟨_, _, rfl, .inl (.inl (.inl (sb _ _ h1))), by rw [← l1.len]; exact q _ Hf H (.refl sb) (is_int _)⟩
  · cases e
    obtain ⟨v, r1, rfl, ⟨z1, p1, v1, rfl, h1, l1⟩, rfl⟩ := l
    exact call_len_seq pins s σ H _ us Q I r ⟨_, _, rfl, .inr (sb.sqt h1), by rw [← l1.len]; exact q _ Hf H (.refl sb) (is_int _)⟩
  · cases e
    obtain ⟨v, r1, rfl, ⟨rfl, hz⟩, rfl⟩ := l
    exact call_len_str pins s σ H _ us Q I r ⟨_, rfl, by rw [str_len]; exact hz, by rw [str_len]; exact q _ Hf H (.refl sb) (is_int _)⟩
  · cases e
    obtain ⟨v, r1, rfl, ⟨z1, p1, rfl, h1⟩, rfl⟩ := l
    exact call_len_seq pins s σ H _ us Q I r ⟨_, _, rfl, .inl (sb.sql h1.sq), by rw [List.length_map]; exact q _ Hf H (.refl sb) (is_int _)⟩
  · cases e
theorem oc_tuple : CallR X (.type "tuple") (rDs X.K X.mg tupleD) := by
  intro pins s σ H xs us Q I r h
  obtain ⟨Hf, ds, d, sb, l, e, q⟩ := h
  unfold tupleD at e
  split at e
  · cases e
    obtain ⟨v, r1, rfl, ⟨z1, p1, v1, rfl, h1, l1⟩, rfl⟩ := l
    refine call_tuple_of pins s σ H _ us Q I r ⟨_, _, rfl, .inl ⟨.inl (.inl (sb _ _ h1)), fun p hp => q _ _ _ (.new sb hp) ?_⟩⟩
    exact ⟨z1, p, _, rfl, .inl (.inl upd_same), l1.mono (Ste.new (bag := []) sb hp).sub⟩
  · cases e
    obtain ⟨v, r1, rfl, ⟨z1, p1, v1, rfl, h1, l1⟩, rfl⟩ := l
    exact call_tuple_of pins s σ H _ us Q I r ⟨_, _, rfl, .inr ⟨sb.sqt h1, q _ _ _ (.refl sb) ⟨z1, p1, v1, rfl, h1, l1⟩⟩⟩
  · cases e
theorem oc_int : CallR X (.type "int") (rDs X.K X.mg intD) := by
  intro pins s σ H xs us Q I r h
  obtain ⟨Hf, ds, d, sb, l, e, q⟩ := h
  unfold intD at e
  split at e
  · cases e
    obtain ⟨v, r1, rfl, rfl, rfl⟩ := l
    exact call_int1 pins s σ H _ us Q I r (.inl ⟨_, rfl, q _ Hf H (.refl sb) (is_int _)⟩)
  · cases e
    obtain ⟨v, r1, rfl, rfl, rfl⟩ := l
    exact call_int1 pins s σ H _ us Q I r (.inr ⟨_, rfl, q _ Hf H (.refl sb) (is_int _)⟩)
  · cases e
theorem oc_abs : CallR X (.builtin "abs") (rDs X.K X.mg absD) := by
  intro pins s σ H xs us Q I r h
  obtain ⟨Hf, ds, d, sb, l, e, q⟩ := h
  unfold absD at e
  split at e
  · cases e
    obtain ⟨v, r1, rfl, rfl, rfl⟩ := l
    exact call_abs pins s σ H _ us Q I r ⟨_, rfl, q _ Hf H (.refl sb) (is_int _)⟩
  · cases e
theorem oc_max (hc : X.calm = true) : CallR X (.builtin "max") (rDs X.K X.mg maxD) := by
  intro pins s σ H xs us Q I r h
  obtain ⟨Hf, ds, d, sb, l, e, q⟩ := h
  unfold maxD at e
  split at e
  · cases e
    obtain ⟨v, r1, rfl, rfl, v2, r2, rfl, rfl, rfl⟩ := l
    exact call_max2 hc pins s σ H _ us Q I r ⟨_, _, rfl, q _ Hf H (.refl sb) (is_int _)⟩
  · cases e
theorem oc_min (hc : X.calm = true) : CallR X (.builtin "min") (rDs X.K X.mg minD) := by
  intro pins s σ H xs us Q I r h
  obtain ⟨Hf, ds, d, sb, l, e, q⟩ := h
  unfold minD at e
  split at e
  · cases e
    obtain ⟨v, r1, rfl, rfl, v2, r2, rfl, rfl, rfl⟩ := l
    exact call_min2 hc pins s σ H _ us Q I r ⟨_, _, rfl, q _ Hf H (.refl sb) (is_int _)⟩
  · cases e
theorem call_list_chrs (hc : X.calm = true) : CallR X (.type "list") (fun xs H Q => ∃ z : List Nat, xs = [.str ⟨z.toArray⟩] ∧ z.length ≤ sizeLine ∧ ∀ q, H q = none → Q (.ref q) (upd H q (.lst (z.map fun c => .str ⟨#[c]⟩)))) := by
  intro pins s σ H xs us Q I r h
  obtain ⟨z, rfl, hz, q⟩ := h
  obtain ⟨u, rfl, rx⟩ := vals1 r
  obtain ⟨t, rfl⟩ := rx
  have hz' : (⟨z.toArray⟩ : Str).cps.size ≤ sizeLine := by
    show z.toArray.size ≤ sizeLine
    simpa using hz
  refine PySem.call_list_str (hn := hz') (I.ok.hd hc) _ t fun h' tk acc' c' hk hS hacc => ?_
  refine ⟨.ref s.heap.objs.size, upd H s.heap.objs.size (.lst (z.map fun c => .str ⟨#[c]⟩)), I.laid hk (Nat.le_refl _) (show ObjOk X.prog X.w _ _ _ (.lst (z.map fun c => .str ⟨#[c]⟩)) from ⟨by simpa using hz, acc'.toList, c', ?_, by rw [Array.toArray_toList]; exact hS⟩), rfl, q _ (I.hok.fresh (Nat.le_refl _))⟩
  have el : acc'.toList.length = z.length := by
    have := hacc.1
    simpa using this
  refine vals_of_at (by rw [List.length_map, el]) fun j x w h1 h2 => ?_
  obtain ⟨c, u, hc', ew⟩ := hacc.2 j w (by rw [← Array.getElem?_toList]; exact h2)
  subst ew
  have hc2 : z[j]? = some c := by
    have : z.toArray[j]? = some c := hc'
    rwa [List.getElem?_toArray] at this
  rw [List.getElem?_map, hc2] at h1
  cases h1
  exact ⟨u, rfl⟩
/-- list(..): a new list -/
def rDl (K : PySem.W.Frag) (mg : Str → Option Value) (g : List D → Option (List D)) : List V → Hp → VK → Prop := fun xs H Q => ∃ Hf ds es, Sub Hf H ∧ IsL K mg Hf ds xs ∧ g ds = some es ∧ es.length ≤ sizeLine ∧ ∀ p Hf' H' vs, Ste [] Hf H Hf' H' → H p = none → Hf' p = none → H' p = some (.lst vs) → IsL K mg Hf' es vs → Q (.ref p) H'
theorem isL_chrs {K : PySem.W.Frag} {mg : Str → Option Value} {H : Hp} : ∀ z : List Nat, IsL K mg H (chrs z) (z.map fun c => .str ⟨#[c]⟩)
  | [] => rfl
  | c :: z => ⟨_, _, rfl, ⟨rfl, by show 1 ≤ sizeLine; decide⟩, isL_chrs z⟩
theorem oc_list (hc : X.calm = true) : CallR X (.type "list") (rDl X.K X.mg listD) := by
  intro pins s σ H xs us Q I r h
  obtain ⟨Hf, ds, d, sb, l, e, hz, q⟩ := h
  unfold listD at e
  split at e
  · cases e
    obtain ⟨v, r1, rfl, ⟨z1, p1, v1, rfl, h1, l1⟩, rfl⟩ := l
    exact call_list_of pins s σ H _ us Q I r ⟨_, _, rfl, .inl (.inl (.inl (sb _ _ h1))), fun p hp => q p Hf _ _ (.new' sb hp) hp (sb.none hp) upd_same l1⟩
  · cases e
    obtain ⟨v, r1, rfl, ⟨z1, p1, v1, rfl, h1, l1⟩, rfl⟩ := l
    exact call_list_of pins s σ H _ us Q I r ⟨_, _, rfl, .inr (sb.sqt h1), fun p hp => q p Hf _ _ (.new' sb hp) hp (sb.none hp) upd_same l1⟩
  · cases e
    obtain ⟨v, r1, rfl, ⟨rfl, hz⟩, rfl⟩ := l
    exact call_list_chrs hc pins s σ H _ us Q I r ⟨_, rfl, hz, fun p hp => q p Hf _ _ (.new' sb hp) hp (sb.none hp) upd_same (isL_chrs _)⟩
  · cases e
end
section
variable {X : Cx} {fx : Fx} {m : Type → Type} [Mo m] {G : List Sl} {e : Expr} {es : List Expr} {pos p : Pos} {ys : m (List D)}
theorem df_callTy {g : List D → Option (List D)} {T : String} {n : Str} (hc : CallR X (.type T) (rDl X.K X.mg g)) (hg : Gl X n) (hm : X.mg n = none) (hv : bootBuiltins n = some (.type T)) (ha : PA X (e :: es) (tA X.K X.mg fx G ys))
    (hn : n ≠ "__name__" := by decide) (hdb : (n == ("__debug__" : Str)) = false := by decide) (he : starEach (e :: es) X.env = (false, eval e X.env) :: starEach es X.env := by rfl) (hpl : (backTo pos (starEach es X.env)).any (·.1) = false := by rfl) :
    PE X (.Call (.Name n p) (e :: es) [] pos) (tF X.K X.mg fx G (do let ds ← ys; let ds ← ask (g ds); ask (szL ds))) := peI (pe_callTy hc hg hm hv ha hn hdb he hpl) fun σ H Q ⟨Hf, s, st, w⟩ =>
  ⟨Hf, s, st, Mo.wp_mono (Mo.wp_bind w) (fun ds s1 k vs Hf1 H1 e bg l => by
    have k' := Mo.wp_lift (Mo.wp_bind k)
    cases e1 : g ds with
    | none => rw [e1] at k'; exact k'.elim
    | some es =>
      rw [e1] at k'
      have k2 := Mo.wp_lift k'
      by_cases hz : es.length ≤ sizeLine
      · have e2 : szL es = some es := if_pos hz
        rw [e2] at k2
        exact ⟨Hf1, ds, es, (st.step e bg).top, l, e1, hz, fun p Hf' H' vs e3 hp hf' hp' l' => by
          have hn : H p = none := by
            cases q : H p with
            | none => rfl
            | some o => exact absurd hp (e.dom p (by rw [q]; simp))
          exact k2 p vs Hf' H' (e.trans e3.wide) (e3.bag bg) hp' hf' hn l' hz⟩
      · have e2 : szL es = none := if_neg hz
        rw [e2] at k2
        exact k2.elim) fun e s' k => k⟩
end
/-! ### join -/
def joinN (S : List Nat) : List (List Nat) → List Nat
  | [] => []
  | [p] => p
  | p :: q :: r => p ++ (S ++ joinN S (q :: r))
def strsOf : List D → Option (List (List Nat))
  | [] => some []
  | .str s :: r => (strsOf r).map (s :: ·)
  | _ :: _ => none
def joinD (a b : D) : Option D := match a, sqOf b with
  | .str S, some ds => match strsOf ds with
    | some ps => if (ps.map (·.length)).sum + ps.length * S.length ≤ 16777216 then some (.str (joinN S ps)) else none
    | none => none
  | _, _ => none
theorem joinN_eq (S : List Nat) : ∀ ps, joinN S ps = TL.joinL S ps
  | [] => rfl
  | [_] => rfl
  | p :: q :: r => by rw [joinN, TL.joinL, joinN_eq S (q :: r)]
theorem joinN_len (S : List Nat) : ∀ ps : List (List Nat), (joinN S ps).length ≤ (ps.map (·.length)).sum + ps.length * S.length
  | [] => by simp [joinN]
  | [p] => by simp [joinN]
  | p :: q :: r => by
    have := joinN_len S (q :: r)
    rw [joinN, List.length_append, List.length_append, List.map_cons, List.sum_cons, List.length_cons, Nat.add_mul]
    omega
theorem isL_strs {K : PySem.W.Frag} {mg : Str → Option Value} {H : Hp} : ∀ {ds : List D} {vs : List V} {ps : List (List Nat)}, IsL K mg H ds vs → strsOf ds = some ps → vs = ps.map fun p => .str ⟨p.toArray⟩
  | [], _, _, h, e => by cases h; cases e; rfl
  | .str s :: ds, _, _, h, e => by
    obtain ⟨v, r, rfl, ⟨rfl, _⟩, l⟩ := h
    unfold strsOf at e
    cases q : strsOf ds with
    | none => rw [q] at e; cases e
    | some ps => rw [q] at e; cases e; rw [isL_strs l q]; rfl
  | .non :: _, _, _, _, e => by cases e
  | .bl _ :: _, _, _, _, e => by cases e
  | .int _ :: _, _, _, _, e => by cases e
  | .tup _ :: _, _, _, _, e => by cases e
  | .lst _ :: _, _, _, _, e => by cases e
  | .dic _ _ :: _, _, _, _, e => by cases e
  | .ins _ _ _ :: _, _, _, _, e => by cases e
  | .scr _ :: _, _, _, _, e => by cases e
  | .xc _ _ _ _ :: _, _, _, _, e => by cases e
section
variable {X : Cx} {fx : Fx} {m : Type → Type} [Mo m] {G : List Sl} {o e : Expr} {apos pos : Pos} {x y : m D}
theorem de_join (ho : PE X o (tE X.K X.mg fx G x)) (he : PE X e (tE X.K X.mg fx G y)) (hs : starEach [e] X.env = [(false, eval e X.env)] := by rfl) (hbase : attributeBase o "join" X.env (eval o X.env) = eval o X.env := by rfl) (hline : (apos.endLine == pos.line) = true := by rfl) :
    PE X (.Call (.Attribute o "join" apos) [e] [] pos) (tE X.K X.mg fx G (do let u ← x; let _ ← ask (strOf u); let v ← y; ask (joinD u v))) := peI (pe_join ho he hs hbase hline) fun σ H Q ⟨Hf, s, h⟩ =>
  (h.bind.mono fun v1 H1 ⟨d1, Hf1, s1, sb1, r1, h1⟩ => by
    have k := Mo.wp_lift (Mo.wp_bind h1.2)
    cases d1 with
    | str S =>
      obtain ⟨rfl, hz1⟩ := r1
      refine ⟨⟨_, rfl⟩, ?_⟩
      have h2 : tX X.K X.mg fx G (fun H d v => Is X.K X.mg H d v) (do let v ← y; ask (joinD (.str S) v) : m D) Hf1 s1 σ H1 Q := ⟨h1.1, k⟩
      refine (h2.bind.mono fun v2 H2 ⟨d2, Hf2, s2, sb2, r2, h3⟩ => ?_).to
      obtain ⟨d, e, q⟩ := h3.ask
      unfold joinD at e
      cases e2 : sqOf d2 with
      | none => rw [e2] at e; cases e
      | some ds =>
        rw [e2] at e
        cases e3 : strsOf ds with
        | none => simp only [e3] at e; cases e
        | some ps =>
          simp only [e3] at e
          split at e
          · rename_i hz
            cases e
            have fin : Q (.str (Txt.join ⟨S.toArray⟩ (ps.map fun p => (⟨p.toArray⟩ : Str)))) H2 := by
              refine q _ Hf2 H2 (.refl h3.1.top) ⟨?_, Nat.le_trans (joinN_len S ps) (by rw [sizeLine_eq]; exact hz)⟩
              rw [TL.join_eq]
              congr 1
              have e4 := TL.tl_join ⟨S.toArray⟩ (ps.map fun p => (⟨p.toArray⟩ : Str))
              refine TL.ext_tl ?_
              refine (e4.trans ?_).trans (str_tl (joinN S ps)).symm
              rw [joinN_eq, List.map_map]
              have e5 : (ps.map (TL.tl ∘ fun p => (⟨p.toArray⟩ : Str))) = ps := by
                conv => rhs; rw [← List.map_id ps]
                exact List.map_congr_left fun p _ => str_tl p
              rw [e5]
            have hz' : ((ps.map fun p => (⟨p.toArray⟩ : Str)).map (·.length)).sum + (ps.map fun p => (⟨p.toArray⟩ : Str)).length * (⟨S.toArray⟩ : Str).length ≤ 16777216 := by
              rw [List.map_map, List.length_map, str_len]
              have e5 : (ps.map ((fun x : Str => x.length) ∘ fun p => (⟨p.toArray⟩ : Str))) = ps.map (·.length) := List.map_congr_left fun p _ => str_len p
              rw [e5]
              exact hz
            have em : (ps.map fun p => V.str ⟨p.toArray⟩) = (ps.map fun p => (⟨p.toArray⟩ : Str)).map V.str := by rw [List.map_map]; rfl
            cases d2 with
            | lst es =>
              cases e2
              obtain ⟨z1, p1, w1, rfl, t1, l1⟩ := r2
              have ew := isL_strs l1 e3
              subst ew
              exact ⟨_, p1, _, rfl, rfl, .inl (.inl (.inl (by rw [← em]; exact h3.1.top _ _ t1))), hz', fin⟩
            | tup es =>
              cases e2
              obtain ⟨z1, p1, w1, rfl, t1, l1⟩ := r2
              have ew := isL_strs l1 e3
              subst ew
              exact ⟨_, p1, _, rfl, rfl, .inr (by rw [← em]; exact h3.1.top.sqt t1), hz', fin⟩
            | _ => cases e2
          · cases e
    | _ => exact k.elim).to
end
end DL
namespace DL
open PySem L2
/-! ### times -/
theorem foldl_app (x : Array Nat) : ∀ (n : Nat) (acc : Array Nat), (List.replicate n x).foldl (· ++ ·) acc = acc ++ (List.replicate n x.toList).flatten.toArray
  | 0, acc => by simp
  | n + 1, acc => by
    rw [List.replicate_succ, List.foldl_cons, foldl_app x n, List.replicate_succ, List.flatten_cons]
    apply Array.ext'
    simp
theorem mulS_eq (a : List Nat) (k : Int) (h0 : 0 ≤ k) : Txt.mul ⟨a.toArray⟩ k = ⟨(List.replicate k.toNat a).flatten.toArray⟩ := by
  unfold Txt.mul
  by_cases h1 : k < 1
  · have : k = 0 := by omega
    subst this
    rfl
  · rw [if_neg h1]
    by_cases h2 : (k == 1 || (⟨a.toArray⟩ : Str).length == 0) = true
    · rw [if_pos h2]
      rw [str_len] at h2
      by_cases h3 : k = 1
      · subst h3
        simp
      · have : a.length = 0 := by simpa [h3] using h2
        have : a = [] := List.length_eq_zero_iff.mp this
        subst this
        simp
    · rw [if_neg h2, foldl_app]
      simp
theorem rep_len {α : Type} (a : List α) (n : Nat) : (List.replicate n a).flatten.length = a.length * n := by
  simp [Nat.mul_comm]
theorem isL_rep {K : PySem.W.Frag} {mg : Str → Option Value} {H : Hp} {ds : List D} {vs : List V} (l : IsL K mg H ds vs) : ∀ n : Nat, IsL K mg H (List.replicate n ds).flatten (List.replicate n vs).flatten
  | 0 => rfl
  | n + 1 => by
    rw [List.replicate_succ, List.replicate_succ, List.flatten_cons, List.flatten_cons]
    exact l.app (isL_rep l n)
section
variable {X : Cx}
theorem od_mul : OpR X (binaryOp .Mult) (rD2 X.K X.mg mulD) := by
  intro pins s σ H x y v u Q I rx ry h
  obtain ⟨Hf, dx, dy, d, sb, ix, iy, e, q⟩ := h
  unfold mulD at e
  split at e
  · split at e
    · rename_i i j hc
      cases e; cases ix; cases iy
      exact op_mulW pins s σ H _ _ v u Q I rx ry ⟨_, _, rfl, rfl, hc, q _ Hf H (.refl sb) (is_int _)⟩
    · cases e
  · split at e
    · rename_i a k hc
      cases e
      obtain ⟨rfl, hz⟩ := ix
      cases iy
      obtain ⟨t, rfl⟩ := rx
      obtain ⟨t2, rfl⟩ := ry
      have hl : (⟨a.toArray⟩ : Str).length = a.length := str_len a
      refine SB.mul ⟨?_, fun h1 _ => ?_, fun h1 _ => ?_⟩ fun t' k' => ?_
      · rw [Bool.or_eq_false_iff]
        exact ⟨decide_eq_false (by omega), decide_eq_false (by omega)⟩
      · rw [hl]
        have h2 : ((a.length * k.toNat : Nat) : Int) ≤ 1000000 := by omega
        rw [Int.natCast_mul, Int.toNat_of_nonneg hc.1] at h2
        have := Int.le_ediv_of_mul_le (a := (a.length : Int)) (b := 2 ^ 63 - 1) (c := k) (by omega) (by omega)
        omega
      · unfold Builtin.Str.tooLong
        rw [hl, sizeLine_eq]
        exact decide_eq_false (by omega)
      · rw [mulS_eq a k hc.1]
        refine ⟨.str _, H, I.tok k', ⟨t', rfl⟩, q _ Hf H (.refl sb) ⟨rfl, ?_⟩⟩
        rw [rep_len, sizeLine_eq]
        omega
    · cases e
  · split at e
    · rename_i a k hc
      cases e
      obtain ⟨z1, p1, v1, rfl, h1, l1⟩ := ix
      cases iy
      refine op_rep pins s σ H _ _ v u Q I rx ry ⟨_, _, _, rfl, rfl, sb _ _ h1, by omega, by omega, ?_, fun p hp => q _ _ _ (.new sb hp) ⟨?_, p, _, rfl, upd_same, ?_⟩⟩
      · rw [← l1.len, sizeLine_eq]; omega
      · rw [rep_len, sizeLine_eq]; omega
      · have l2 := l1.mono (Ste.new (bag := []) (o := .lst (List.replicate k.toNat v1).flatten) sb hp).sub
        exact isL_rep l2 _
    · cases e
  · cases e
end
end DL
namespace DL
open PySem L2
section
variable {X : Cx}
theorem isNone_is {K : PySem.W.Frag} {mg : Str → Option Value} {H : Hp} {d : D} {v : V} {b : Bool} (i : Is K mg H d v) (e : isNone d = some b) : decide (v = .non) = b := by
  cases d with
  | non => cases i; cases e; rfl
  | bl c => cases i; cases e; rfl
  | int c => cases i; cases e; rfl
  | str c => obtain ⟨rfl, _⟩ := i; cases e; rfl
  | tup ds => obtain ⟨_, a, vs, rfl, _⟩ := i; cases e; rfl
  | lst ds => obtain ⟨_, a, vs, rfl, _⟩ := i; cases e; rfl
  | dic _ _ => obtain ⟨a, vs, rfl, _⟩ := i; cases e; rfl
  | ins _ _ _ => obtain ⟨a, c, dd, vs, rfl, _⟩ := i; cases e; rfl
  | scr _ => obtain ⟨_, a, rfl, _⟩ := i; cases e; rfl
  | xc _ _ _ _ => obtain ⟨rfl, _⟩ := i; cases e; rfl
theorem od_is : OpR X (compareOp .Is) (rD2 X.K X.mg isD) := by
  intro pins s σ H x y v u Q I rx ry h
  obtain ⟨Hf, dx, dy, d, sb, ix, iy, e, q⟩ := h
  unfold isD at e
  split at e
  · cases iy
    cases e1 : isNone dx with
    | none => rw [e1] at e; cases e
    | some b =>
      rw [e1] at e; cases e
      have e2 := isNone_is ix e1
      exact op_isN pins s σ H _ _ v u Q I rx ry ⟨rfl, by rw [e2]; exact q _ Hf H (.refl sb) (is_bl _)⟩
  · cases e; cases ix; cases iy
    exact op_isBl pins s σ H _ _ v u Q I rx ry ⟨_, _, rfl, rfl, q _ Hf H (.refl sb) (is_bl _)⟩
  · cases e
theorem in_core (hu : X.A.units + 65 < cLine) {pins : List (Addr × Obj)} {s : Shared} {σ : L2.St} {H : Hp} {x y : V} {v u : Value} (I : Inv X pins σ H s) (rx : RelV x v) (ry : RelV y u) {Hf : Hp} {dx dy : D} {b : Bool} (sb : Sub Hf H) (ix : Is X.K X.mg Hf dx x) (iy : Is X.K X.mg Hf dy y) (e : inP dx dy = some b) :
    (∀ Q : VK, Q (.bl b) H → wpAny (model X.prog X.w) X.A (compareOp .In v u) (EP X pins σ Q) X.xe s) ∧ (∀ Q : VK, Q (.bl (!b)) H → wpAny (model X.prog X.w) X.A (compareOp .NotIn v u) (EP X pins σ Q) X.xe s) := by
  unfold inP at e
  split at e
  · obtain ⟨rfl, _⟩ := ix
    obtain ⟨rfl, _⟩ := iy
    cases e
    refine ⟨fun Q q => op_in_sign pins s σ H _ _ v u Q I rx ry ⟨_, _, rfl, rfl, by rw [str_tl]; exact q⟩, fun Q q => op_notIn_sign pins s σ H _ _ v u Q I rx ry ⟨_, _, rfl, rfl, by rw [str_tl]; exact q⟩⟩
  · rename_i ds
    split at e
    · rename_i p ys e1 e2
      split at e
      · rename_i hc
        cases e
        rw [Bool.and_eq_true] at hc
        refine ⟨fun Q q => op_inD hu pins s σ H _ _ v u Q I rx ry ⟨p, ys, (ix.mono sb).dp e1, (iy.mono sb).dp e2, hc.1, hc.2, q⟩, fun Q q => op_notInD hu pins s σ H _ _ v u Q I rx ry ⟨p, ys, (ix.mono sb).dp e1, (iy.mono sb).dp e2, hc.1, hc.2, q⟩⟩
      · cases e
    · cases e
  · rename_i ds
    split at e
    · rename_i p ys e1 e2
      split at e
      · rename_i hc
        cases e
        rw [Bool.and_eq_true] at hc
        obtain ⟨as, r1⟩ := Dp.reads I p x v ((ix.mono sb).dp e1) rx
        obtain ⟨bs, r2⟩ := Dp.reads I _ y u ((iy.mono sb).dp e2) ry
        have cl : PyData.canLayAll0 ys = true := by
          have := SeqAt.canLay_of_shaped hc.2
          simpa [PyData.canLay0] using this
        exact ⟨fun Q q => SeqAt.in_tuple_reads r2 r1 cl (SeqAt.canLay_of_shaped hc.1) (PyProof.Rows.room_in_shaped hc.1 hu) ⟨.bl _, H, I, rfl, q⟩,
          fun Q q => SeqAt.notIn_tuple_reads r2 r1 cl (SeqAt.canLay_of_shaped hc.1) (PyProof.Rows.room_in_shaped hc.1 hu) ⟨.bl _, H, I, rfl, q⟩⟩
      · cases e
    · cases e
  · cases e
theorem od_in (hu : X.A.units + 65 < cLine) : OpR X (compareOp .In) (rD2 X.K X.mg inD) := by
  intro pins s σ H x y v u Q I rx ry h
  obtain ⟨Hf, dx, dy, d, sb, ix, iy, e, q⟩ := h
  unfold inD at e
  cases e1 : inP dx dy with
  | none => rw [e1] at e; cases e
  | some b => rw [e1] at e; cases e; exact (in_core hu I rx ry sb ix iy e1).1 Q (q _ Hf H (.refl sb) (is_bl _))
theorem od_notIn (hu : X.A.units + 65 < cLine) : OpR X (compareOp .NotIn) (rD2 X.K X.mg notInD) := by
  intro pins s σ H x y v u Q I rx ry h
  obtain ⟨Hf, dx, dy, d, sb, ix, iy, e, q⟩ := h
  unfold notInD at e
  cases e1 : inP dx dy with
  | none => rw [e1] at e; cases e
  | some b => rw [e1] at e; cases e; exact (in_core hu I rx ry sb ix iy e1).2 Q (q _ Hf H (.refl sb) (is_bl _))
end
/-! ### isinstance -/
def tyD : D → Option String
  | .non => some "NoneType"
  | .bl _ => some "bool"
  | .int _ => some "int"
  | .str _ => some "str"
  | .tup _ => some "tuple"
  | .lst _ => some "list"
  | .scr _ => some "list"
  | .xc _ _ _ _ => none
  | .dic _ _ => some "dict"
  | .ins _ _ _ => none
def isiD (T : String) (d : D) : Option D := match tyD d with
  | some a => (kitB a T).map .bl
  | none => none
theorem tyD_is {K : PySem.W.Frag} {mg : Str → Option Value} {Hf H : Hp} (sb : Sub Hf H) {d : D} {v : V} {T : String} (i : Is K mg Hf d v) (e : tyD d = some T) : TyX K H v (.type T) := by
  cases d with
  | non => cases i; cases e; exact .base .non
  | bl c => cases i; cases e; exact .base (.bl _)
  | int c => cases i; cases e; exact .base (.int _)
  | str c => obtain ⟨rfl, _⟩ := i; cases e; exact .base (.str _)
  | tup ds =>
    obtain ⟨_, a, vs, rfl, h, _⟩ := i
    cases e
    rcases sb.sqt h with (h | ⟨o, h⟩) | h
    · exact .base (.tup h)
    · exact .fTuple h
    · obtain ⟨o, its, n, h1, h2, h3⟩ := h
      exact .kTuple h1 h2
  | lst ds =>
    obtain ⟨_, a, vs, rfl, h, _⟩ := i
    cases e
    exact .base (.lst (sb _ _ h))
  | dic _ _ =>
    obtain ⟨a, vs, rfl, h, _⟩ := i
    cases e
    rcases sb.rd h with h | ⟨o, h⟩
    · exact .base (.dK h)
    · exact .fDict h
  | ins _ _ _ => cases e
  | xc _ _ _ _ => cases e
  | scr _ =>
    obtain ⟨_, a, rfl, h⟩ := i
    cases e
    rcases sb.sql h.sq with (h | ⟨o, h⟩) | h
    · exact .base (.lst h)
    · exact .base (.frz h)
    · obtain ⟨o, its, n, h1, h2, h3⟩ := h
      exact .kList h1 h2
section
variable {X : Cx} {fx : Fx} {m : Type → Type} [Mo m] {G : List Sl} {e : Expr} {p p2 pos : Pos} {x : m D}
theorem de_isi (T : String) {n : Str} (he : PE X e (tE X.K X.mg fx G x)) (hg : Gl X "isinstance") (hm : X.mg "isinstance" = none) (hg2 : Gl X n) (hm2 : X.mg n = none) (hv2 : bootBuiltins n = some (.type T))
    (hn : n ≠ "__name__" := by decide) (hdb : (n == ("__debug__" : Str)) = false := by decide) (hs : starEach [e, .Name n p2] X.env = (false, eval e X.env) :: starEach [.Name n p2] X.env := by rfl) (hs2 : starEach [.Name n p2] X.env = (false, eval (.Name n p2) X.env) :: starEach [] X.env := by rfl) (hpl : (backTo pos (starEach [.Name n p2] X.env)).any (·.1) = false := by rfl) :
    PE X (.Call (.Name "isinstance" p) [e, .Name n p2] [] pos) (tE X.K X.mg fx G (do let d ← x; ask (isiD T d))) :=
  peI (pe_callB call_isi hg hm rfl (pa_cons he (pa_cons (pe_bltn (v := .ty T) hg2 hm2 hv2 rfl hn hdb) pa_nil hs2) hs) (by decide) (by decide) hs hpl) fun σ H Q ⟨Hf, s, h⟩ =>
  (h.bind.mono fun v1 H1 ⟨d1, Hf1, s1, sb1, r1, h1⟩ => by
    obtain ⟨d, e, q⟩ := h1.ask
    unfold isiD at e
    cases e1 : tyD d1 with
    | none => rw [e1] at e; cases e
    | some a =>
      simp only [e1] at e
      cases e2 : kitB a T with
      | none => rw [e2] at e; cases e
      | some b =>
        rw [e2] at e
        cases e
        exact ⟨v1, .ty T, _, _, b, rfl, .ty T, tyD_is h1.1.top r1 e1, kit_ty e2, q _ Hf1 H1 (.refl h1.1.top) (is_bl _)⟩).to
end
/-! ### all, any -/
def bolsOf : List D → Option (List Bool)
  | [] => some []
  | .bl b :: r => (bolsOf r).map (b :: ·)
  | _ :: _ => none
def allD : List D → Option D
  | [.lst ds] => (bolsOf ds).map fun bs => .bl (bs.all id)
  | _ => none
theorem isL_bls {K : PySem.W.Frag} {mg : Str → Option Value} {H : Hp} : ∀ {ds : List D} {vs : List V} {ps : List Bool}, IsL K mg H ds vs → bolsOf ds = some ps → vs = ps.map V.bl
  | [], _, _, h, e => by cases h; cases e; rfl
  | .bl s :: ds, _, _, h, e => by
    obtain ⟨v, r, rfl, rfl, l⟩ := h
    unfold bolsOf at e
    cases q : bolsOf ds with
    | none => rw [q] at e; cases e
    | some ps => rw [q] at e; cases e; rw [isL_bls l q]; rfl
  | .non :: _, _, _, _, e => by cases e
  | .str _ :: _, _, _, _, e => by cases e
  | .int _ :: _, _, _, _, e => by cases e
  | .tup _ :: _, _, _, _, e => by cases e
  | .lst _ :: _, _, _, _, e => by cases e
  | .dic _ _ :: _, _, _, _, e => by cases e
  | .ins _ _ _ :: _, _, _, _, e => by cases e
  | .scr _ :: _, _, _, _, e => by cases e
  | .xc _ _ _ _ :: _, _, _, _, e => by cases e
section
variable {X : Cx}
theorem oc_all (hc : X.calm = true) : CallR X (.builtin "all") (rDs X.K X.mg allD) := by
  intro pins s σ H xs us Q I r h
  obtain ⟨Hf, ds, d, sb, l, e, q⟩ := h
  unfold allD at e
  split at e
  · obtain ⟨v, r1, rfl, ⟨z1, p1, v1, rfl, h1, l1⟩, rfl⟩ := l
    rename_i es
    cases e1 : bolsOf es with
    | none => rw [e1] at e; cases e
    | some bs =>
      rw [e1] at e; cases e
      have := isL_bls l1 e1
      subst this
      exact cr_all hc pins s σ H _ us Q I r ⟨_, bs, rfl, .inl (.inl (sb _ _ h1)), q _ Hf H (.refl sb) (is_bl _)⟩
  · cases e
end
/-! ### repr -/
def reprD : List D → Option D
  | [d] => match toPy d with
    | some p => if p.showable && !p.hasDict && decide (p.depth ≤ 60) && decide (p.shown.length ≤ sizeLine) then some (.str p.shown.cps.toList) else none
    | none => none
  | _ => none
section
variable {X : Cx}
theorem shown_is {K : PySem.W.Frag} {mg : Str → Option Value} {H : Hp} (z : Str) (h : z.length ≤ sizeLine) : Is K mg H (.str z.cps.toList) (.str z) := ⟨by rw [Array.toArray_toList], h⟩
theorem oc_repr (hg : X.A.guards = some []) (hu : X.A.units + 64 < cLine) : CallR X (.builtin "repr") (rDs X.K X.mg reprD) := by
  intro pins s σ H xs us Q I r h
  obtain ⟨Hf, ds, d, sb, l, e, q⟩ := h
  unfold reprD at e
  split at e
  · rename_i d1
    obtain ⟨v, r1, rfl, i1, rfl⟩ := l
    split at e
    · rename_i p e1
      split at e
      · rename_i hc
        cases e
        simp only [Bool.and_eq_true, Bool.not_eq_true', decide_eq_true_eq] at hc
        obtain ⟨⟨⟨h1, h2⟩, h3⟩, h4⟩ := hc
        have dp := (i1.mono sb).dp e1
        obtain ⟨u, rfl, ru⟩ := vals1 r
        have fin : ∀ (h' : Heap) (t : Tok) (tk : Nat), (∀ b o, s.heap.get? b = some o → h'.get? b = some o) → EP X pins σ Q (.str p.shown t) { s with heap := h', toks := tk } := fun h' t tk hk =>
          ⟨.str _, H, I.kept hk, ⟨t, rfl⟩, q _ Hf H (.refl sb) (shown_is _ h4)⟩
        have tok : ∀ (t : Tok) (tk : Nat), EP X pins σ Q (.str p.shown t) { s with toks := tk } := fun t tk => fin s.heap t tk fun _ _ e => e
        cases p with
        | none => cases dp; cases ru; exact PySem.P.repr_of_none (tok _ _)
        | bool b => cases dp; cases ru; exact PySem.P.repr_of_bool (tok _ _)
        | int i => cases dp; obtain ⟨t, rfl⟩ := ru; exact PySem.P.repr_of_int (by simpa [PyData.showable] using h1) (tok _ _)
        | str z => cases dp; obtain ⟨t, rfl⟩ := ru; exact PySem.P.repr_of_str (tok _ _) h4
        | list ps =>
          obtain ⟨as, rr⟩ := Dp.reads I _ v u dp ru
          cases dp
          cases ru
          exact PySem.repr_of_reads' rr h1 (fun z => by rw [h2] at z; cases z) hg (by omega) (fun _ _ e => e) (fun h' t tk hk => fin h' t tk hk) h4
        | tuple ps =>
          obtain ⟨as, rr⟩ := Dp.reads I _ v u dp ru
          cases dp
          cases ru
          exact PySem.repr_of_reads' rr h1 (fun z => by rw [h2] at z; cases z) hg (by omega) (fun _ _ e => e) (fun h' t tk hk => fin h' t tk hk) h4
        | dict kv => simp [PyData.hasDict] at h2
      · cases e
    · cases e
  · cases e
end
end DL
namespace DL
open PySem L2
/-! ### lists of the frame's own, changed -/
def popI (ds : List D) (k : D) : Option (D × List D) := match k with
  | .int i => match ixN ds.length i with
    | some j => (ds[j]?).map fun d => (d, ds.eraseIdx j)
    | none => none
  | _ => none
theorem ixN_lt {n : Nat} {i : Int} {j : Nat} (h : ixN n i = some j) : j < n := (ixN_seq h).2.1
/-- an expression that changes the own list of slot i -/
def tP (K : PySem.W.Frag) (mg : Str → Option Value) (fx : Fx) (G : List Sl) (i : Nat) {m : Type → Type} [Mo m] (x : m (D × List D)) : TE := fun σ H Q => ∃ Hf s, StS K mg fx Hf H σ G s ∧
  Mo.wp x s (fun r s' => ∀ v Hf' H', Sub Hf Hf' → StS K mg fx Hf' H' σ (G.set i (.ow r.2)) s' → Is K mg Hf' r.1 v → Q v H') (EX K mg fx G σ)
section
variable {X : Cx} {fx : Fx} {m : Type → Type} [Mo m] {G : List Sl} {α β : Type} {kk : Nat} {e o c : Expr} {rest : List Stmt} {ex : α → List Sl} {exb : β → List Sl} {x y : m D} {ds : List D} {n : Str} {np apos cpos pos : Pos}
/-- x.pop(c) -/
theorem dp_pop (i : Nat) (hc : PE X c (tE X.K X.mg fx G y))
    (hG : G[i]? = some (.ow ds) := by rfl) (hN : X.N[i]? = some n := by rfl) (hv : Vis X.env.scope n := by first | exact Or.inl rfl | exact Or.inr (Or.inl rfl) | exact Or.inr (Or.inr rfl)) (hd : (n == ("__debug__" : Str)) = false := by decide) (hcd : (n == ("__classdict__" : Str)) = false := by decide)
    (hst : starEach [c] X.env = [(false, eval c X.env)] := by rfl) (hbase : attributeBase (.Name n np) "pop" X.env (eval (.Name n np) X.env) = eval (.Name n np) X.env := by rfl)
    (hfew : ((backTo cpos (starEach [c] X.env)).all (fun x => !x.1) && (backToKw cpos (keywordEach [] X.env)).all (fun x => x.1.isSome) && decide ([c].length + ([] : List Keyword).length + (if ([] : List Keyword).isEmpty then 0 else 1) < 30)) = true := by rfl)
    (hline : (apos.endLine == cpos.line) = true := by rfl) (hplain : (backTo cpos (starEach [] X.env)).any (·.1) = false := by rfl) :
    PE X (.Call (.Attribute (.Name n np) "pop" apos) [c] [] cpos) (tP X.K X.mg fx G i (do let j ← y; ask (popI ds j))) :=
  peI (pe_bm PySem.F.plainAttrs_list PySem.F.slot_list_pop PySem.F.type_list_pop mt_popAt (pe_var hN hv hd hcd) (pa_cons hc pa_nil hst) hbase hfew hline hst hplain) fun σ H Q ⟨Hf, s, st, w⟩ => by
    obtain ⟨p, vs, ep, hp, hf, h0, nb, l, hz⟩ := st.sl i _ hG
    refine ⟨.ref p, ep, .inl ⟨rfl, _, .inl (.inl hp)⟩, ?_⟩
    refine ⟨Hf, s, st, Mo.wp_mono (Mo.wp_bind w) (fun j s1 k v Hf1 H1 e1 bg1 r1 => ?_) fun e s' k => k⟩
    have st1 := st.step e1 bg1
    obtain ⟨p1, vs1, ep1, hp1, hf1, _, _, l1, hz1⟩ := st1.sl i _ hG
    have eq : p1 = p := by rw [ep] at ep1; cases ep1; rfl
    subst eq
    have k' := Mo.wp_lift k
    unfold popI at k'
    cases j with
    | int t =>
      cases r1
      cases q : ixN ds.length t with
      | none => exact absurd k' (by simp [q])
      | some z =>
        have hlt := ixN_lt q
        obtain ⟨hsq, _, hb1, hb2⟩ := ixN_seq q
        have ed : ds[z]? = some ds[z] := List.getElem?_eq_getElem hlt
        simp only [q, ed, Option.map_some] at k'
        obtain ⟨w', hw', iw⟩ := l1.get ed
        have hs2 : (sizeLine : Nat) = 16777216 := sizeLine_eq
        have hle := List.length_eraseIdx_le ds z
        refine ⟨p1, vs1, t, z, w', rfl, rfl, hp1, by omega, by omega, by rw [← l1.len]; exact hsq, hw', k' w' Hf1 _ e1.sub (st1.updOw hG ep (l1.eraseIdx z) (by omega)) iw⟩
    | _ => exact k'.elim
/-- z.append(x.pop(..)), z and x the frame's own -/
theorem dss_appendP {x : m (D × List D)} {es : List D} {k : D × List D → List D → m (Fl α β)} (i j : Nat) (hij : i ≠ j := by decide) (he : PE X e (tP X.K X.mg fx G i x)) (hr : ∀ (r : D × List D) es, PSs X rest (tS X.K X.mg fx ((G.set i (.ow r.2)).set j (.ow es)) ex exb (k r es)))
    (hG : G[j]? = some (.ow es) := by rfl) (hN : X.N[j]? = some n := by rfl) (hv : Vis X.env.scope n := by first | exact Or.inl rfl | exact Or.inr (Or.inl rfl) | exact Or.inr (Or.inr rfl)) (hd : (n == ("__debug__" : Str)) = false := by decide) (hcd : (n == ("__classdict__" : Str)) = false := by decide)
    (hst : starEach [e] X.env = [(false, eval e X.env)] := by rfl) (hbase : attributeBase (.Name n np) "append" X.env (eval (.Name n np) X.env) = eval (.Name n np) X.env := by rfl)
    (hfew : ((backTo cpos (starEach [e] X.env)).all (fun x => !x.1) && (backToKw cpos (keywordEach [] X.env)).all (fun x => x.1.isSome) && decide ([e].length + ([] : List Keyword).length + (if ([] : List Keyword).isEmpty then 0 else 1) < 30)) = true := by rfl)
    (hline : (apos.endLine == cpos.line) = true := by rfl) (hplain : (backTo cpos (starEach [] X.env)).any (·.1) = false := by rfl)
    (hs : swapsWith (.Call (.Attribute (.Name n np) "append" apos) [e] [] cpos) none pos.line X.env = pure false := by rfl) (hg : GxOk fx G := by first | exact True.intro | repeat' (first | exact True.intro | exact Or.inl rfl | exact Or.inr rfl | refine And.intro ?_ ?_)) :
    PSs X (.Expr (.Call (.Attribute (.Name n np) "append" apos) [e] [] cpos) pos :: rest) (tS X.K X.mg fx G ex exb (do let r ← x; let es ← ask (apd es r.1); k r es)) :=
  pssI (pss_cons (ps_expr (pe_bm PySem.F.plainAttrs_list PySem.F.slot_list_append PySem.F.type_list_append mt_append (pe_var hN hv hd hcd) (pa_cons he pa_nil hst) hbase hfew hline hst hplain) hs) (pss_ex (ι := (D × List D) × List D) fun r => hr r.1 r.2)) fun De σ H ⟨Hf, s, h⟩ => by
    obtain ⟨p, vs, ep, hp, hf, h0, nb, l, hz⟩ := h.1.sl j _ hG
    refine ⟨.ref p, ep, .inl ⟨rfl, _, .inl (.inl hp)⟩, ?_⟩
    refine ⟨Hf, s, h.1, Mo.wp_mono (Mo.wp_bind h.2) (fun r s1 w v Hf1 H1 sb st1 is1 => ?_) fun e s' k => exs_ex hg k⟩
    have hG1 : (G.set i (.ow r.2))[j]? = some (.ow es) := by rw [List.getElem?_set_ne hij]; exact hG
    obtain ⟨p1, vs1, ep1, hp1, hf1, _, _, l1, hz1⟩ := st1.sl j _ hG1
    have eq : p1 = p := by rw [ep] at ep1; cases ep1; rfl
    subst eq
    have k' := Mo.wp_lift (Mo.wp_bind w)
    by_cases c : es.length < sizeLine
    · have e1 : apd es r.1 = some (es ++ [r.1]) := if_pos c
      rw [e1] at k'
      refine ⟨p1, vs1, v, rfl, rfl, hp1, by rw [← l1.len]; exact c, (r, es ++ [r.1]), Hf1, s1, st1.updOw hG1 ep (l1.app (.cons is1 .nil)) (by rw [List.length_append, List.length_singleton]; exact c), Mo.wp_mono k' (fun f s2 h2 => h2.up sb) fun e s' k => k⟩
    · have e1 : apd es r.1 = none := if_neg c
      rw [e1] at k'
      exact k'.elim
end
/-! ### the answer is a new list -/
section
variable {X : Cx} {fx : Fx} {m : Type → Type} [Mo m] {G : List Sl} {α β : Type} {kk : Nat} {e : Expr} {rest : List Stmt} {ex : α → List Sl} {exb : β → List Sl} {pos : Pos}
/-- return a new list -/
theorem dss_retF {x : m (List D)} (he : PE X e (tF X.K X.mg fx G x)) (hnr : fx.nr = true := by rfl) (hg : GxOk fx G := by first | exact True.intro | repeat' (first | exact True.intro | exact Or.inl rfl | exact Or.inr rfl | refine And.intro ?_ ?_)) : PSs X (.Return (some e) pos :: rest) (tS X.K X.mg fx G ex exb (do let ds ← x; pure (.rt (.lst ds)))) := pssI (pss_cons (ps_ret he) pss_never) fun De σ H ⟨Hf, s, h⟩ =>
  ⟨Hf, s, h.1, Mo.wp_mono (Mo.wp_bind h.2) (fun ds s1 w p vs Hf1 H1 e bg hp hf1 hn l hz => (Mo.wp_pure w) (.ref p) Hf1 H1 (h.1.ste.trans e.wider) bg (by rw [hnr]; exact ⟨p, vs, ds, rfl, rfl, hp, hf1, (h.1.new0 hn).1, l, hz⟩)) fun e s' k => exs_ex hg k⟩
end
end DL
namespace DL
open PySem L2
/-! ### the bag -/
def bagX : M D := fun s => if s.w = false then .ok (.int s.x) s else .stuck
def bagY : M D := fun s => if s.w = false then .ok (.int s.y) s else .stuck
def bagSetX (i : Int) : M Unit := fun s => if s.w = false then .ok () { s with x := i } else .stuck
def bagSetY (i : Int) : M Unit := fun s => if s.w = false then .ok () { s with y := i } else .stuck
theorem bag_one {bag : List Addr} {H : Hp} {s : S} {b : Addr} {r : List Addr} (h : BagAt bag H s) (hw : s.w = false) (e : bag = b :: r) : bag = [b] ∧ H b = some (.lst [.int s.x, .int s.y]) := by
  subst e
  cases r with
  | nil => exact ⟨rfl, h.2⟩
  | cons c r => exact absurd h.1 (by rw [hw]; simp)
section
variable {X : Cx} {fx : Fx} {G : List Sl} {α β : Type} {kk : Nat} {e : Expr} {rest : List Stmt} {ex : α → List Sl} {exb : β → List Sl} {pos p2 np apos : Pos} {n : Str} {j : Nat}
theorem de_bagX (i : Nat) (hG : G[i]? = some .bg := by rfl) (hN : X.N[i]? = some n := by rfl) (hv : Vis X.env.scope n := by first | exact Or.inl rfl | exact Or.inr (Or.inl rfl) | exact Or.inr (Or.inr rfl)) (hd : (n == ("__debug__" : Str)) = false := by decide) (hcd : (n == ("__classdict__" : Str)) = false := by decide)
    (hs : PlainIx (.Constant (.int 0) j p2) := by exact fun _ _ => rfl) : PE X (.Subscript (.Name n np) (.Constant (.int 0) j p2) pos) (tE X.K X.mg fx G bagX) :=
  peI (pe_ix ix_list (pe_var hN hv hd hcd) pe_int hs) fun σ H Q ⟨Hf, s, h⟩ => by
    obtain ⟨b, r, eb, ev⟩ := h.1.sl i _ hG
    have w : (bagX s).wp _ _ := h.2
    unfold bagX at w
    by_cases hw : s.w = false
    · rw [if_pos hw] at w
      obtain ⟨e1, hb⟩ := bag_one h.1.bag hw eb
      exact ⟨.ref b, ev, b, _, 0, .int s.x, rfl, rfl, .inl (.inl hb), rfl, w _ Hf H (.refl h.1.top) h.1.bag (is_int _)⟩
    · rw [if_neg hw] at w
      exact w.elim
theorem de_bagY (i : Nat) (hG : G[i]? = some .bg := by rfl) (hN : X.N[i]? = some n := by rfl) (hv : Vis X.env.scope n := by first | exact Or.inl rfl | exact Or.inr (Or.inl rfl) | exact Or.inr (Or.inr rfl)) (hd : (n == ("__debug__" : Str)) = false := by decide) (hcd : (n == ("__classdict__" : Str)) = false := by decide)
    (hs : PlainIx (.Constant (.int 1) j p2) := by exact fun _ _ => rfl) : PE X (.Subscript (.Name n np) (.Constant (.int 1) j p2) pos) (tE X.K X.mg fx G bagY) :=
  peI (pe_ix ix_list (pe_var hN hv hd hcd) pe_int hs) fun σ H Q ⟨Hf, s, h⟩ => by
    obtain ⟨b, r, eb, ev⟩ := h.1.sl i _ hG
    have w : (bagY s).wp _ _ := h.2
    unfold bagY at w
    by_cases hw : s.w = false
    · rw [if_pos hw] at w
      obtain ⟨e1, hb⟩ := bag_one h.1.bag hw eb
      exact ⟨.ref b, ev, b, _, 1, .int s.y, rfl, rfl, .inl (.inl hb), rfl, w _ Hf H (.refl h.1.top) h.1.bag (is_int _)⟩
    · rw [if_neg hw] at w
      exact w.elim
/-- the bag's object is changed -/
theorem StS.bagUpd {K : PySem.W.Frag} {mg : Str → Option Value} {Hf H : Hp} {σ : L2.St} {s s' : S} {b : Addr} {o : HO} (st : StS K mg fx Hf H σ G s) (hb : b ∈ fx.bag) (bg : BagAt fx.bag (upd H b o) s') : StS K mg fx Hf (upd H b o) σ G s' := by
  have hf := (st.bagf b hb).1
  refine ⟨⟨st.ste.sub, fun a u q => ?_, fun a u q n => ?_, fun a n => ?_, st.ste.fresh⟩, bg, fun c hc => ⟨(st.bagg c hc).1, ?_, (st.bagg c hc).2.2⟩, st.len, fun i x ex => ?_, st.dis⟩
  · have ne : a ≠ b := fun z => by rw [z, hf] at q; cases q
    rw [upd_ne ne]; exact st.top a u q
  · have ne : a ≠ b := fun z => n (List.mem_append_right _ (z ▸ hb))
    rw [upd_ne ne]; exact st.ste.keep a u q n
  · by_cases c : a = b
    · rw [c, upd_same]; simp
    · rw [upd_ne c]; exact st.ste.dom a n
  · by_cases q : c = b
    · rw [q, upd_same]; simp
    · rw [upd_ne q]; exact (st.bagg c hc).2.1
  · exact (st.sl i x ex).upd fun q ox e z => by
      obtain ⟨q2, e2, _, _, nb, _⟩ := (st.sl i x ex).ref ox
      rw [e] at e2
      cases e2
      exact nb (z ▸ hb)
theorem dss_bagSetX {x : M D} {k : M (Fl α β)} (i : Nat) (he : PE X e (tE X.K X.mg fx G x)) (hr : PSs X rest (tS X.K X.mg fx G ex exb k)) (hG : G[i]? = some .bg := by rfl) (hN : X.N[i]? = some n := by rfl) (hv : Vis X.env.scope n := by first | exact Or.inl rfl | exact Or.inr (Or.inl rfl) | exact Or.inr (Or.inr rfl)) (hd : (n == ("__debug__" : Str)) = false := by decide) (hcd : (n == ("__classdict__" : Str)) = false := by decide)
    (ha : ∀ v, assign (.Subscript (.Name n np) (.Constant (.int 0) j p2) apos) X.env v = (do
      let ov ← holding [v] (eval (.Name n np) X.env)
      let iv ← holding [v, ov] (eval (.Constant (.int 0) j p2) X.env)
      standAt apos
      holding [v, ov, iv] (setItem ov iv v)
      release [v, ov, iv] []) := by intro _; rfl)
    (hs : swapsWithSole [.Subscript (.Name n np) (.Constant (.int 0) j p2) apos] e pos.line X.env = pure false := by rfl) (hw : swappedStores [.Subscript (.Name n np) (.Constant (.int 0) j p2) apos] e X.env = pure none := by rfl)
    (h1 : (assignEach [.Subscript (.Name n np) (.Constant (.int 0) j p2) apos] X.env).map (·.2) = [assign (.Subscript (.Name n np) (.Constant (.int 0) j p2) apos) X.env] := by rfl) (hg : GxOk fx G := by first | exact True.intro | repeat' (first | exact True.intro | exact Or.inl rfl | exact Or.inr rfl | refine And.intro ?_ ?_)) :
    PSs X (.Assign [.Subscript (.Name n np) (.Constant (.int 0) j p2) apos] e pos :: rest) (tS X.K X.mg fx G ex exb (do let d ← x; let i ← ask (intOf d); bagSetX i; k)) :=
  pssI (pss_cons (ps_asg he (pg_sub (pe_var hN hv hd hcd) pe_int set_list ha) hs hw h1) hr) fun De σ H ⟨Hf, s, h⟩ =>
    ((h.bind hg).mono fun v H1 ⟨d, Hf1, s1, sb, r, h1⟩ => by
      obtain ⟨b, rr, eb, ev⟩ := h1.1.sl i _ hG
      have w := Mo.wp_lift (Mo.wp_bind h1.2)
      cases d with
      | int t =>
        cases r
        have w2 : (bagSetX t s1).wp _ _ := Mo.wp_bind w
        unfold bagSetX at w2
        by_cases hw : s1.w = false
        · rw [if_pos hw] at w2
          obtain ⟨e1, hb⟩ := bag_one h1.1.bag hw eb
          refine ⟨.ref b, ev, b, _, 0, 0, rfl, rfl, hb, rfl, Hf1, _, h1.1.bagUpd (s' := { s1 with x := t }) (by rw [e1]; simp) ?_, w2⟩
          rw [e1]
          exact ⟨hw, upd_same⟩
        · rw [if_neg hw] at w2
          exact w2.elim
      | _ => exact w.elim).to
theorem dss_bagSetY {x : M D} {k : M (Fl α β)} (i : Nat) (he : PE X e (tE X.K X.mg fx G x)) (hr : PSs X rest (tS X.K X.mg fx G ex exb k)) (hG : G[i]? = some .bg := by rfl) (hN : X.N[i]? = some n := by rfl) (hv : Vis X.env.scope n := by first | exact Or.inl rfl | exact Or.inr (Or.inl rfl) | exact Or.inr (Or.inr rfl)) (hd : (n == ("__debug__" : Str)) = false := by decide) (hcd : (n == ("__classdict__" : Str)) = false := by decide)
    (ha : ∀ v, assign (.Subscript (.Name n np) (.Constant (.int 1) j p2) apos) X.env v = (do
      let ov ← holding [v] (eval (.Name n np) X.env)
      let iv ← holding [v, ov] (eval (.Constant (.int 1) j p2) X.env)
      standAt apos
      holding [v, ov, iv] (setItem ov iv v)
      release [v, ov, iv] []) := by intro _; rfl)
    (hs : swapsWithSole [.Subscript (.Name n np) (.Constant (.int 1) j p2) apos] e pos.line X.env = pure false := by rfl) (hw : swappedStores [.Subscript (.Name n np) (.Constant (.int 1) j p2) apos] e X.env = pure none := by rfl)
    (h1 : (assignEach [.Subscript (.Name n np) (.Constant (.int 1) j p2) apos] X.env).map (·.2) = [assign (.Subscript (.Name n np) (.Constant (.int 1) j p2) apos) X.env] := by rfl) (hg : GxOk fx G := by first | exact True.intro | repeat' (first | exact True.intro | exact Or.inl rfl | exact Or.inr rfl | refine And.intro ?_ ?_)) :
    PSs X (.Assign [.Subscript (.Name n np) (.Constant (.int 1) j p2) apos] e pos :: rest) (tS X.K X.mg fx G ex exb (do let d ← x; let i ← ask (intOf d); bagSetY i; k)) :=
  pssI (pss_cons (ps_asg he (pg_sub (pe_var hN hv hd hcd) pe_int set_list ha) hs hw h1) hr) fun De σ H ⟨Hf, s, h⟩ =>
    ((h.bind hg).mono fun v H1 ⟨d, Hf1, s1, sb, r, h1⟩ => by
      obtain ⟨b, rr, eb, ev⟩ := h1.1.sl i _ hG
      have w := Mo.wp_lift (Mo.wp_bind h1.2)
      cases d with
      | int t =>
        cases r
        have w2 : (bagSetY t s1).wp _ _ := Mo.wp_bind w
        unfold bagSetY at w2
        by_cases hw : s1.w = false
        · rw [if_pos hw] at w2
          obtain ⟨e1, hb⟩ := bag_one h1.1.bag hw eb
          refine ⟨.ref b, ev, b, _, 1, 1, rfl, rfl, hb, rfl, Hf1, _, h1.1.bagUpd (s' := { s1 with y := t }) (by rw [e1]; simp) ?_, w2⟩
          rw [e1]
          exact ⟨hw, upd_same⟩
        · rw [if_neg hw] at w2
          exact w2.elim
      | _ => exact w.elim).to
end
/-! ### a def whose answer is a new list -/
def lstOf : D → Option (List D)
  | .lst ds => some ds
  | _ => none
section
variable {X : Cx} {fx : Fx} {m : Type → Type} [Mo m] {G : List Sl} {es : List Expr} {pos : Pos} {ys : m (List D)} {kk j n : Nat} {g : List D → R D} {f : Addr} {fd : FuncData} {ps : List Str} {nm : Str} {p : Pos} {e : Expr}
theorem df_fn (C : Cok X fx kk) (F : FnG X.prog X.w X.K X.mg X.base j f fd ps (spR X.K X.mg true n g)) (hm : X.mg nm = some (.ref f)) (hk : PySem.W.keepIn X.K (.ref f) = true) (hb : Binds X.K fd ps []) (ha : PA X (e :: es) (tA X.K X.mg fx G ys)) (hn : ∀ ds : List D, g ds ≠ .stuck → ds.length = n)
    (hj : j ≤ kk := by decide) (hg : Gl X nm := by rfl) (hdb : (nm == ("__debug__" : Str)) = false := by decide) (he : starEach (e :: es) X.env = (false, eval e X.env) :: starEach es X.env := by rfl) (hpl : (backTo pos (starEach es X.env)).any (·.1) = false := by rfl) :
    PE X (.Call (.Name nm p) (e :: es) [] pos) (tF X.K X.mg fx G (do let ds ← ys; let d ← Mo.lift (g ds); ask (lstOf d))) := peI (pe_callG (E := WE fx.W) F C.gd (C.rm.mono hj) hg hm hk hb .nil (fun σ => passAt C.tk σ) ha hdb he hpl) fun σ H Q ⟨Hf, s, st, w⟩ =>
  ⟨Hf, s, st, Mo.wp_mono (Mo.wp_bind w) (fun ds s1 k vs Hf1 H1 e1 bg1 l1 => by
    show spR X.K X.mg true n g (vs ++ []) H1 Q (WE fx.W σ)
    rw [List.append_nil]
    have st1 := st.step e1 bg1
    have w2 := Mo.wp_lift (Mo.wp_bind k)
    have hnv : vs.length = n := by
      rw [← l1.len]
      refine hn ds fun z => ?_
      rw [z] at w2
      exact w2
    refine ⟨hnv, Hf1, ds, st1.top, l1, ?_⟩
    cases z : g ds with
    | ok d =>
      rw [z] at w2
      rintro v Hf' H' e2 ⟨p, vs2, ds2, rfl, rfl, hp, hf, h0, l2, hz⟩
      have w3 := Mo.wp_lift w2
      have hn0 : H p = none := by
        cases q : H p with
        | none => rfl
        | some o => exact absurd h0 (e1.dom p (by rw [q]; simp))
      exact w3 p vs2 Hf' H' (e1.trans e2.wide) (e2.bag bg1) hp hf hn0 l2 hz
    | ex e => rw [z] at w2; exact fun cls dd Hf' H' e2 x => w2 cls dd Hf' H' (st1.step e2.wide (e2.bag bg1)) x
    | stuck => rw [z] at w2; exact w2) fun e s' k => k⟩
end
/-! ### a bag is made -/
def withBag {α β : Type} (d : D) (body : M (Fl α β)) : R (Fl α β) := match d with
  | .lst [.int x, .int y] => match body ⟨x, y, 0, [], false⟩ with
    | .ok f _ => .ok f
    | .ex e _ => .ex e
    | .stuck => .stuck
  | _ => .stuck
abbrev Fx.bagged (fx : Fx) (b : Addr) : Fx := { fx with bag := [b] }
section
variable {K : PySem.W.Frag} {mg : Str → Option Value} {fx : Fx}
theorem Ste.unbag {b : Addr} {Hf H Hf' H' : Hp} (e : Ste [b] Hf H Hf' H') (hb : H b = none) : Ste [] Hf H Hf' H' :=
  ⟨e.sub, e.top, fun a o q _ => e.keep a o q (fun m => by
    have : a = b := by simpa using m
    subst this
    rw [hb] at q; cases q), e.dom, e.fresh⟩
def noBg : Sl → Bool
  | .bg => false
  | _ => true
theorem StS.unbag {b : Addr} {Hf H : Hp} {σ : L2.St} {G : List Sl} {s s0 : S} (hfx : fx.bag = []) (hme : fx.me = []) (hb : fx.H0 b = none) (st : StS K mg (fx.bagged b) Hf H σ G s) (hG : G.all noBg = true) : StS K mg fx Hf H σ G s0 := by
  have st0 : Ste [b] fx.Hf0 fx.H0 Hf H := by
    have z := st.ste
    have e : (fx.bagged b).me = [] := hme
    rw [e] at z
    exact z
  refine ⟨by rw [hfx, hme]; exact Ste.unbag st0 hb, by rw [hfx]; trivial, by rw [hfx, hme]; intro b hb; (cases hb), st.len, fun i x e => ?_, st.dis⟩
  have so := st.sl i x e
  cases x with
  | un => trivial
  | im d => exact so
  | bg =>
    have := List.all_eq_true.mp hG _ (List.mem_of_getElem? e)
    cases this
  | ow ds =>
    obtain ⟨p, vs, e1, h, hf, h0, nb, l, hz⟩ := so
    exact ⟨p, vs, e1, h, hf, h0, by rw [hfx]; simp, l, hz⟩
  | od ks ds =>
    obtain ⟨p, vs, e1, h, hf, h0, nb, l, l', hz⟩ := so
    exact ⟨p, vs, e1, h, hf, h0, by rw [hfx]; simp, l, l', hz⟩
  | ob ks ds =>
    obtain ⟨p, C, dx, vs, e1, h, hf, h0, nb, l⟩ := so
    exact ⟨p, C, dx, vs, e1, h, hf, h0, by rw [hfx]; simp, l⟩
end
section
variable {X : Cx} {fx : Fx} {G : List Sl} {α β : Type} {kk : Nat} {e : Expr} {rest : List Stmt} {ex : α → List Sl} {exb : β → List Sl} {pos : Pos} {n : Str} {pos' : Pos}
theorem Cok.bagged (C : Cok X fx kk) (b : Addr) : Cok X (fx.bagged b) kk := ⟨C.calm, C.hp, C.tk, C.rm, C.nd, C.gd⟩
theorem StS.setBg {i : Nat} {b : Addr} {Hf H : Hp} {σ : L2.St} {x y : Int} {s : S} (hfx : fx.bag = []) (hme : fx.me = []) (st : StS X.K X.mg fx Hf H σ G s) (no : ∀ (j : Nat) (q : Addr), σ[j]? = some (some (.ref q)) → (∀ x, G[j]? = some x → isOw x = true → q ≠ b)) (hb : H b = some (.lst [.int x, .int y])) (hf : Hf b = none) (h0 : fx.H0 b = none) (hG : G.all noBg = true) :
    StS X.K X.mg (fx.bagged b) Hf H (σ.set i (some (.ref b))) (G.set i .bg) ⟨x, y, 0, [], false⟩ := by
  refine ⟨⟨st.ste.sub, st.ste.top, fun a o q _ => st.ste.keep a o q (by rw [hfx, hme]; simp), st.ste.dom, st.ste.fresh⟩, ⟨rfl, hb⟩, fun c hc => ?_, by simpa using st.len, fun j z e => ?_, fun j k z w p hjk ex ey ox oy e1 e2 => ?_⟩
  · have hm : (fx.bagged b).me = [] := hme
    rw [hm] at hc ⊢
    have : c = b := by simpa using hc
    subst this
    exact ⟨hf, by rw [hb]; simp, fun z => nomatch z⟩
  · by_cases q : i = j
    · subst q
      have hi : i < G.length := by
        have := (List.getElem?_eq_some_iff.mp e).1
        simpa using this
      rw [List.getElem?_set_self hi] at e
      cases e
      exact ⟨b, [], rfl, List.getElem?_set_self (by rw [st.len]; exact hi)⟩
    · rw [List.getElem?_set_ne q] at e
      rw [List.getElem?_set_ne q]
      have so := st.sl j z e
      cases z with
      | un => trivial
      | im d => exact so
      | bg =>
        have := List.all_eq_true.mp hG _ (List.mem_of_getElem? e)
        cases this
      | ow ds =>
        obtain ⟨p, vs, e1, h, hf', h0', nb, l, hz⟩ := so
        refine ⟨p, vs, e1, h, hf', h0', fun m => ?_, l, hz⟩
        have : p = b := by simpa using m
        exact no j p e1 _ e rfl this
      | od ks ds =>
        obtain ⟨p, vs, e1, h, hf', h0', nb, l, l', hz⟩ := so
        refine ⟨p, vs, e1, h, hf', h0', fun m => ?_, l, l', hz⟩
        have : p = b := by simpa using m
        exact no j p e1 _ e rfl this
      | ob ks ds =>
        obtain ⟨p, C, dx, vs, e1, h, hf', h0', nb, l⟩ := so
        refine ⟨p, C, dx, vs, e1, h, hf', h0', fun m => ?_, l⟩
        have : p = b := by simpa using m
        exact no j p e1 _ e rfl this
  · have nj : i ≠ j := by
      rintro rfl
      have hi : i < G.length := by
        have := (List.getElem?_eq_some_iff.mp ex).1
        simpa using this
      rw [List.getElem?_set_self hi] at ex
      cases ex; cases ox
    have nk : i ≠ k := by
      rintro rfl
      have hi : i < G.length := by
        have := (List.getElem?_eq_some_iff.mp ey).1
        simpa using this
      rw [List.getElem?_set_self hi] at ey
      cases ey; cases oy
    rw [List.getElem?_set_ne nj] at ex e1
    rw [List.getElem?_set_ne nk] at ey e2
    exact st.dis j k z w p hjk ex ey ox oy e1 e2
/-- bag = a new bag; what follows draws from it -/
theorem dss_bag {x : R (List D)} {k : M (Fl α β)} (C : Cok X fx kk) (i : Nat) (he : PE X e (tF X.K X.mg fx G x)) (hr : ∀ b, Cok X (fx.bagged b) kk → PSs X rest (tS X.K X.mg (fx.bagged b) (G.set i .bg) ex exb k)) (hex : ∀ a, (ex a).all noBg = true) (hexb : ∀ a, (exb a).all noBg = true) (hfx : fx.bag = [] := by rfl) (hme : fx.me = [] := by rfl) (hgx : fx.gx = none := by rfl) (hnr : fx.nr = false := by rfl) (hG : G.all noBg = true := by rfl)
    (hi : X.N[i]? = some n := by rfl) (hx : Loc X.env.scope n := by first | exact Or.inl rfl | exact Or.inr rfl)
    (hs : swapsWith e (some (.Name n pos')) pos.line X.env = pure false := by rfl) (hf : X.fn n = true ∨ X.env.scope.names.lookup n = some .local := by first | exact .inl rfl | exact .inr rfl) :
    PSs X (.Assign [.Name n pos'] e pos :: rest) (tS X.K X.mg fx G ex exb (do let ds ← x; withBag (.lst ds) k)) := pssI (pss_cons (ps_set C.nd hi hx he hs hf) (pss_ex fun b => hr b (C.bagged b))) fun D σ H ⟨Hf, s, h⟩ =>
  ⟨Hf, s, h.1, Mo.wp_mono (Mo.wp_bind h.2) (fun ds s1 w p vs Hf1 H1 e bg hp hf1 hn l hz => by
    have st1 := h.1.step e bg
    have n0 := h.1.new0 hn
    have w1 : R.wp (withBag (.lst ds) k) s1 _ _ := w
    unfold withBag at w1
    split at w1
    · rename_i x y hd
      cases hd
      obtain ⟨v1, r1, rfl, rfl, v2, r2, rfl, rfl, rfl⟩ := l
      refine ⟨p, Hf1, ⟨x, y, 0, [], false⟩, StS.setBg hfx hme st1 (h.1.owNe hn) hp hf1 n0.1 hG, ?_⟩
      show (k _).wp _ _
      cases q : k ⟨x, y, 0, [], false⟩ with
      | ok f s2 =>
        rw [q] at w1
        have w2 : FP X.K X.mg fx Hf ex exb D f s1 := w1
        show FP X.K X.mg (fx.bagged p) Hf1 ex exb D f s2
        cases f with
        | nx a => exact fun Hf' H' σ' sb st => w2 Hf' H' σ' (e.sub.trans sb) (StS.unbag hfx hme n0.1 st (hex a))
        | rt d => exact fun v Hf' H' st bg' r => w2 v Hf' H' (by rw [hfx, hme]; exact Ste.unbag (by have e : (fx.bagged p).me = [] := hme; rw [e] at st; exact st) n0.1) (by rw [hfx]; trivial) r
        | bk b => exact fun Hf' H' σ' sb st => w2 Hf' H' σ' (e.sub.trans sb) (StS.unbag hfx hme n0.1 st (hexb b))
        | ct b => exact fun Hf' H' σ' sb st => w2 Hf' H' σ' (e.sub.trans sb) (StS.unbag hfx hme n0.1 st (hexb b))
      | ex e2 s2 =>
        rw [q] at w1
        have w2 : EXS X.K X.mg fx e2 s1 := w1
        show EXS X.K X.mg (fx.bagged p) e2 s2
        intro cls dd σ' Hf' H' xs xi
        refine w2 cls dd σ' Hf' H' ?_ xi
        unfold XSt at xs ⊢
        have hgx' : (fx.bagged p).gx = none := hgx
        rw [hgx'] at xs
        rw [hgx]
        exact ⟨by rw [hfx, hme]; exact Ste.unbag (by have z := xs.1; have e : (fx.bagged p).me = [] := hme; rw [e] at z; exact z) n0.1, by rw [hfx]; trivial⟩
      | stuck => rw [q] at w1; exact w1.elim
    · exact w1.elim) fun e s' k => by
      have k' := k
      exact exs_ex (by unfold GxOk; rw [hgx]; trivial) k'⟩
end
end DL
namespace DL
open PySem L2 PyProof.Rows PySem.Spec
/-! ### the end -/
section
variable {P : Program} {w : World} {K : PySem.W.Frag} {mg mb : Str → Option Value} {k : Nat} {fa a : Addr} {fd : FuncData} {x : Str} {g : List D → R D} {s1 : Shared} {vs : List Value} {ns : List Int}
/-- the module's facts, behind what is tracked -/
theorem mod_hid {H : Hp} (KX : K.In s1.heap) (hns : s1.heap.Ns mainGlobals mg) (hb : s1.heap.Ns builtinsNs mb) (hbb : ∀ x : Str, x ≠ "__name__" → mb x = bootBuiltins x) (hlim : s1.heap.NoLimit)
    (hd : ∀ (b : Addr) (o : Obj) (es : Array DictEntry) (ep : Nat), s1.heap.get? b = some o → o.data = .dict es ep → H b = none) (hk : ∀ b o, K.lookup b = some o → H b = none) : Mod K mg (hidT s1.heap H) := by
  have nsK : ∀ {b : Addr} {m : Str → Option Value}, s1.heap.Ns b m → (hidT s1.heap H).Ns b m := fun {b m} ⟨o, es, ep, e, d, r⟩ => ⟨o, es, ep, hidT_get e (hd _ _ _ _ e d), d, r⟩
  exact ⟨fun b o e => hidT_get (KX b o e) (hk b o e), nsK hns, ⟨mb, nsK hb, hbb⟩, let ⟨mc, h1, h2⟩ := hlim; ⟨mc, nsK h1, h2⟩⟩
/-- the law's def, called on a script that the heap H tells -/
theorem call_at {H : Hp} (KX : K.In s1.heap) (hns : s1.heap.Ns mainGlobals mg) (hb : s1.heap.Ns builtinsNs mb) (hbb : ∀ x : Str, x ≠ "__name__" → mb x = bootBuiltins x) (hlim : s1.heap.NoLimit) (hgn : s1.gens = #[])
    (hd : ∀ (b : Addr) (o : Obj) (es : Array DictEntry) (ep : Nat), s1.heap.get? b = some o → o.data = .dict es ep → H b = none) (hk : ∀ b o, K.lookup b = some o → H b = none) (hf : ∀ b u, H b = some u → ∃ o xs, u = .frz o (.lst xs)) (hok : HOk P w H s1.heap) (hr : Room k callerA)
    (F : ∀ base : Heap, K.In base → base.Ns mainGlobals mg → FnG P w K mg base k fa fd [x] (spR K mg false 1 g)) (hbind : ∀ (s : Shared) (u : Value), BindsTo s fd ⟨[u], []⟩ [(x, u)])
    (hS : ScL K H a (ns.map V.int)) (hl : ns.length ≤ sizeLine) (hg : g [.scr ns] = .ok (.bl true)) :
    codeAny (model P w) callerA (.call (.ref fa) ⟨[.ref a], []⟩) (fun r s' => r = .ok (.ret (.bool true)) ∧ OldK s1.heap s'.heap ∧ s'.os = s1.os ∧ AllBare s'.gens) s1 := by
  have hM := mod_hid (H := H) KX hns hb hbb hlim hd hk
  have e0 : Env0 P w K mg (hidT s1.heap H) callerA [] s1 H := ⟨rfl, hM, fun b o e => of_hidT e, Nat.le_of_eq (hidT_size _ _), trivial, fun b hb => absurd (show b ∈ ([] : List Addr) from hb) (by simp), hok, .of_eq hgn⟩
  have hsp : spR K mg false 1 g [.ref a] H (fun v _ => v = .bl true) (fun _ _ _ => False) := by
    refine ⟨rfl, H, [.scr ns], .refl H, ⟨_, _, rfl, ⟨hl, a, rfl, hS⟩, rfl⟩, ?_⟩
    rw [hg]
    exact fun v Hf' H' _ e => e
  refine codeAny_mono ((F _ hM.kin hM.glob).run callerA [] s1 H ⟨[.ref a], []⟩ [.ref a] [.ref a] _ _ rfl hr e0 (hbind s1 (.ref a)) (.cons rfl .nil) hsp) fun r s' h => ?_
  cases r with
  | error e =>
    have h' : L2.CX P w [] H s1 (fun _ _ _ => False) e s' := h
    obtain ⟨_, _, _, _, _, _, _, _, _, _, _, _, z⟩ := h'
    exact z.elim
  | ok fl =>
    cases fl with
    | next => exact False.elim h
    | brk => exact False.elim h
    | cont => exact False.elim h
    | ret u =>
      obtain ⟨v, H', os, bare, un, hok', r', q⟩ := h
      have q' : v = .bl true := q
      subst q'
      obtain rfl : u = Value.bool true := r'
      refine ⟨rfl, OldK.of_keep fun b o e => ?_, os, bare⟩
      cases q : H b with
      | none => exact un.keep b o e q (by intro z; exact absurd (show b ∈ ([] : List Addr) from z) (by simp)) (by simp)
      | some u =>
        obtain ⟨ob, xs, rfl⟩ := hf b u q
        have z2 := un.frzs b ob _ q
        obtain ⟨e1, _⟩ := hok b _ q
        obtain ⟨e2, _⟩ := hok' b _ z2
        rw [e] at e1; cases e1
        exact e2
/-- the script that one knows as a list object -/
def scrH (a : Addr) (o : Obj) (xs : List V) : Hp := fun b => if b = a then some (.frz o (.lst xs)) else none
theorem scrH_at {a : Addr} {o : Obj} {xs : List V} : scrH a o xs a = some (.frz o (.lst xs)) := if_pos rfl
theorem scrH_ne {a b : Addr} {o : Obj} {xs : List V} (h : b ≠ a) : scrH a o xs b = none := if_neg h
theorem scrH_inv {a b : Addr} {o : Obj} {xs : List V} {u : HO} (h : scrH a o xs b = some u) : b = a ∧ u = .frz o (.lst xs) := by
  by_cases q : b = a
  · subst q
    rw [scrH_at] at h
    exact ⟨rfl, (Option.some.inj h).symm⟩
  · rw [scrH_ne q] at h
    cases h
theorem law_callG (KX : K.In s1.heap) (hns : s1.heap.Ns mainGlobals mg) (hb : s1.heap.Ns builtinsNs mb) (hbb : ∀ x : Str, x ≠ "__name__" → mb x = bootBuiltins x) (hlim : s1.heap.NoLimit) (hgn : s1.gens = #[])
    (ha : s1.heap.get? a = some { cls := .type "list", data := .seq vs.toArray }) (hi : IntsAre vs ns) (hl : ns.length ≤ sizeLine) (hr : Room k callerA)
    (F : ∀ base : Heap, K.In base → base.Ns mainGlobals mg → FnG P w K mg base k fa fd [x] (spR K mg false 1 g)) (hbind : ∀ (s : Shared) (u : Value), BindsTo s fd ⟨[u], []⟩ [(x, u)]) (hg : g [.scr ns] = .ok (.bl true)) :
    codeAny (model P w) callerA (.call (.ref fa) ⟨[.ref a], []⟩) (fun r s' => r = .ok (.ret (.bool true)) ∧ OldK s1.heap s'.heap ∧ s'.os = s1.os ∧ AllBare s'.gens) s1 := by
  have rv := vals_ints hi
  cases hk : K.lookup a with
  | some o =>
    have e := KX a o hk
    rw [ha] at e
    cases e
    refine call_at (H := fun _ => none) KX hns hb hbb hlim hgn (fun _ _ _ _ _ _ => rfl) (fun _ _ _ => rfl) (fun b u z => nomatch z) (fun b u z => nomatch z) hr F hbind (.inr ⟨_, vs.toArray, _, hk, rfl, rfl, rfl, ?_, by simpa using rv⟩) hl hg
    rw [List.size_toArray, hi.length]
    exact hl
  | none =>
    refine call_at (H := scrH a { cls := .type "list", data := .seq vs.toArray } (ns.map V.int)) KX hns hb hbb hlim hgn (fun b o es ep e d => ?_) (fun b o e => ?_) (fun b u z => ⟨_, _, (scrH_inv z).2⟩) (fun b u z => ?_) hr F hbind (.inl ⟨_, scrH_at⟩) hl hg
    · refine scrH_ne fun q => ?_
      subst q
      rw [ha] at e; cases e
      have d' : Data.seq vs.toArray _ = Data.dict es ep := d
      cases d'
    · refine scrH_ne fun q => ?_
      subst q
      rw [hk] at e; cases e
    · obtain ⟨rfl, rfl⟩ := scrH_inv z
      exact ⟨ha, by rw [List.length_map]; exact hl, vs, _, rv, ha⟩
end
end DL
namespace DL
open PySem L2
section
variable {X : Cx} {tg l : Expr} {tl : TE}
section
variable {X : Cx} {tg l : Expr} {tl : TE}
/-- an iterator over a list or a tuple is made -/
theorem iter_sq {tg : Expr} {pins : List (Addr × Obj)} {σ : L2.St} {H1 : Hp} {s1 : Shared} {R : It → Hp → Prop} {a : Addr} (I : L2.Inv X pins σ H1 s1) (hq : ((∃ xs, SqL X.K H1 a xs) ∧ R (Itl X.K a) H1) ∨ ((∃ xs, SqT X.K H1 a xs) ∧ R (Itt X.K a) H1)) :
    wpAny (model X.prog X.w) X.A (pyIter (.ref a)) (PIE X pins σ tg R) X.xe s1 :=
  hq.elim (fun ⟨⟨_, is⟩, q⟩ => let ⟨_, _, lies, _⟩ := I.list is
      wpAny_pyIter_list lies.isList (pi_one (tk := s1.toks) I _ (turn_list a _) ⟨_, Heap.get?_push_size _ rfl, rfl, rfl⟩ q))
    fun ⟨⟨_, is⟩, q⟩ => let ⟨its, _, lies, _⟩ := I.tuple is
      wpAny_pyIter_tuple (show s1.heap.IsTuple a its.toArray from lies) (pi_one (tk := s1.toks) I _ (turn_tuple a _) ⟨_, Heap.get?_push_size _ rfl, rfl, rfl⟩ q)
end
section
variable {X : Cx} {tg l : Expr} {tl : TE}
/-- a list, a tuple or a text is walked -/
theorem iter_any {pins : List (Addr × Obj)} {σ : L2.St} {H1 : Hp} {s1 : Shared} {R : It → Hp → Prop} {x : V} {v : Value} (I : L2.Inv X pins σ H1 s1) (rel : RelV x v)
    (h : (∃ z : Str, x = .str z ∧ R (Its z) H1) ∨ ∃ a, x = .ref a ∧ (((∃ xs, SqL X.K H1 a xs) ∧ R (Itl X.K a) H1) ∨ ((∃ xs, SqT X.K H1 a xs) ∧ R (Itt X.K a) H1))) :
    wpAny (model X.prog X.w) X.A (pyIter v) (PIE X pins σ tg R) X.xe s1 := by
  rcases h with ⟨z, rfl, q⟩ | ⟨a, rfl, q⟩
  · obtain ⟨t, rfl⟩ := rel
    by_cases narrow : z.cps.all (· < 128) = true
    · exact wpAny_pyIter_ascii narrow (pi_one (tk := s1.toks) I _ (turn_str _ z t "str_ascii_iterator" (.inl rfl)) ⟨_, Heap.get?_push_size _ rfl, rfl, rfl⟩ q)
    · exact wpAny_pyIter_wide (Bool.eq_false_iff.mpr narrow) (pi_one (tk := s1.toks) I _ (turn_str _ z t "str_iterator" (.inr rfl)) ⟨_, Heap.get?_push_size _ rfl, rfl, rfl⟩ q)
  · cases rel
    exact iter_sq I q
theorem pi_any (hl : PE X l tl) : PI X tg l (fun σ H R => tl σ H fun x H1 => (∃ z : Str, x = .str z ∧ R (Its z) H1) ∨ ∃ a, x = .ref a ∧ (((∃ xs, SqL X.K H1 a xs) ∧ R (Itl X.K a) H1) ∨ ((∃ xs, SqT X.K H1 a xs) ∧ R (Itt X.K a) H1))) where
  run pins s σ H R I h := wpAny_mono (hl.run pins s σ H _ I h) (fun v s1 ⟨x, H1, I1, rel, q⟩ => iter_any I1 rel q) fun _ _ z => z
end
end
section
variable {X : Cx} {fx : Fx} {m : Type → Type} [Mo m] {G : List Sl} {tg l c a b : Expr} {x y : m D} {t : m Bool} {pos : Pos} {kk : Nat}
def itD : D → Option (List D)
  | .lst ds => some ds
  | .tup ds => some ds
  | .str s => some (chrs s)
  | .scr is => some (is.map .int)
  | _ => none
theorem yl_scr {K : PySem.W.Frag} {mg : Str → Option Value} {Hf : Hp} {is : List Int} {a : Addr} (hz : is.length ≤ sizeLine) (h : SqL K Hf a (is.map V.int)) : Yl K mg (Itl K a) Hf (is.map .int) := ⟨by simpa using hz, fun Hf2 H s1 s2 i => by
  have hq : SqL K H a (is.map V.int) := s2.sql (s1.sql h)
  have l : IsL K mg Hf (is.map .int) (is.map V.int) := isL_ints is
  refine ⟨fun d hd => ?_, fun hl => ⟨_, hq, by rw [← l.len]; exact hl⟩⟩
  obtain ⟨v, hv, iv⟩ := l.get hd
  exact ⟨⟨_, v, hq, hv⟩, fun x H' ⟨e, f⟩ => by
    subst e
    have := f _ hq
    rw [hv] at this
    cases this
    exact ⟨Hf2, .refl s2, iv.mono s1⟩⟩⟩
theorem di_any (h : PE X l (tE X.K X.mg fx G x)) : PI X tg l (tI X.K X.mg fx G (do let d ← x; ask (itD d))) := piI (pi_any h) fun σ H Q ⟨Hf, s, h⟩ =>
  (h.bind.mono fun v H1 ⟨d, Hf1, s1, sb, r, h1⟩ => by
    obtain ⟨ds, e, q⟩ := h1.ask
    cases d with
    | lst es =>
      cases e
      obtain ⟨hz, a, vs, rfl, t, il⟩ := r
      exact .inr ⟨a, rfl, .inl ⟨⟨vs, .inl (.inl (h1.1.top _ _ t))⟩, q _ Hf1 H1 (.refl h1.1.top) (yl_list hz t il)⟩⟩
    | tup es =>
      cases e
      obtain ⟨hz, a, vs, rfl, t, il⟩ := r
      exact .inr ⟨a, rfl, .inr ⟨⟨vs, h1.1.top.sqt t⟩, q _ Hf1 H1 (.refl h1.1.top) (yl_tup hz t il)⟩⟩
    | str z =>
      cases e
      exact .inl ⟨_, r.1, q _ Hf1 H1 (.refl h1.1.top) (yl_str z r.2)⟩
    | scr is =>
      cases e
      obtain ⟨hz, a, rfl, t⟩ := r
      exact .inr ⟨a, rfl, .inl ⟨⟨_, h1.1.top.sql t.sq⟩, q _ Hf1 H1 (.refl h1.1.top) (yl_scr hz t.sq)⟩⟩
    | _ => cases e).to
/-! ### an own list, read -/
mutual
/-- data that no change of a list reaches -/
def imm : D → Bool
  | .non => true
  | .bl _ => true
  | .int _ => true
  | .str _ => true
  | .tup ds => immL ds
  | .ins _ _ ds => immL ds
  | _ => false
def immL : List D → Bool
  | [] => true
  | d :: ds => imm d && immL ds
end
def flatD (d : D) : Option D := if imm d = true then some d else none
section
variable {K : PySem.W.Frag} {mg : Str → Option Value} {H H' : Hp}
theorem Rd.off {a : Addr} {u : HO} (hh : ∀ a, H' a = H a ∨ ∃ vs, H a = some (.lst vs)) (h : Rd H a u) (hu : ∀ vs, u ≠ .lst vs) : Rd H' a u := by
  rcases h with h | ⟨o, h⟩
  · rcases hh a with e | ⟨vs, e⟩
    · exact .inl (e.trans h)
    · rw [h] at e; cases e; exact absurd rfl (hu vs)
  · rcases hh a with e | ⟨vs, e⟩
    · exact .inr ⟨o, e.trans h⟩
    · rw [h] at e; cases e
mutual
theorem Is.off (hh : ∀ a, H' a = H a ∨ ∃ vs, H a = some (.lst vs)) : ∀ {d : D} {v : V}, imm d = true → Is K mg H d v → Is K mg H' d v
  | .non, _, _, h => h
  | .bl _, _, _, h => h
  | .int _, _, _, h => h
  | .str _, _, _, h => h
  | .tup ds, _, m, h => by
    obtain ⟨z, a, vs, e, t, l⟩ := h
    refine ⟨z, a, vs, e, ?_, IsL.off hh (ds := ds) (by simpa [imm] using m) l⟩
    rcases t with t | t
    · exact .inl (Rd.off hh t fun vs z => by cases z)
    · exact .inr t
  | .ins c ns ds, _, m, h => by
    obtain ⟨a, C, dx, vs, e, q, t, n, l⟩ := h
    refine ⟨a, C, dx, vs, e, q, ?_, n, IsL.off hh (ds := ds) (by simpa [imm] using m) l⟩
    rcases hh a with z | ⟨us, z⟩
    · exact z.trans t
    · rw [t] at z; cases z
  | .lst _, _, m, _ => by simp [imm] at m
  | .dic _ _, _, m, _ => by simp [imm] at m
  | .scr _, _, m, _ => by simp [imm] at m
  | .xc _ _ _ _, _, m, _ => by simp [imm] at m
theorem IsL.off (hh : ∀ a, H' a = H a ∨ ∃ vs, H a = some (.lst vs)) : ∀ {ds : List D} {vs : List V}, immL ds = true → IsL K mg H ds vs → IsL K mg H' ds vs
  | [], _, _, h => h
  | d :: ds, vs, m, h => by
    have m' : imm d = true ∧ immL ds = true := by simpa [immL] using m
    obtain ⟨v, r, e, i, l⟩ := h
    exact ⟨v, r, e, Is.off hh m'.1 i, IsL.off hh m'.2 l⟩
end
end
open Classical in
/-- the frozen heap without the lists that it has gained -/
noncomputable def offH (Hf Hf2 : Hp) : Hp := fun a => if ∃ vs, Hf2 a = some (.lst vs) then Hf a else Hf2 a
theorem offH_or {Hf Hf2 : Hp} (a : Addr) : offH Hf Hf2 a = Hf2 a ∨ ∃ vs, Hf2 a = some (.lst vs) := by
  by_cases c : ∃ vs, Hf2 a = some (.lst vs)
  · exact .inr c
  · exact .inl (if_neg c)
theorem Ste.off {bag : List Addr} {Hf Hf1 H Hf2 H2 : Hp} (sb : Sub Hf Hf1) (nw : ∀ a o, Hf1 a = some o → Hf a = some o ∨ ∃ vs, o = .lst vs) (e : Ste bag Hf1 H Hf2 H2) : Ste bag Hf H (offH Hf Hf2) H2 := by
  have s2 : Sub Hf Hf2 := sb.trans e.sub
  refine ⟨fun a o z => ?_, fun a o z => ?_, e.keep, e.dom, fun a o z => ?_⟩
  · unfold offH
    by_cases c : ∃ vs, Hf2 a = some (.lst vs)
    · rw [if_pos c]; exact z
    · rw [if_neg c]; exact s2 a o z
  · unfold offH at z
    by_cases c : ∃ vs, Hf2 a = some (.lst vs)
    · rw [if_pos c] at z; exact e.top a o (s2 a o z)
    · rw [if_neg c] at z; exact e.top a o z
  · unfold offH at z
    by_cases c : ∃ vs, Hf2 a = some (.lst vs)
    · rw [if_pos c] at z; exact .inl z
    · rw [if_neg c] at z
      rcases e.fresh a o z with h | h
      · rcases nw a o h with h | ⟨vs, h⟩
        · exact .inl h
        · exact absurd ⟨vs, h ▸ z⟩ c
      · exact .inr h
theorem de_thaw {e : Expr} {ds : List D} (i : Nat) (h : PE X e (tE X.K X.mg fx (G.set i (.im (.lst ds))) x)) (hG : G[i]? = some (.ow ds) := by rfl) : PE X e (tE X.K X.mg fx G (do let d ← Mo.noex x; ask (flatD d))) := peI h fun σ H Q ⟨Hf, s, st, w⟩ => by
  obtain ⟨Hf', sb, nw, st'⟩ := st.freeze2 hG
  refine ⟨Hf', s, st', Mo.wp_mono (Mo.wp_noex (Mo.wp_bind w)) (fun a s' k b Hf2 H2 e bg r => ?_) fun _ _ f => f.elim⟩
  have k' := Mo.wp_lift k
  unfold flatD at k'
  by_cases q : imm a = true
  · rw [if_pos q] at k'
    exact k' b (offH Hf Hf2) H2 (e.off sb nw) bg (r.off offH_or q)
  · rw [if_neg q] at k'; exact k'.elim
def negD : D → Option D
  | .int i => some (.int (-i))
  | _ => none
theorem de_neg (ha : PE X a (tE X.K X.mg fx G x)) : PE X (.UnaryOp .USub a pos) (tE X.K X.mg fx G (do let d ← x; ask (negD d))) := peI (pe_un un_neg ha) fun σ H Q ⟨Hf, s, h⟩ =>
  (h.bind.mono fun v H1 ⟨d, Hf1, s1, sb, r, h1⟩ => by
    obtain ⟨e, q0, q⟩ := h1.ask
    cases d with
    | int i =>
      cases q0
      cases r
      exact ⟨_, rfl, q _ Hf1 H1 (.refl h1.1.top) (is_int _)⟩
    | _ => cases q0).to
end
/-! ### a, b = x, y -/
section
variable {X : Cx} {fx : Fx} {m : Type → Type} [Mo m] {G : List Sl} {α β : Type} {kk : Nat} {a b : Expr} {rest : List Stmt} {ex : α → List Sl} {exb : β → List Sl} {pos px py pt pt2 : Pos} {n1 n2 : Str} {kt k2 : Nat}
theorem dss_parFF {x y : m (List D)} {k : List D → List D → m (Fl α β)} (C : Cok X fx kk) (i j : Nat) (ha : PE X a (tF X.K X.mg fx G x)) (hb : PE X b (tF X.K X.mg fx G y)) (hr : ∀ ds es, PSs X rest (tS X.K X.mg fx ((G.set i (.ow ds)).set j (.ow es)) ex exb (k ds es)))
    (hij : i ≠ j := by decide) (hi : X.N[i]? = some n1 := by rfl) (hj : X.N[j]? = some n2 := by rfl) (hx : X.env.scope.names.lookup n1 = some .local := by rfl) (hy : X.env.scope.names.lookup n2 = some .local := by rfl)
    (hw : swappedStores [.Tuple [.Name n1 px, .Name n2 py] kt pt] (.Tuple [a, b] k2 pt2) X.env = pure (some [n1, n2]) := by rfl)
    (hs : swapsWithSole [.Tuple [.Name n1 px, .Name n2 py] kt pt] (.Tuple [a, b] k2 pt2) pos.line X.env = pure false := by rfl)
    (hsa : starEach [a, b] X.env = (false, eval a X.env) :: starEach [b] X.env := by rfl) (hsb : starEach [b] X.env = (false, eval b X.env) :: starEach [] X.env := by rfl) (hg : GxOk fx G := by first | exact True.intro | repeat' (first | exact True.intro | exact Or.inl rfl | exact Or.inr rfl | refine And.intro ?_ ?_)) :
    PSs X (.Assign [.Tuple [.Name n1 px, .Name n2 py] kt pt] (.Tuple [a, b] k2 pt2) pos :: rest) (tS X.K X.mg fx G ex exb (do let ds ← x; let es ← y; k ds es)) :=
  pssI (pss_cons (ps_par C.calm C.nd hi hj hij hx hy (pa_cons ha (pa_cons hb pa_nil hsb) hsa) hw hs) (pss_ex (ι := List D × List D) fun r => hr r.1 r.2)) fun D σ H ⟨Hf, s, h⟩ =>
  ⟨Hf, s, h.1, Mo.wp_mono (Mo.wp_bind h.2) (fun ds s1 w p vs Hf1 H1 e bg hp hf1 hn l hz => by
    have st1 := h.1.step e bg
    have n0 := h.1.new0 hn
    refine ⟨Hf1, s1, st1, Mo.wp_mono (Mo.wp_bind w) (fun es s2 w2 p2 vs2 Hf2 H2 e2 bg2 hp2 hf2 hn2 l2 hz2 => ?_) fun e s' k => exs_ex hg k⟩
    have st2 := st1.step e2 bg2
    have n2 := st1.new0 hn2
    have hpp : H2 p = some (.lst vs) := e2.keep _ _ hp n0.2.1
    have hff : Hf2 p = none := e2.stayNone hf1 (by rw [hp]; simp)
    have ne : p ≠ p2 := fun z => by rw [z, hn2] at hp; cases hp
    have st3 := st2.setOw (i := i) (fun j q e1 x ex ox z => h.1.owNe hn j q e1 x ex ox z) hpp hff n0.1 n0.2.1 (l.mono e2.sub) hz
    refine ⟨.ref p, .ref p2, rfl, (ds, es), Hf2, s2, st3.setOw (i := j) (fun j' q e1 x ex ox z => ?_) hp2 hf2 n2.1 n2.2.1 l2 hz2, Mo.wp_mono w2 (fun f s2 h2 => h2.up (e.sub.trans e2.sub)) fun e s' k => k⟩
    by_cases c : i = j'
    · subst c
      have hi' : i < σ.length := by
        have := (List.getElem?_eq_some_iff.mp ex).1
        rw [h.1.len]
        simpa using this
      rw [List.getElem?_set_self hi'] at e1
      cases e1
      exact ne z
    · rw [List.getElem?_set_ne c] at e1 ex
      exact st1.owNe hn2 j' q e1 x ex ox z) fun e s' k => exs_ex hg k⟩
theorem dss_parEE {x y : m D} {k : D → D → m (Fl α β)} (C : Cok X fx kk) (i j : Nat) (ha : PE X a (tE X.K X.mg fx G x)) (hb : PE X b (tE X.K X.mg fx G y)) (hr : ∀ d e, PSs X rest (tS X.K X.mg fx ((G.set i (.im d)).set j (.im e)) ex exb (k d e)))
    (hij : i ≠ j := by decide) (hi : X.N[i]? = some n1 := by rfl) (hj : X.N[j]? = some n2 := by rfl) (hx : X.env.scope.names.lookup n1 = some .local := by rfl) (hy : X.env.scope.names.lookup n2 = some .local := by rfl)
    (hw : swappedStores [.Tuple [.Name n1 px, .Name n2 py] kt pt] (.Tuple [a, b] k2 pt2) X.env = pure (some [n1, n2]) := by rfl)
    (hs : swapsWithSole [.Tuple [.Name n1 px, .Name n2 py] kt pt] (.Tuple [a, b] k2 pt2) pos.line X.env = pure false := by rfl)
    (hsa : starEach [a, b] X.env = (false, eval a X.env) :: starEach [b] X.env := by rfl) (hsb : starEach [b] X.env = (false, eval b X.env) :: starEach [] X.env := by rfl) (hg : GxOk fx G := by first | exact True.intro | repeat' (first | exact True.intro | exact Or.inl rfl | exact Or.inr rfl | refine And.intro ?_ ?_)) :
    PSs X (.Assign [.Tuple [.Name n1 px, .Name n2 py] kt pt] (.Tuple [a, b] k2 pt2) pos :: rest) (tS X.K X.mg fx G ex exb (do let d ← x; let e ← y; k d e)) :=
  pssI (pss_cons (ps_par C.calm C.nd hi hj hij hx hy (pa_cons ha (pa_cons hb pa_nil hsb) hsa) hw hs) (pss_ex (ι := D × D) fun r => hr r.1 r.2)) fun De σ H ⟨Hf, s, h⟩ =>
    ((h.bind hg).mono fun v H1 ⟨d, Hf1, s1, sb, r, h1⟩ => ((h1.bind hg).mono fun v2 H2 ⟨e, Hf2, s2, sb2, r2, h2⟩ => ⟨v, v2, rfl, (d, e), Hf2, s2, (h2.1.set (r.mono sb2)).set r2, h2.2⟩).to).to
end
end DL
namespace DL
open PySem L2
theorem hu65 {k : Nat} {A : Around} (r : Room k A) : A.units + 65 < cLine := by have := r.un; omega
/-- a global constant is a datum -/
def GlobIs (K : PySem.W.Frag) (mg : Str → Option Value) (n : Str) (d : D) : Prop := ∃ u v, mg n = some u ∧ RelV v u ∧ Is K mg (fun _ => none) d v
theorem de_globI {X : Cx} {fx : Fx} {m : Type → Type} [Mo m] {G : List Sl} {n : Str} {d : D} {pos : Pos} (hg : Gl X n) (h : GlobIs X.K X.mg n d) (hd : (n == ("__debug__" : Str)) = false := by decide) : PE X (.Name n pos) (tE X.K X.mg fx G (pure d : m D)) := by
  obtain ⟨u, v, hm, r, i⟩ := h
  exact de_glob hg hm r i hd
theorem globS {K : PySem.W.Frag} {mg : Str → Option Value} {n : Str} {t : Str} {tk : Tok} {l : List Nat} (h : mg n = some (.str t tk)) (ht : t = ⟨l.toArray⟩) (hl : l.length ≤ 1000) : GlobIs K mg n (.str l) :=
  ⟨_, .str t, h, ⟨tk, rfl⟩, by rw [Is]; exact ⟨by rw [ht], Nat.le_of_lt (small1000 hl)⟩⟩
theorem globI {K : PySem.W.Frag} {mg : Str → Option Value} {n : Str} {i : Int} {tk : Tok} (h : mg n = some (.int i tk)) : GlobIs K mg n (.int i) := ⟨_, .int i, h, ⟨tk, rfl⟩, is_int _⟩
section
variable {X : Cx}
def powC : D → D → Option D
  | .int i, .int j => if 0 ≤ j ∧ j ≤ 100 ∧ i.natAbs < 2 ^ 64 then some (.int (i ^ j.toNat)) else none
  | _, _ => none
theorem od_powC : OpR X (binaryOp .Pow) (rD2 X.K X.mg powC) := by
  intro pins s σ H x y v u Q I rx ry h
  obtain ⟨Hf, dx, dy, d, sb, ix, iy, e, q⟩ := h
  unfold powC at e
  split at e
  · split at e
    · rename_i hc
      cases e; cases ix; cases iy
      exact op_pow pins s σ H _ _ v u Q I rx ry ⟨_, _, rfl, rfl, ⟨hc.1, by omega, hc.2.2⟩, q _ Hf H (.refl sb) (is_int _)⟩
    · cases e
  · cases e
end
/-! arguments -/
def apR1 (f : D → R D) : List D → R D
  | [a] => f a
  | _ => .stuck
def apR2 (f : D → D → R D) : List D → R D
  | [a, b] => f a b
  | _ => .stuck
def apR5 (f : D → D → D → D → D → R D) : List D → R D
  | [a, b, c, d, e] => f a b c d e
  | _ => .stuck
def apM1 (f : D → M D) : List D → M D
  | [a] => f a
  | _ => fun _ => .stuck
def apM2 (f : D → D → M D) : List D → M D
  | [a, b] => f a b
  | _ => fun _ => .stuck
theorem apR1_len (f) : ∀ ds : List D, apR1 f ds ≠ .stuck → ds.length = 1 := fun ds h => by
  unfold apR1 at h
  split at h <;> first | rfl | exact absurd rfl h
theorem apR2_len (f) : ∀ ds : List D, apR2 f ds ≠ .stuck → ds.length = 2 := fun ds h => by
  unfold apR2 at h
  split at h <;> first | rfl | exact absurd rfl h
theorem apR5_len (f) : ∀ ds : List D, apR5 f ds ≠ .stuck → ds.length = 5 := fun ds h => by
  unfold apR5 at h
  split at h <;> first | rfl | exact absurd rfl h
theorem apM1_len (f) : ∀ (ds : List D) s, apM1 f ds s ≠ .stuck → ds.length = 1 := fun ds s h => by
  rcases ds with _ | ⟨a, ds⟩
  · exact absurd rfl h
  · rcases ds with _ | ⟨_, ds⟩
    · rfl
    · exact absurd rfl h
theorem apM2_len (f) : ∀ (ds : List D) s, apM2 f ds s ≠ .stuck → ds.length = 2 := fun ds s h => by
  rcases ds with _ | ⟨a, ds⟩
  · exact absurd rfl h
  · rcases ds with _ | ⟨_, ds⟩
    · exact absurd rfl h
    · rcases ds with _ | ⟨_, ds⟩
      · rfl
      · exact absurd rfl h
end DL
/-! ### the built-in bases of own error classes -/
namespace PySem
namespace OwnX
open PySem.W PySem.Calls PyProof.Rows PySem.HandSPX Builtin Builtin.ObjectAttr
inductive XB where
  | ve | le | oe | re
def XB.tail : XB → List Value
  | .ve => [.type "ValueError", .type "Exception", .type "BaseException", .type "object"]
  | .le => [.type "LookupError", .type "Exception", .type "BaseException", .type "object"]
  | .oe => [.type "OverflowError", .type "ArithmeticError", .type "Exception", .type "BaseException", .type "object"]
  | .re => [.type "RuntimeError", .type "Exception", .type "BaseException", .type "object"]
def XB.nw : XB → String
  | .ve => "ValueError.__new__"
  | .le => "LookupError.__new__"
  | .oe => "OverflowError.__new__"
  | .re => "RuntimeError.__new__"
def XB.nm : XB → String
  | .ve => "ValueError"
  | .le => "LookupError"
  | .oe => "OverflowError"
  | .re => "RuntimeError"
def XB.it : XB → String
  | .ve => "ValueError.__init__"
  | .le => "LookupError.__init__"
  | .oe => "OverflowError.__init__"
  | .re => "RuntimeError.__init__"
theorem XB.base : ∀ b : XB, ExcBaseFacts b.nm b.nw b.it b.tail
  | .ve => F.excBase_ValueError
  | .le => F.excBase_LookupError
  | .oe => F.excBase_OverflowError
  | .re => F.excBase_RuntimeError
theorem XB.pass : ∀ (b : XB) (self : Value), refuseLoop self "__setattr__" b.tail = pure ()
  | .ve, self => F.store_ValueError.passes self
  | .le, self => F.store_LookupError.passes self
  | .oe, self => F.store_OverflowError.passes self
  | .re, self => F.store_RuntimeError.passes self
/-- own classes ahead of a base's row -/
def overB (b : XB) : List Value → Bool
  | .ref _ :: r => overB b r
  | l => l == b.tail
theorem overB_ind {b : XB} {P : List Value → Prop} (h0 : P b.tail) (h1 : ∀ c r, P r → P (.ref c :: r)) : ∀ l, overB b l = true → P l := by
  intro l
  induction l with
  | nil => intro e; rw [beq_iff_eq.mp (show (([] : List Value) == b.tail) = true from e)]; exact h0
  | cons a r ih =>
    cases a with
    | ref c => exact fun e => h1 c r (ih e)
    | _ => intro e; rw [beq_iff_eq.mp (show (_ == b.tail) = true from e)]; exact h0
theorem overB_pass {b : XB} (self : Value) (l : List Value) (h : overB b l = true) : refuseLoop self "__setattr__" l = pure () :=
  overB_ind (P := fun l => refuseLoop self "__setattr__" l = pure ()) (b.pass self) (fun c r q => by rw [refuseLoop_ref]; exact q) l h
theorem overB_has {b : XB} (X : String) (l : List Value) (h : overB b l = true) : l.contains (.type X) = b.tail.contains (.type X) :=
  overB_ind (P := fun l => l.contains (.type X) = b.tail.contains (.type X)) rfl (fun c r q => by rw [List.contains_cons, q]; rfl) l h
theorem overB_obj {b : XB} (l : List Value) (h : overB b l = true) : l.contains (.type "object") = true :=
  (overB_has "object" l h).trans (by cases b <;> decide +kernel)
theorem overB_ne {b : XB} (l : List Value) (h : overB b l = true) : l.isEmpty = false :=
  overB_ind (P := fun l => l.isEmpty = false) (by cases b <;> rfl) (fun _ _ _ => rfl) l h
/-- a field set on such an error that has no dict yet -/
theorem osaB {b : XB} {prog : Program} {w : World} {A : Around} {R : Result → Shared → Prop} {s : Shared} {K : Frag} {f : Str} {tk : Tok} {v : Value} {x C : Addr} {fv : Array Value} {cd : ClassData}
    (X : K.In s.heap) (hx : s.heap.get? x = some { cls := .ref C, data := .fields fv }) (hcd : clsIn K C = some cd) (hm : overB b cd.mro = true) (hh : cd.hasDict = true) (hn : findIn K (.ref C) f = some none)
    (fin : ∀ h' tk' dx, (∀ a o, a ≠ x → s.heap.get? a = some o → h'.get? a = some o) → s.heap.objs.size ≤ dx → dx ≠ x → h'.get? x = some { cls := .ref C, dict := some dx, data := .fields fv } →
      h'.Ns1 dx (fun y => if y = f then some v else none) → R (.ok (.ret .none)) { s with heap := h', toks := tk' }) :
    codeAny (model prog w) A (.call (.builtin "object.__setattr__") ⟨[.ref x, .str f tk, v], []⟩) R s := by
  obtain ⟨hp, g, dr, t, os⟩ := s
  have I : InstAt hp x { cls := .ref C, data := .fields fv } C none := ⟨hx, rfl, rfl, trivial⟩
  have lt : x < hp.objs.size := Heap.lt_size hx
  have io : Looks (model prog w) hp (isInstance (.ref x) (.type "object")) true :=
    I.type.andThen (looks_mroIn X (by unfold mroIn; rw [hcd, Option.bind_some, if_neg (by rw [overB_ne _ hm]; decide), overB_obj _ hm]))
  have SF := F.store_object
  refine codeAny_call_builtin SF.slot.plain SF.entry
    (@check_slot (model prog w) _ _ ⟨hp, g, dr, t, os⟩ "object.__setattr__" "object" "__setattr__" (.ref x) [.str f tk, v] [] _ SF.kind SF.split io (SF.args (.ref x) (.str f tk) v) ?_)
  have lm : Looks (model prog w) hp (mroOf (.ref C)) cd.mro := (looks_clsIn X hcd).andThen .now
  have ls : Looks (model prog w) hp (storeTaker? none) none := .now
  have lc : Looks (model prog w) hp (classData C) cd := looks_clsIn X hcd
  rw [osa_eq, refuse_eq]
  refine wpAny_bind (wpAny_bind (I.type.at (wpAny_bind (lm.at ?_))))
  rw [overB_pass _ _ hm]
  refine wpAny_pure (wpAny_bind (I.type.at (wpAny_bind ((looks_findIn X hn).at (wpAny_bind (ls.at ?_))))))
  show wpAny _ _ (storeInOwnDict (.ref x) (.ref C) (.str f tk) f v false) _ _ _
  cases cd with
  | mk nm bs mro ns qn hd sn sb ab col del =>
  cases (show hd = true from hh)
  unfold storeInOwnDict ownDictForStores
  repeat (first
    | with_reducible refine store_in_new ?_ ?_
    | with_reducible refine wpAny_loadPart_at hx ?_
    | with_reducible refine lc.at ?_
    | wp_step)
  · exact ⟨_, #[], _, (Heap.get?_update_ne _ _ _ _ (Nat.ne_of_gt lt)).trans (Heap.get?_push_at rfl rfl), rfl, fun e he => absurd he (by simp), fun _ => rfl⟩
  · intro h' tk' hn' hs
    have hx1 : (hp.push { cls := .type "dict", data := .dict #[] }).get? x = some { cls := .ref C, data := .fields fv } := Heap.get?_push_of_some _ hx
    refine fin h' tk' hp.objs.size (fun a o ha ho => ?_) (Nat.le_refl _) (Nat.ne_of_gt lt) ?_ hn'
    · rw [hs.2 a (Nat.ne_of_lt (Heap.lt_size ho)), Heap.get?_update_ne _ _ _ _ ha]
      exact Heap.get?_push_of_some _ ho
    · rw [hs.2 x (Nat.ne_of_lt lt)]
      exact Heap.get?_update_self _ hx1 rfl
end OwnX
end PySem
namespace PySem
namespace OwnX
open PySem.W PySem.Calls PyProof.Rows PySem.HandSPX
/-! ### the text of __init__ -/
def iA (f : Str) (p1 p2 : Pos) : Arguments := { posonlyargs := [], args := [{ arg := "self", annotation := none, pos := p1 }, { arg := f, annotation := none, pos := p2 }], vararg := none, kwonlyargs := [], kw_defaults := [], kwarg := none, defaults := [] }
def iB (f : Str) (q1 q2 q3 q4 : Pos) : List Stmt := [.Assign [.Attribute (.Name "self" q1) f q2] (.Name f q3) q4]
def iS (f : Str) : Scope := { kind := .function, names := [(PySem.Str.ofString "self", .local), (f, .local)], isGenerator := false, isCoroutine := false, more := [] }
theorem lookup_s (f : Str) : (iS f).names.lookup ("self" : Str) = some .local := by
  show List.lookup ("self" : Str) [(PySem.Str.ofString "self", NameKind.local), (f, .local)] = _
  simp [List.lookup]
theorem lookup_f {f : Str} (h : (f == ("self" : Str)) = false) : (iS f).names.lookup f = some .local := by
  have h' : (f == PySem.Str.ofString "self") = false := h
  show List.lookup f [(PySem.Str.ofString "self", NameKind.local), (f, .local)] = _
  simp [List.lookup, h']
theorem kinds2 {f : Str} (h : (f == ("self" : Str)) = false) {u v : Value} : ([(("self" : Str), u), (f, v)].all fun y => (iS f).names.lookup y.1 == some .local || (iS f).names.lookup y.1 == some .cell) = true := by
  simp only [List.all_cons, List.all_nil, lookup_s, lookup_f h]
  rfl
theorem kind_f {f : Str} (h : (f == ("self" : Str)) = false) {name : Str} {L a : Addr} {cd : Value} : (envOfC name (iS f) L a cd).kindOf f = some .local := lookup_f h
theorem kind_s {f : Str} {name : Str} {L a : Addr} {cd : Value} : (envOfC name (iS f) L a cd).kindOf ("self" : Str) = some .local := lookup_s f
theorem binds2_f {f : Str} (h : (f == ("self" : Str)) = false) {name : Str} {L a : Addr} {cd u v : Value} : bindL (envOfC name (iS f) L a cd).kindOf [(("self" : Str), u), (f, v)] (fun _ => none) f = some v := by
  simp [bindL, kind_f h, kind_s]
theorem binds2_s {f : Str} (h : (f == ("self" : Str)) = false) {name : Str} {L a : Addr} {cd u v : Value} : bindL (envOfC name (iS f) L a cd).kindOf [(("self" : Str), u), (f, v)] (fun _ => none) ("self" : Str) = some u := by
  have hne : ¬ (("self" : Str) = f) := fun z => by rw [← z] at h; simp at h
  simp [bindL, kind_f h, kind_s, hne]
/-- what the written part says of Low, at C, and of its __init__, at fI -/
structure OwnTxt (K : Frag) (mg : Str → Option Value) (cn f qn : Str) (C fI : Addr) : Prop where
  fs : (f == ("self" : Str)) = false
  fb : (f == ("__debug__" : Str)) = false
  bind : ∀ (doc pm : Value) (an : Option Addr) (cdv ct u v : Value) (p1 p2 q1 q2 q3 q4 : Pos), bindArgs (fnOf "__init__" qn (iA f p1 p2) (iB f q1 q2 q3 q4) (iS f) .none .none doc pm an cdv ct) ⟨[u, v], []⟩ = pure [(("self" : Str), u), (f, v)]
  gC : mg cn = some (.ref C)
  cls : ∃ (b : XB) (nm q : Str) (N : Addr) (bs bm : List Value) (sn : List Str) (sub : List Value) (ab : Bool) (col : Option Bool) (dd : Option Addr) (k0 k1 k2 k3 k5 : Option Value), K.lookup C = some (excClassObj nm q C N bs bm true sn sub ab col dd k0 k1 k2 k3 k5 b.nw) ∧ overB b bm = true
  sa : findIn K (.ref C) "__setattr__" = some (some (.builtin "object.__setattr__"))
  ga : findIn K (.ref C) "__getattribute__" = some (some (.builtin "BaseException.__getattribute__"))
  gg : findIn K (.ref C) "__getattr__" = some none
  noN : findIn K (.ref C) f = some none
  iC : findIn K (.ref C) "__init__" = some (some (.ref fI))
  tC : typeIn K (.ref fI) = some (.type "function")
  kC : keepIn K (.ref C) = true
  exC : subIn K (.ref C) (.type "BaseException") = some true
  tyC : typeIn K (.ref C) = some (.type "type")
  hdC : hasDictIn K C = true
  te : exmOne K (.ref C) (.ref C) = some true
  fn : ∃ (oc : Value) (od : Option Addr) (doc pm : Value) (an : Option Addr) (cdv ct : Value) (osl : Array (Option Value)) (p1 p2 q1 q2 q3 q4 : Pos),
    K.lookup fI = some ⟨oc, od, .func (fnOf "__init__" qn (iA f p1 p2) (iB f q1 q2 q3 q4) (iS f) .none .none doc pm an cdv ct), osl⟩ ∧ codeIn K cdv qn = true
theorem one_size (v : Value) : [v].length ≤ sizeLine := by
  rw [sizeLine_eq]
  exact (by decide : 1 ≤ 16777216)
theorem ldC {M : Model} {s : Shared} {name : Str} {scope : Scope} {L a : Addr} {cd : Value} {m : Str → Option Value} {x : Str} {pos : Pos} {v : Value} {Q : Value → Shared → Prop} {A : Around} {E : Value → Shared → Prop} (hn : s.heap.Ns L m) (hv : m x = some v) (h : Q v s)
    (hk : scope.kind = .function := by rfl) (hl : (envOfC name scope L a cd).kindOf x = some .local := by rfl) (hd : (x == ("__debug__" : Str)) = false := by decide) :
    wpAny M A (eval (.Name x pos) (envOfC name scope L a cd)) Q E s := wpAny_Name (wpAny_loadName_local hk hl hn hv h) hd
/-- what __init__ leaves of a fresh exception at x -/
structure InitEnd (f : Str) (h h' : Heap) (x C dx t1 : Addr) (v : Value) : Prop where
  keep : ∀ b o, b ≠ x → h.get? b = some o → h'.get? b = some o
  obj : h'.get? x = some { cls := .ref C, dict := some dx, data := .fields #[.ref t1, .none, .none, .none, .bool false, .none] }
  dbig : h.objs.size ≤ dx
  dne : dx ≠ x
  ns : h'.Ns1 dx (fun y => if y = f then some v else none)
/-- a made Low -/
structure OwnMade (f : Str) (h h' : Heap) (e C d : Addr) (v : Value) : Prop where
  keep : ∀ b o, h.get? b = some o → h'.get? b = some o
  new : h.objs.size ≤ e
  obj : ∃ oe vs, h'.get? e = some oe ∧ oe.cls = .ref C ∧ oe.dict = some d ∧ oe.data = .fields vs ∧ vs[1]? = some .none
  dbig : h.objs.size ≤ d
  dne : d ≠ e
  ns : h'.Ns1 d (fun y => if y = f then some v else none)
section
variable {prog : Program} {w : World} {A : Around} {E : Value → Shared → Prop} {R : Result → Shared → Prop} {s : Shared} {K : Frag} {mg : Str → Option Value} {cn f qn : Str} {C fI : Addr}
theorem low_init (T : OwnTxt K mg cn f qn C fI) {x t0 : Addr} {v : Value} (X : K.In s.heap) (hlim : s.heap.NoLimit) (hx : s.heap.get? x = some (excO C t0)) (hnx : K.lookup x = none) (hroom : A.depth < recursionLimit)
    (hq : ∀ h' tk dx, InitEnd f s.heap h' x C dx t0 v → R (.ok (.ret .none)) { s with heap := h', toks := tk }) :
    codeAny (model prog w) A (.call (.ref fI) ⟨[.ref x, v], []⟩) R s := by
  obtain ⟨oc, od, doc, pm, an, cdv, ct, osl, p1, p2, q1, q2, q3, q4, ho, hcd⟩ := T.fn
  obtain ⟨b, nm, q, N, bs, bm, sn, sub, ab, col, dd, k0, k1, k2, k3, k5, hC, hbm⟩ := T.cls
  have hcl : clsIn K C = some { name := nm, bases := bs, mro := .ref C :: bm, ns := N, qualname := q, hasDict := true, slotNames := sn, subclasses := sub, abstract := ab, collection := col, hasDel := false } := by unfold clsIn; rw [hC] <;> rfl
  refine Att.call_fn (binds := [(("self" : Str), .ref x), (f, v)]) X hlim ho hcd hroom (BindsTo.of_eq (T.bind ..)) (kinds2 T.fs) (fun s₁ IC => ?_) rfl rfl rfl
  obtain ⟨h₁, tk₁, rfl⟩ := IC.toInCall.same
  have k : ∀ b o, s.heap.get? b = some o → h₁.get? b = some o := IC.toInCall.keep
  have hn := IC.toInCall.ns
  have hxL : s.heap.objs.size ≠ x := Nat.ne_of_gt (Heap.lt_size hx)
  have X₁ : K.In h₁ := X.keeps k
  have hx₁ := k _ _ hx
  -- self.by = by
  show wpAny _ _ (execs _ _) _ _ _
  refine wpAny_execs_cons (plainObj_wpAny_Assign_Attribute ?_)
  refine ldC (v := v) hn (binds2_f T.fs) (ldC (v := .ref x) hn (binds2_s T.fs) ?_) rfl (kind_f T.fs) T.fb
  refine set_plain X₁ (ox := excO C t0) (od := none) ⟨hx₁, rfl, rfl, trivial⟩ T.sa ?_
  refine osaB (b := b) X₁ hx₁ hcl (show overB b (.ref C :: bm) = true from hbm) rfl T.noN (fun h₃ tk₃ dx k₃ dn dne hx₃ hn₃ => ?_)
  show wpAny _ _ (execs _ _) _ _ _
  have z : s.heap.objs.size < h₁.objs.size := hn.lt
  exact wpAny_execs_nil (hq h₃ tk₃ dx ⟨fun b o hb e => k₃ b o hb (k b o e), hx₃, Nat.le_of_lt (Nat.lt_of_lt_of_le z dn), dne, hn₃⟩)
theorem low_made (T : OwnTxt K mg cn f qn C fI) {v : Value} (X : K.In s.heap) (hlim : s.heap.NoLimit) (hroom : A.depth + 1 < recursionLimit)
    (hq : ∀ h' tk e d, OwnMade f s.heap h' e C d v → R (.ok (.ret (.ref e))) { s with heap := h', toks := tk }) :
    codeAny (model prog w) A (.call (.ref C) ⟨[v], []⟩) R s := by
  obtain ⟨b, nm, q, N, bs, bm, sn, sub, ab, col, dd, k0, k1, k2, k3, k5, hC, hbm⟩ := T.cls
  obtain ⟨hp, g, dr, tk, os⟩ := s
  have k : ∀ b o, hp.get? b = some o → ((hp.push (kdv_tup [v])).push (excO C hp.objs.size)).get? b = some o := fun b o e => Heap.get?_push_of_some _ (Heap.get?_push_of_some _ e)
  have hget : ((hp.push (kdv_tup [v])).push (excO C hp.objs.size)).get? (hp.objs.size + 1) = some (excO C hp.objs.size) := by heap_get
  have hnx : K.lookup (hp.objs.size + 1) = none := by
    cases e : K.lookup (hp.objs.size + 1) with
    | none => rfl
    | some o =>
      have z : hp.get? (hp.objs.size + 1) = some o := X _ _ e
      exact absurd (Nat.lt_of_succ_lt (Heap.lt_size z)) (Nat.lt_irrefl _)
  refine call_own b.base (fun X => overB_has X bm hbm) (X _ _ hC) (looks_findIn X T.iC) (fun self => bind_fn X self T.tC) (one_size v) ?_
  refine low_init (s := ⟨(hp.push (kdv_tup [v])).push (excO C hp.objs.size), g, dr, tk, os⟩) T (X.keeps k) (hlim.keeps k) hget hnx ?_ fun h' tk' dx ⟨k', hx, dn, dne, hns⟩ => ?_
  · show A.depth + 1 < recursionLimit
    exact hroom
  · have old : ∀ b o, hp.get? b = some o → h'.get? b = some o := fun b o e => k' b o (Nat.ne_of_lt (Nat.lt_succ_of_lt (Heap.lt_size e))) (k b o e)
    have z : hp.objs.size + 1 + 1 ≤ dx := by
      first
        | (simpa only [Heap.size_push] using dn)
        | exact dn
        | (have q := dn; rw [Heap.size_push, Heap.size_push] at q; exact q)
    exact ⟨rfl, hq h' tk' (hp.objs.size + 1) dx ⟨old, Nat.le_succ _, ⟨_, _, hx, rfl, rfl, rfl, rfl⟩, Nat.le_trans (Nat.le_trans (Nat.le_succ _) (Nat.le_succ _)) z, dne, hns⟩⟩
end
end OwnX
end PySem
namespace L2
open PySem PySem.Spec PyProof.Rows
theorem relO_low {v : V} {v' : Value} (r : RelV v v') (g f : Str) : RelO (List.lookup f [(g, v)]) (if f = g then some v' else none) := by
  by_cases hw : f = g
  · subst hw
    rw [if_pos rfl]
    have q : List.lookup f [(f, v)] = some v := by simp [List.lookup]
    rw [q]
    exact r
  · rw [if_neg hw]
    have qw : (f == g) = false := by simpa using hw
    have q2 : List.lookup f [(g, v)] = none := by simp [List.lookup, qw]
    rw [q2]
    trivial
section
variable {X : Cx} {cn f qn : Str} {C fI : Addr}
/-- Low(e) -/
def tMkLow (f : Str) (C : Addr) (ta : TA) : St → Hp → XK → Prop := fun σ H Q => ta σ H fun vs H1 => ∃ v, vs = [v] ∧ ∀ d, H1 d = none → Q (.ref C) (some d) (upd H1 d (.xd [(f, v)]))
theorem pmk_low {a : Expr} {ta : TA} {p pos : Pos} {k : Nat} (T : PySem.OwnX.OwnTxt X.K X.mg cn f qn C fI) (hr : Room k X.A) (ha : PA X [a] ta) (hdb : (cn == ("__debug__" : Str)) = false := by decide) (hg : Gl X cn := by rfl)
    (he : starEach (a :: []) X.env = (false, eval a X.env) :: starEach [] X.env := by rfl) (hpl : (backTo pos (starEach [] X.env)).any (·.1) = false := by rfl) :
    PMk X (.Call (.Name cn p) [a] [] pos) (tMkLow f C ta) := by
  intro pins s σ H Q I h
  refine wpAny_Call_Name_kw (ld_glob I hg T.gC ?_ (hd := hdb))
  refine PySem.W.callWith_K (h₀ := X.base) I.ok.mod.kin T.kC (thn (ha.run pos pins s σ H _ I h) fun us s1 hh => ?_) he hpl
  obtain ⟨vs, H1, I1, r1, v, ev, q1⟩ := hh
  subst ev
  refine ⟨I1.kIn, ?_⟩
  cases r1 with
  | cons rv rn =>
    rename_i v' us'
    cases rn
    show wpAny _ _ (call (.ref C) [v']) _ _ _
    have hlim := I1.nolimit
    obtain ⟨hp, g, dr, tk, os⟩ := s1
    refine wpAny_call (PySem.OwnX.low_made T I1.kIn hlim (by have := hr.dp; omega) fun h' tk' e d M => ?_)
    show MkP X pins σ Q (.ref e) ⟨h', g, dr, tk', os⟩
    obtain ⟨oe, fv, hoe, hc, hd, hdat, h1⟩ := M.obj
    have hns := M.ns
    obtain ⟨G', g1, g2⟩ := restrict h' fun b => decide (b ≠ e)
    have gk : ∀ b, b ≠ e → G'.get? b = h'.get? b := fun b hb => g1 b (decide_eq_true hb)
    have ge : G'.get? e = none := g2 e (by simp)
    have old : ∀ b o, hp.get? b = some o → G'.get? b = some o := fun b o q => (gk b (Nat.ne_of_lt (Nat.lt_of_lt_of_le (Heap.lt_size q) M.new))).trans (M.keep b o q)
    have ob : ObjOk X.prog X.w (upd H1 d (.xd [(f, v)])) G' d (.xd [(f, v)]) :=
      ⟨_, hns.at (fun o q => (gk d M.dne).trans q), fun f => relO_low rv _ f⟩
    have J : Inv X pins σ (upd H1 d (.xd [(f, v)])) ⟨G', g, dr, tk', os⟩ := I1.laid (t' := tk') old M.dbig ob
    refine ⟨e, oe, fv, ⟨G', g, dr, tk', os⟩, _, .ref C, some d, rfl, J, fun b o q => ?_, ge, hoe, ⟨hc, hd⟩, hdat, h1, ?_, rfl, I1.bare, raises_own T.exC T.tyC, q1 d (I1.hok.fresh M.dbig)⟩
    · by_cases hb : b = e
      · have q' : G'.get? b = some o := q
        rw [hb, ge] at q'; cases q'
      · exact (gk b hb).symm.trans q
    · rw [upd_ne (Ne.symm M.dne)]
      exact I1.hok.fresh M.new
/-- raise Low(e) -/
def tRaiseLow (f : Str) (C : Addr) (W : WX) (ta : TA) : TS := fun _ σ H => tMkLow f C ta σ H fun cls d H' => W cls d σ H'
theorem ps_raiseLow {a : Expr} {ta : TA} {W : WX} {p pos pos2 : Pos} {k : Nat} (hc : X.calm = true) (T : PySem.OwnX.OwnTxt X.K X.mg cn f qn C fI) (hr : Room k X.A) (tk : Takes X W) (ha : PA X [a] ta) (hdb : (cn == ("__debug__" : Str)) = false := by decide) (hg : Gl X cn := by rfl)
    (he : starEach (a :: []) X.env = (false, eval a X.env) :: starEach [] X.env := by rfl) (hpl : (backTo pos (starEach [] X.env)).any (·.1) = false := by rfl) :
    PS X (.Raise (some (.Call (.Name cn p) [a] [] pos)) none pos2) (tRaiseLow f C W ta) := ps_raise hc tk (pmk_low T hr ha hdb hg he hpl)
/-- low.by, low the exception that the suite holds (at a; its class cls, its dict d) -/
def tByLow (f : Str) (C : Addr) (a : Addr) (cls : Value) (d : Option Addr) (te : TE) : TE := fun σ H Q => te σ H fun x H1 => x = .ref a ∧ cls = .ref C ∧ ∃ (dd : Addr) (v : V), d = some dd ∧ H1 dd = some (.xd [(f, v)]) ∧ Q v H1
theorem pe_byLow {a : Addr} {oe : Obj} {cls : Value} {d : Option Addr} {pn : List (Addr × Obj)} {e : Expr} {te : TE} {pos : Pos} (T : PySem.OwnX.OwnTxt X.K X.mg cn f qn C fI) (hz : Zc cls d oe) (hf : ∃ vs, oe.data = .fields vs) (he : PE (X.suite a ((a, oe) :: pn)) e te)
    (hb : attributeBase e f X.env (eval e X.env) = eval e X.env := by rfl) :
    PE (X.suite a ((a, oe) :: pn)) (.Attribute e f pos) (tByLow f C a cls d te) := by
  refine ⟨fun pins s σ H Q I h => ?_⟩
  refine attr_of hb (thn (he.run pins s σ H _ I h) fun u s1 hh => ?_)
  obtain ⟨x, H1, I1, rx, ex, ec, dd, v, ed, ea, q⟩ := hh
  subst ex
  obtain rfl : u = Value.ref a := rx
  subst ec
  subst ed
  obtain ⟨ha, _⟩ := I1.pin (a, oe) (List.mem_append_left _ List.mem_cons_self)
  obtain ⟨vs, hd⟩ := hf
  have hx : ObjOk X.prog X.w H1 s1.heap dd (.xd [(f, v)]) := I1.hok dd _ ea
  obtain ⟨mA, hns, hr⟩ := hx
  obtain ⟨od, ho, hl⟩ := lookIn_ns hns
  have l : List.lookup f [(f, v)] = some v := by simp [List.lookup]
  obtain ⟨u, hu, ru⟩ := RelO.some_of (v := v) (o := mA f) (by rw [← l]; exact hr f)
  have J : PySem.W.InstAt s1.heap a oe C (some od) := ⟨ha, hz.1, by unfold PySem.W.notCls; rw [hd] <;> rfl, by rw [hz.2]; exact ho⟩
  exact HandSPX.exc_get I1.kIn J T.ga T.gg T.exC (PySem.W.findObj_own T.hdC T.noN rfl (by rw [hl, hu])) (handed_of ru) ⟨v, H1, I1.tok _, ru, q⟩
end
end L2
/-! ### a tuple, backwards -/
namespace DL
open PySem PySem.Spec PyProof.Rows L2 HT
section
variable {prog : Program} {w : World} {A : Around} {E : Value → Shared → Prop} {s : Shared}
theorem applied_rev {sl : Addr} {t : Tok} {n : Nat} {Q : Int × Int × Nat → Shared → Prop} (hs : s.heap.IsSliceOf sl .none .none (.int (-1) t)) (h : Q ((n : Int) - 1, -1, n) s) : wpAny (model prog w) A (Builtin.Slice.sliceApplied (.ref sl) (pure (n : Int))) Q E s := by
  obtain ⟨os, hos, hcs, hds⟩ := id hs
  unfold Builtin.Slice.sliceApplied Builtin.Slice.sliceFields
  refine wpAny_bind (wpAny_bind (wpAny_field hos hds (x := .none) rfl (wpAny_bind (wpAny_field hos hds (x := .none) rfl (wpAny_bind (wpAny_field hos hds (x := .int (-1) t) rfl (wpAny_pure ?_)))))))
  refine wpAny_bind (slicePart_ (.int (-1) t) ?_)
  show wpAny _ _ (if ((-1 : Int) == 0) = true then _ else _) _ _ s
  rw [if_neg (by decide)]
  refine wpAny_bind (slicePart_ .none (wpAny_bind (slicePart_ .none (wpAny_bind (wpAny_pure ?_)))))
  have e1 : Builtin.Slice.sliceAdjust none none (-1) (n : Int) = ((n : Int) - 1, -1) := by
    unfold Builtin.Slice.sliceAdjust
    simp
  have e2 : Builtin.Slice.slicePlaces ((n : Int) - 1) (-1) (-1) = n := by
    unfold Builtin.Slice.slicePlaces
    simp
    omega
  show wpAny _ _ (match Builtin.Slice.sliceAdjust none none (-1) (n : Int) with | (lo, hi) => pure (lo, (-1 : Int), Builtin.Slice.slicePlaces lo hi (-1))) _ _ s
  rw [e1]
  show wpAny _ _ (pure ((n : Int) - 1, (-1 : Int), Builtin.Slice.slicePlaces ((n : Int) - 1) (-1) (-1))) _ _ s
  rw [e2]
  exact wpAny_pure h
theorem pick_rev_to (xs : Array Value) : ∀ k, k ≤ xs.size → (List.range k).filterMap (fun (m : Nat) => xs[(((xs.size : Int) - 1) + (m : Int) * (-1)).toNat]?) = xs.toList.reverse.take k
  | 0, _ => rfl
  | k + 1, h => by
    rw [List.range_succ, List.filterMap_append, pick_rev_to xs k (by omega), List.take_succ]
    congr 1
    have e : (((xs.size : Int) - 1) + (k : Int) * (-1)).toNat = xs.toList.length - 1 - k := by rw [Array.length_toList]; omega
    rw [List.getElem?_reverse (by rw [Array.length_toList]; omega)]
    simp only [List.filterMap_cons, List.filterMap_nil, e]
    rw [← Array.getElem?_toList]
    cases xs.toList[xs.toList.length - 1 - k]? <;> rfl
theorem pick_rev (xs : Array Value) : ((List.range xs.size).filterMap fun (m : Nat) => xs[(((xs.size : Int) - 1) + (m : Int) * (-1)).toNat]?).toArray = xs.toList.reverse.toArray := by
  rw [pick_rev_to xs xs.size (Nat.le_refl _), List.take_of_length_le (by simp)]
theorem getItem_tuple_rev {tp sl : Addr} {items : Array Value} {t : Tok} {Q : Value → Shared → Prop} (ht : IsTup s.heap tp items) (hs : s.heap.IsSliceOf sl .none .none (.int (-1) t))
    (h : Q (.ref s.heap.objs.size) { s with heap := s.heap.push { cls := .type "tuple", data := .seq items.toList.reverse.toArray } }) (hsz : items.size ≤ sizeLine) : wpAny (model prog w) A (getItem (.ref tp) (.ref sl)) Q E s := by
  have hk : sizeOk (.seq items.toList.reverse.toArray) := by
    show items.toList.reverse.toArray.size ≤ sizeLine
    rw [List.size_toArray, List.length_reverse, Array.length_toList]
    exact hsz
  obtain ⟨os, hos, hcs, hds⟩ := id hs
  have hTs : s.TypeIs (.ref sl) "slice" := ⟨os, hos, hcs⟩
  unfold getItem
  try with_reducible refine wpAny_holding ?_
  first | refine wpAny_bind (wpAny_pure ?_) | skip
  refine wpAny_bind (wpAny_sequenceKey ht.typeIs (by decide) ?_)
  refine wpAny_bind (wpAny_callSpecial?_slot (name := Str.ofString "__getitem__") ht.typeIs PyProof.Rows.slot_tuple_getitem
    (wpAny_call_entry PyProof.Rows.slot_tuple_getitem ht.typeIs entry_tuple_getitem ?_ (args_tuple_getitem _ _)))
  show wpAny _ _ (Builtin.Tuple.tupleItemsOf (.ref tp) >>= _) _ _ s
  refine wpAny_bind (tupleItemsOf_ ht ?_)
  refine wpAny_bind (wpAny_typeOf hTs ?_)
  rw [if_pos (by decide)]
  refine wpAny_bind (applied_rev hs ?_)
  have hno : ¬ ((((items.size : Int) - 1) == 0 && (-1 : Int) == 1 && items.size == items.size) = true) := by simp
  show wpAny _ _ (if ((((items.size : Int) - 1) == 0 && (-1 : Int) == 1 && items.size == items.size) = true) then _ else _) _ _ s
  rw [if_neg hno, pick_rev]
  first
    | exact wpAny_bind (m := Builtin.Tuple.tupleExact _) (wpAny_newObj_type (wpAny_pure ⟨_, rfl, wpAny_pure h⟩) hk)
    | exact wpAny_bind (m := Builtin.Tuple.tupleExact _) (wpAny_newObj_type (wpAny_bind (wpAny_pure (wpAny_pure ⟨_, rfl, wpAny_pure h⟩))) hk)
    | exact wpAny_bind (wpAny_bind (m := Builtin.Tuple.tupleExact _) (wpAny_newObj_type (wpAny_pure (wpAny_pure ⟨_, rfl, wpAny_pure h⟩)) hk))
    | exact wpAny_bind (wpAny_bind (m := Builtin.Tuple.tupleExact _) (wpAny_newObj_type (wpAny_pure ⟨_, rfl, wpAny_pure h⟩) hk))
end
section
variable {X : Cx}
section
variable {X : Cx}
/-- what reading a value backwards gives, by values; the slice object is made already and lies at sl -/
def BackR (X : Cx) (r : V → Hp → VK → Prop) : Prop :=
  ∀ {pins : List (Addr × Obj)} {s : Shared} {σ : L2.St} {H : Hp} {x : V} {v : Value} {sl : Addr} {t : Tok} {Q : VK}, L2.Inv X pins σ H s → RelV x v → s.heap.IsSliceOf sl .none .none (.int (-1) t) → r x H Q →
    ∃ (T : String) (id : String), s.TypeIs v T ∧ typeLookup (.type T) "__getitem__" = pure (some (.builtin id)) ∧ wpAny (model X.prog X.w) X.A (getItem v (.ref sl)) (EP X pins σ Q) X.xe s
/-- the slice object of [::-1] comes to lie somewhere, and nothing else is seen of it -/
theorem slice_back {k : Nat} {p1 p2 p3 : Pos} {pins : List (Addr × Obj)} {s : Shared} {σ : L2.St} {H : Hp} {Q : Value → Shared → Prop} (I : L2.Inv X pins σ H s)
    (h : ∀ (t : Tok) (sl : Addr) (s' : Shared), L2.Inv X pins σ H s' → s'.heap.IsSliceOf sl .none .none (.int (-1) t) → Q (.ref sl) s') :
    wpAny (model X.prog X.w) X.A (eval (.Slice none none (some (.UnaryOp .USub (.Constant (.int 1) k p1) p2)) p3) X.env) Q X.xe s := by
  apply wpAny_Slice
  simp only [evalPart_none, evalPart_some]
  have minus : PE X (.UnaryOp .USub (.Constant (.int 1) k p1) p2) _ := pe_un un_neg pe_int
  refine wpAny_pure (wpAny_pure (wpAny_mono (minus.run pins s σ H (fun x H' => x = .int (-1) ∧ H' = H) I ⟨1, rfl, rfl, rfl⟩) (fun v s' got => ?_) fun _ _ z => z))
  obtain ⟨x, H', I', rel, rfl, rfl⟩ := got
  obtain ⟨t, rfl⟩ := rel
  exact h t _ _ (I'.kept (t' := s'.toks) fun b o e => Heap.get?_push_of_some _ e) (Heap.IsSliceOf.new ..)
/-- e[::-1], by what reading its value backwards gives -/
theorem pe_back {e : Expr} {te : TE} {r : V → Hp → VK → Prop} {k : Nat} {p1 p2 p3 pos : Pos} (hr : BackR X r) (he : PE X e te) :
    PE X (.Subscript e (.Slice none none (some (.UnaryOp .USub (.Constant (.int 1) k p1) p2)) p3) pos) (fun σ H Q => te σ H fun x H1 => r x H1 Q) :=
  ⟨fun pins s σ H Q I h => Subscript_ (wpAny_mono (he.run pins s σ H _ I h) (fun v _ ⟨_, _, I1, rx, q⟩ => slice_back I1 fun _ sl _ I2 at_ =>
    let ⟨_, _, ty, lk, got⟩ := hr I2 rx at_ q
    tail_any (ops := [v, .ref sl]) ty lk got (by with_unfolding_all rfl)) fun _ _ z => z)⟩
def rBackL (K : PySem.W.Frag) : V → Hp → VK → Prop := fun x H Q => ∃ a xs, x = .ref a ∧ SqL K H a xs ∧ ∀ p, H p = none → Q (.ref p) (upd H p (.lst xs.reverse))
def rBackT (K : PySem.W.Frag) : V → Hp → VK → Prop := fun x H Q => ∃ a xs, x = .ref a ∧ SqT K H a xs ∧ ∀ p, H p = none → Q (.ref p) (upd H p (.tup xs.reverse))
theorem back_list : BackR X (rBackL X.K) := fun {pins s σ H x v sl t Q} I rx at_ got => by
  obtain ⟨a, xs, rfl, seq, q⟩ := got
  cases rx
  obtain ⟨its, vals, lies, le⟩ := I.list seq
  have le' : its.toArray.size ≤ sizeLine := by have := vals.length; rw [List.size_toArray]; omega
  refine ⟨"list", _, lies.isList.typeIs, PySem.slot_list_getitem.lookup, wpAny_getItem_list_slice lies.isList at_ .none .none (.int _ _) nofun ?_ le'⟩
  rw [PySem.W.krv_pick]
  exact ⟨.ref _, _, I.laid (t' := s.toks) (o := .lst xs.reverse) (fun b o e => Heap.get?_push_of_some _ e) (Nat.le_refl _) ⟨by rwa [List.length_reverse], _, 0, vals.reverse, Heap.get?_push_size _ rfl⟩, rfl, q _ (I.hok.fresh (Nat.le_refl _))⟩
theorem back_tup : BackR X (rBackT X.K) := fun {pins s σ H x v sl t Q} I rx at_ got => by
  obtain ⟨a, xs, rfl, seq, q⟩ := got
  cases rx
  obtain ⟨its, vals, lies, le⟩ := I.tuple seq
  have le' : its.toArray.size ≤ sizeLine := by have := vals.length; rw [List.size_toArray]; omega
  have fits : xs.reverse.length ≤ sizeLine := by have := vals.length; rw [List.length_reverse]; rw [List.size_toArray] at le'; omega
  have pair : IsTup s.heap a its.toArray := lies
  exact ⟨"tuple", _, pair.typeIs, PyProof.Rows.slot_tuple_getitem.lookup, getItem_tuple_rev pair at_ ⟨.ref _, _, I.laid (t' := s.toks) (o := .tup xs.reverse) (fun b o e => Heap.get?_push_of_some _ e) (Nat.le_refl _)
    ⟨fits, _, vals.reverse, _, Heap.get?_push_size _ rfl, rfl, _, rfl⟩, rfl, q _ (I.hok.fresh (Nat.le_refl _))⟩ le'⟩
/-- x[::-1], a list or a tuple -/
theorem pe_rev {e : Expr} {te : TE} {k : Nat} {p1 p2 p3 pos : Pos} (he : PE X e te) : PE X (.Subscript e (.Slice none none (some (.UnaryOp .USub (.Constant (.int 1) k p1) p2)) p3) pos)
    (fun σ H Q => te σ H fun x H1 => ∃ a xs, x = .ref a ∧ ((SqL X.K H1 a xs ∧ ∀ p, H1 p = none → Q (.ref p) (upd H1 p (.lst xs.reverse))) ∨ (SqT X.K H1 a xs ∧ ∀ p, H1 p = none → Q (.ref p) (upd H1 p (.tup xs.reverse))))) :=
  pe_back (r := fun x H Q => ∃ a xs, x = .ref a ∧ ((SqL X.K H a xs ∧ ∀ p, H p = none → Q (.ref p) (upd H p (.lst xs.reverse))) ∨ (SqT X.K H a xs ∧ ∀ p, H p = none → Q (.ref p) (upd H p (.tup xs.reverse)))))
    (fun I rx at_ ⟨a, xs, e, q⟩ => q.elim (fun ⟨z, q⟩ => back_list I rx at_ ⟨a, xs, e, z, q⟩) fun ⟨z, q⟩ => back_tup I rx at_ ⟨a, xs, e, z, q⟩) he
end
end
/-! rules -/
section
variable {X : Cx} {fx : Fx} {m : Type → Type} [Mo m] {G : List Sl} {α β : Type} {kk : Nat} {a b e : Expr} {rest : List Stmt} {ex : α → List Sl} {exb : β → List Sl} {pos p1 p2 p3 : Pos} {x : m D} {ys : m (List D)}
def revD : D → Option D
  | .lst ds => some (.lst ds.reverse)
  | .tup ds => some (.tup ds.reverse)
  | _ => none
theorem de_rev {k : Nat} (he : PE X e (tE X.K X.mg fx G x)) : PE X (.Subscript e (.Slice none none (some (.UnaryOp .USub (.Constant (.int 1) k p1) p2)) p3) pos) (tE X.K X.mg fx G (do let d ← x; ask (revD d))) :=
  peI (pe_rev he) fun σ H Q ⟨Hf, s, h⟩ =>
  (h.bind.mono fun v H1 ⟨d, Hf1, s1, sb, r, h1⟩ => by
    obtain ⟨e, q0, q⟩ := h1.ask
    cases d with
    | lst ds =>
      cases q0
      obtain ⟨hz, a, vs, rfl, t, l⟩ := r
      refine ⟨a, vs, rfl, .inl ⟨.inl (.inl (h1.1.top _ _ t)), fun p hp => q _ _ _ (.new h1.1.top hp) ⟨by rw [List.length_reverse]; exact hz, p, _, rfl, upd_same, l.reverse.mono (Ste.new (bag := []) h1.1.top hp).sub⟩⟩⟩
    | tup ds =>
      cases q0
      obtain ⟨hz, a, vs, rfl, t, l⟩ := r
      refine ⟨a, vs, rfl, .inr ⟨h1.1.top.sqt t, fun p hp => q _ _ _ (.new h1.1.top hp) ⟨by rw [List.length_reverse]; exact hz, p, _, rfl, .inl (.inl upd_same), l.reverse.mono (Ste.new (bag := []) h1.1.top hp).sub⟩⟩⟩
    | _ => cases q0).to
/-! zip -/
end
end DL
namespace DL
open PySem L2
/-! ### a, b = x, y: one a datum, one an own list -/
/-! ### raise of an own error -/
section
variable {X : Cx} {fx : Fx} {m : Type → Type} [Mo m] {G : List Sl} {α β : Type} {kk : Nat} {a : Expr} {rest : List Stmt} {ex : α → List Sl} {exb : β → List Sl} {p pos pos2 : Pos} {cn f qn : Str} {C fI : Addr}
def raiseX {m : Type → Type} [Mo m] {γ : Type} (c f : Str) (d : D) : m γ := Mo.lift (R.ex ⟨c, f, d⟩)
theorem dss_raise {x : m D} (Ck : Cok X fx kk) (T : PySem.OwnX.OwnTxt X.K X.mg cn f qn C fI) (ha : PE X a (tE X.K X.mg fx G x)) (hdb : (cn == ("__debug__" : Str)) = false := by decide) (hg : Gl X cn := by rfl)
    (he : starEach (a :: []) X.env = (false, eval a X.env) :: starEach [] X.env := by rfl) (hpl : (backTo pos (starEach [] X.env)).any (·.1) = false := by rfl) (hx : GxOk fx G := by first | exact True.intro | repeat' (first | exact True.intro | exact Or.inl rfl | exact Or.inr rfl | refine And.intro ?_ ?_)) :
    PSs X (.Raise (some (.Call (.Name cn p) [a] [] pos)) none pos2 :: rest) (tS X.K X.mg fx G ex exb (do let d ← x; raiseX cn f d : m (Fl α β))) :=
  pssI (pss_cons (ps_raiseLow Ck.calm T Ck.rm Ck.tk (pa_cons ha pa_nil he) hdb hg he hpl) pss_never) fun De σ H ⟨Hf, s, h⟩ =>
    ((h.bind hx).mono fun v H1 ⟨d, Hf1, s1, sb, r, h1⟩ => by
      refine ⟨v, rfl, fun p hp => ?_⟩
      have w := Mo.wp_lift h1.2
      have e1 : Ste fx.bag Hf1 H1 (upd Hf1 p (.xd [(f, v)])) (upd H1 p (.xd [(f, v)])) := .new h1.1.top hp
      have nb := (h1.1.new0 hp).2.1
      have st2 := h1.1.step e1 (h1.1.bag.upd nb)
      exact exs_ex hx w _ _ _ _ st2 ⟨C, p, v, T.gC, rfl, rfl, upd_same, r.mono e1.sub⟩).to
end
/-- an error of the class at S is what «except S» names -/
theorem exm_self {K : PySem.W.Frag} {S : Addr} (h1 : PySem.W.subIn K (.ref S) (.type "BaseException") = some true) (h2 : PySem.W.isClsIn K S = true) (h3 : PySem.W.typeIn K (.ref S) = some (.type "type")) (h4 : PySem.W.subIn K (.ref S) (.ref S) = some true) :
    PySem.W.exmOne K (.ref S) (.ref S) = some true := by
  have e1 : (PySem.W.subIn K (.ref S) (.type "BaseException") == some true) = true := by rw [h1] <;> rfl
  have e2 : ((PySem.W.clsIn K S).isSome && PySem.W.typeIn K (.ref S) == some (.type "type")) = true := by
    have h2' : (PySem.W.clsIn K S).isSome = true := h2
    rw [h2', h3] <;> rfl
  show (if (PySem.W.subIn K (.ref S) (.type "BaseException") == some true) = true then (if ((PySem.W.clsIn K S).isSome && PySem.W.typeIn K (.ref S) == some (.type "type")) = true then PySem.W.subIn K (.ref S) (.ref S) else none) else none) = some true
  rw [if_pos e1, if_pos e2]
  exact h4
theorem exm_sub {K : PySem.W.Frag} {S Y : Addr} {b : Bool} (h1 : PySem.W.subIn K (.ref S) (.type "BaseException") = some true) (h2 : PySem.W.isClsIn K S = true) (h3 : PySem.W.typeIn K (.ref S) = some (.type "type")) (h4 : PySem.W.subIn K (.ref Y) (.ref S) = some b) :
    PySem.W.exmOne K (.ref Y) (.ref S) = some b := by
  have e1 : (PySem.W.subIn K (.ref S) (.type "BaseException") == some true) = true := by rw [h1] <;> rfl
  have e2 : ((PySem.W.clsIn K S).isSome && PySem.W.typeIn K (.ref S) == some (.type "type")) = true := by
    have h2' : (PySem.W.clsIn K S).isSome = true := h2
    rw [h2', h3] <;> rfl
  show (if (PySem.W.subIn K (.ref S) (.type "BaseException") == some true) = true then (if ((PySem.W.clsIn K S).isSome && PySem.W.typeIn K (.ref S) == some (.type "type")) = true then PySem.W.subIn K (.ref Y) (.ref S) else none) else none) = some b
  rw [if_pos e1, if_pos e2]
  exact h4
theorem kit_subT {K : PySem.W.Frag} {S : Addr} {T : String} {b : Bool} (h1 : PySem.W.kitMeta T = true) (h2 : PySem.W.subIn K (.ref S) (.type T) = some b) : PySem.W.kitOne K (.ref S) (.type T) = some b := by
  show (if (Value.ref S == Value.type T) = true then some true else (if PySem.W.kitMeta T = true then PySem.W.subIn K (.ref S) (.type T) else none)) = some b
  rw [if_neg (by intro z; cases z), if_pos h1]
  exact h2
theorem kit_subO {K : PySem.W.Frag} {S : Addr} {t : Value} {b : Bool} (h2 : PySem.W.isClsIn K S = true) (h3 : PySem.W.typeIn K (.ref S) = some (.type "type")) (h5 : PySem.W.subIn K (.ref S) (.ref S) = some true) (h4 : PySem.W.subIn K t (.ref S) = some b) : PySem.W.kitOne K t (.ref S) = some b := by
  have e2 : ((PySem.W.clsIn K S).isSome && PySem.W.typeIn K (.ref S) == some (.type "type")) = true := by
    have h2' : (PySem.W.clsIn K S).isSome = true := h2
    rw [h2', h3] <;> rfl
  show (if (t == .ref S) = true then some true else (if ((PySem.W.clsIn K S).isSome && PySem.W.typeIn K (.ref S) == some (.type "type")) = true then PySem.W.subIn K t (.ref S) else none)) = some b
  by_cases c : (t == .ref S) = true
  · have e : t = .ref S := eq_of_beq c
    subst e
    rw [if_pos c, ← h4, h5]
  · rw [if_neg c, if_pos e2]
    exact h4
end DL
namespace DL
open PySem L2
/-! ### try, except -/
abbrev Fx.tried (fx : Fx) (W : WX) (B : Hp) (g : List Sl) : Fx := { fx with Hf0 := B, W := W, gx := some g }
section
variable {K : PySem.W.Frag} {mg : Str → Option Value} {fx : Fx} {Hf H : Hp} {σ : L2.St} {G : List Sl} {s : S}
theorem StS.tried (st : StS K mg fx Hf H σ G s) (W : WX) (g : List Sl) : StS K mg (fx.tried W Hf g) Hf H σ G s := ⟨⟨.refl _, st.top, st.ste.keep, st.ste.dom, fun _ _ e => .inl e⟩, st.bag, st.bagg, st.len, fun i x e => by
  have so := st.sl i x e
  cases x with
  | un => trivial
  | im d => exact so
  | ow ds => exact so
  | od ks ds => exact so
  | ob ns ds => exact so
  | bg => exact so, st.dis⟩
theorem Ste.back {bag : List Addr} {Hf0 H0 Hf H Hf' H' : Hp} (a : Ste bag Hf0 H0 Hf H) (b : Ste bag Hf H0 Hf' H') : Ste bag Hf0 H0 Hf' H' := ⟨a.sub.trans b.sub, b.top, b.keep, b.dom, fun x o e => by
  rcases b.fresh x o e with h | h
  · exact a.fresh x o h
  · exact .inr h⟩
theorem StS.back {Hf1 H1 : Hp} {σ1 : L2.St} {G1 : List Sl} {s1 : S} {W : WX} {g : List Sl} (st : StS K mg fx Hf H σ G s) (st1 : StS K mg (fx.tried W Hf g) Hf1 H1 σ1 G1 s1) : StS K mg fx Hf1 H1 σ1 G1 s1 := ⟨st.ste.back st1.ste, st1.bag, st1.bagg, st1.len, fun i x e => by
  have so := st1.sl i x e
  cases x with
  | un => trivial
  | im d => exact so
  | ow ds => exact so
  | od ks ds => exact so
  | ob ns ds => exact so
  | bg => exact so, st1.dis⟩
/-- a forgotten slot is emptied -/
theorem StS.empty (st : StS K mg fx Hf H σ G s) {i : Nat} (hi : G[i]? = some .un) : StS K mg fx Hf H (σ.set i none) G s := by
  refine ⟨st.ste, st.bag, st.bagg, by simpa using st.len, fun j x e => ?_, fun j k x y p hjk ex ey ox oy e1 e2 => ?_⟩
  · by_cases q : i = j
    · subst q
      rw [hi] at e
      cases e
      trivial
    · rw [List.getElem?_set_ne q]
      exact st.sl j x e
  · have nj : i ≠ j := fun z => by subst z; rw [hi] at ex; cases ex; cases ox
    have nk : i ≠ k := fun z => by subst z; rw [hi] at ey; cases ey; cases oy
    rw [List.getElem?_set_ne nj] at e1
    rw [List.getElem?_set_ne nk] at e2
    exact st.dis j k x y p hjk ex ey ox oy e1 e2
end
theorem unNox {K : PySem.W.Frag} {mg : Str → Option Value} {fx : Fx} {Hf H : Hp} {σ : L2.St} {G : List Sl} {s : S} (st : StS K mg fx.nox Hf H σ G s) : StS K mg fx Hf H σ G s := ⟨st.ste, st.bag, st.bagg, st.len, fun i x e => by
  have so := st.sl i x e
  cases x with
  | un => trivial
  | im d => exact so
  | ow ds => exact so
  | od ks ds => exact so
  | ob ns ds => exact so
  | bg => exact so, st.dis⟩
/-- the errors that may come, and which of them a clause names -/
def Known (K : PySem.W.Frag) (mg : Str → Option Value) (L : List (Str × Str)) (c : Str) (C : Addr) : Prop := ∀ q ∈ L, ∀ C', mg q.1 = some (.ref C') → PySem.W.exmOne K (.ref C') (.ref C) = some (decide (q.1 = c))
section
variable {X : Cx} {fx : Fx} {m : Type → Type} [Mo m] {G G' : List Sl} {α β ε : Type} {kk : Nat} {body suite rest : List Stmt} {b0 : Stmt} {exA : ε → List Sl} {ex : α → List Sl} {exb : β → List Sl} {xb : m (Fl ε β)} {xs : D → m (Fl ε β)} {k : ε → m (Fl α β)} {x n : Str} {np pos pos' : Pos} {C : Addr} {L : List (Str × Str)} {f0 : Str}
/-- the caught error's field -/
theorem de_exf {fx : Fx} {G : List Sl} {cn f qn : Str} {C fI a dd : Addr} {oe : Obj} {pn : List (Addr × Obj)} {d : D} {n : Str} {p pos : Pos} (T : PySem.OwnX.OwnTxt X.K X.mg cn f qn C fI) (hz : Zc (.ref C) (some dd) oe) (hf : ∃ vs, oe.data = .fields vs) (i : Nat) (hG : G[i]? = some (.im (.xc a dd f d)) := by rfl)
    (hN : X.N[i]? = some n := by rfl) (hv : Vis X.env.scope n := by first | exact Or.inl rfl | exact Or.inr (Or.inl rfl) | exact Or.inr (Or.inr rfl)) (hd : (n == ("__debug__" : Str)) = false := by decide) (hcd : (n == ("__classdict__" : Str)) = false := by decide)
    (hb : attributeBase (.Name n p) f X.env (eval (.Name n p) X.env) = eval (.Name n p) X.env := by rfl) :
    PE (X.suite a ((a, oe) :: pn)) (.Attribute (.Name n p) f pos) (tE (X.suite a ((a, oe) :: pn)).K (X.suite a ((a, oe) :: pn)).mg fx G (pure d : m D)) :=
  peI (pe_byLow T hz hf (pe_var (X := X.suite a ((a, oe) :: pn)) hN hv hd hcd) hb) fun σ H Q ⟨Hf, s, h⟩ => by
    obtain ⟨v, ev, e, u, hu, iu⟩ := h.1.sl i _ hG
    subst e
    exact ⟨.ref a, ev, rfl, rfl, dd, u, rfl, h.1.top _ _ hu, h.pure iu⟩
end
end DL
namespace DL
open PySem L2
/-! ### text methods -/
theorem spl_len (S : List Nat) : ∀ (l : List Nat) (k : Nat) (acc : List Nat), (∀ p ∈ TL.spl S k acc l, p.length ≤ acc.length + l.length) ∧ (TL.spl S k acc l).length ≤ l.length + 1
  | [], k, acc => by
    rw [TL.spl_nil]
    simp
  | c :: r, 0, acc => by
    by_cases h : TL.pre S (c :: r) = true
    · rw [TL.spl_hit h]
      obtain ⟨h1, h2⟩ := spl_len S r (S.length - 1) []
      refine ⟨fun p hp => ?_, by rw [List.length_cons, List.length_cons]; omega⟩
      rcases List.mem_cons.mp hp with rfl | hp
      · omega
      · have := h1 p hp
        rw [List.length_nil] at this
        rw [List.length_cons]
        omega
    · rw [TL.spl_miss (by simpa using h)]
      obtain ⟨h1, h2⟩ := spl_len S r 0 (acc ++ [c])
      refine ⟨fun p hp => ?_, by rw [List.length_cons]; omega⟩
      have := h1 p hp
      rw [List.length_append, List.length_singleton] at this
      rw [List.length_cons]
      omega
  | c :: r, k + 1, acc => by
    have e : TL.spl S (k + 1) acc (c :: r) = TL.spl S k acc r := rfl
    rw [e]
    obtain ⟨h1, h2⟩ := spl_len S r k acc
    refine ⟨fun p hp => ?_, by rw [List.length_cons]; omega⟩
    have := h1 p hp
    rw [List.length_cons]
    omega
def splitD (a b : D) : Option (List D) := match a, b with
  | .str z, .str [c] => if c < 256 ∧ z.length ≤ 1000000 then some ((TL.spl [c] 0 [] z).map .str) else none
  | _, _ => none
theorem isL_strsV {K : PySem.W.Frag} {mg : Str → Option Value} {H : Hp} : ∀ {ps : List (List Nat)}, (∀ p ∈ ps, p.length ≤ sizeLine) → IsL K mg H (ps.map .str) (ps.map fun p => V.str ⟨p.toArray⟩)
  | [], _ => rfl
  | p :: ps, h => ⟨_, _, rfl, ⟨rfl, h p (.head _)⟩, isL_strsV fun q m => h q (.tail _ m)⟩
section
variable {X : Cx} {fx : Fx} {m : Type → Type} [Mo m] {G : List Sl} {o e : Expr} {apos pos : Pos} {x y : m D}
theorem df_split (ho : PE X o (tE X.K X.mg fx G x)) (he : PE X e (tE X.K X.mg fx G y)) (hs : starEach [e] X.env = [(false, eval e X.env)] := by rfl) (hbase : attributeBase o "split" X.env (eval o X.env) = eval o X.env := by rfl) (hline : (apos.endLine == pos.line) = true := by rfl) :
    PE X (.Call (.Attribute o "split" apos) [e] [] pos) (tF X.K X.mg fx G (do let u ← x; let _ ← ask (strOf u); let v ← y; ask (splitD u v))) := peI (pe_split ho he hs hbase hline) fun σ H Q ⟨Hf, s, st, w⟩ =>
  ⟨Hf, s, st, Mo.wp_mono (Mo.wp_bind w) (fun d1 s1 k v1 Hf1 H1 e1 bg1 r1 => by
    have k' := Mo.wp_lift (Mo.wp_bind k)
    have st1 := st.step e1 bg1
    cases d1 with
    | str z =>
      obtain ⟨rfl, hz1⟩ := r1
      refine ⟨⟨_, rfl⟩, Hf1, s1, st1, Mo.wp_mono (Mo.wp_bind k') (fun d2 s2 k2 v2 Hf2 H2 e2 bg2 r2 => ?_) fun e s' k => k⟩
      have k3 := Mo.wp_lift k2
      cases hsp : splitD (.str z) d2 with
      | none => rw [hsp] at k3; exact k3.elim
      | some ds =>
        rw [hsp] at k3
        unfold splitD at hsp
        split at hsp
        · rename_i z' c hz'
          cases hz'
          split at hsp
          · rename_i hc
            cases hsp
            obtain ⟨rfl, _⟩ := r2
            have hsz : sizeLine = 16777216 := sizeLine_eq
            have hk : (⟨#[c]⟩ : Str).cps.all (· < 256) = true := by simpa using hc.1
            have es := TL.split_spl ⟨z.toArray⟩ ⟨#[c]⟩ (by simp [TL.tl]) (TL.kind_ok hk)
            have es' : Txt.split ⟨z.toArray⟩ ⟨#[c]⟩ = (TL.spl [c] 0 [] z).map fun p => (⟨p.toArray⟩ : Str) := by
              have e3 : (TL.spl (TL.tl ⟨#[c]⟩) 0 [] (TL.tl ⟨z.toArray⟩)) = TL.spl [c] 0 [] z := by simp [TL.tl]
              rw [e3] at es
              rw [← es, List.map_map]
              conv => lhs; rw [← List.map_id (Txt.split ⟨z.toArray⟩ ⟨#[c]⟩)]
              exact List.map_congr_left fun p _ => (TL.mk_tl p).symm
            obtain ⟨h1, h2⟩ := spl_len [c] z 0 []
            refine ⟨⟨z.toArray⟩, ⟨#[c]⟩, rfl, rfl, rfl, by rw [str_len]; omega, fun p hp => ?_⟩
            rw [es', List.map_map]
            have hn : H p = none := by
              cases q : H p with
              | none => rfl
              | some o => exact absurd hp ((e1.trans e2).dom p (by rw [q]; simp))
            have st2 := st1.step e2 bg2
            have n2 := st2.new0 hp
            exact k3 p _ Hf2 _ ((e1.trans e2).upd hn n2.2.2) (bg2.upd n2.2.1) upd_same n2.2.2 hn (isL_strsV fun q m => by have := h1 q m; simp at this; omega) (by rw [List.length_map]; omega)
          · cases hsp
        · cases hsp
    | _ => exact k'.elim) fun e s' k => k⟩
/-- a text method of one text that answers at once -/
def strM (g : List Nat → List Nat → D) (a b : D) : Option D := match a, b with
  | .str x, .str y => some (g x y)
  | _, _ => none
theorem de_starts (ho : PE X o (tE X.K X.mg fx G x)) (he : PE X e (tE X.K X.mg fx G y)) (hs : starEach [e] X.env = [(false, eval e X.env)] := by rfl) (hbase : attributeBase o "startswith" X.env (eval o X.env) = eval o X.env := by rfl) (hline : (apos.endLine == pos.line) = true := by rfl) :
    PE X (.Call (.Attribute o "startswith" apos) [e] [] pos) (tE X.K X.mg fx G (do let u ← x; let _ ← ask (strOf u); let v ← y; ask (strM (fun a b => .bl (Txt.startswith ⟨a.toArray⟩ ⟨b.toArray⟩)) u v))) :=
  peI (pe_m1 PySem.F.slot_str_startswith PySem.F.type_str_startswith mt_startswith ho he hs hbase hline) fun σ H Q ⟨Hf, s, h⟩ =>
  (h.bind.mono fun v1 H1 ⟨d1, Hf1, s1, sb1, r1, h1⟩ => by
    have k := Mo.wp_lift (Mo.wp_bind h1.2)
    cases d1 with
    | str S =>
      obtain ⟨rfl, hz1⟩ := r1
      refine ⟨⟨_, rfl⟩, ?_⟩
      have h2 : tX X.K X.mg fx G (fun H d v => Is X.K X.mg H d v) (do let v ← y; ask (strM (fun a b => .bl (Txt.startswith ⟨a.toArray⟩ ⟨b.toArray⟩)) (.str S) v) : m D) Hf1 s1 σ H1 Q := ⟨h1.1, k⟩
      refine (h2.bind.mono fun v2 H2 ⟨d2, Hf2, s2, sb2, r2, h3⟩ => ?_).to
      obtain ⟨d, e, q⟩ := h3.ask
      cases d2 with
      | str T =>
        cases e
        obtain ⟨rfl, _⟩ := r2
        exact ⟨_, _, rfl, rfl, q _ Hf2 H2 (.refl h3.1.top) (is_bl _)⟩
      | _ => cases e
    | _ => exact k.elim).to
end
end DL
/-! ### try with several clauses, each with a name or without -/
namespace DL
open PySem PySem.Spec PyProof.Rows L2
abbrev Clause := Value × Option Nat × (Addr → Value → Option Addr → TS)
/-- the ends of a suite whose name is let go -/
def goneE (i : Nat) (De : Ends) : Ends := { nx := fun σ' H' => De.nx (σ'.set i none) H', rt := De.rt, bk := fun σ' H' => De.bk (σ'.set i none) H', ct := fun σ' H' => De.ct (σ'.set i none) H' }
def wCl (De : Ends) (σ : L2.St) (H : Hp) (cls : Value) (d : Option Addr) (a : Addr) : Option Nat × (Addr → Value → Option Addr → TS) → Prop
  | (some i, ts) => ts a cls d (goneE i De) (σ.set i (some (.ref a))) H
  | (none, ts) => ts a cls d De σ H
def wCls (K : PySem.W.Frag) (Wout : WX) (De : Ends) : List Clause → WX
  | [] => Wout
  | (c, p) :: r => fun cls d σ H => ∃ b, PySem.W.exmOne K cls c = some b ∧ (b = true → ∀ a, H a = none → wCl De σ H cls d a p) ∧ (b = false → wCls K Wout De r cls d σ H)
inductive HdC (X : Cx) : List ExceptHandler → List Clause → Prop
  | nil : HdC X [] []
  | named {x n : Str} {i : Nat} {c : Value} {ts : Addr → Value → Option Addr → TS} {b0 : Stmt} {suite : List Stmt} {np pos : Pos} {hds : List ExceptHandler} {l : List Clause} (hc : Names X x c) (hi : X.N[i]? = some n) (hln : X.env.kindOf n = some .local)
      (hsu : ∀ (a : Addr) (oe : Obj) (cls : Value) (d : Option Addr) (pn : List (Addr × Obj)), Zc cls d oe → (∃ vs, oe.data = .fields vs) → PSs (X.suite a ((a, oe) :: pn)) (b0 :: suite) (ts a cls d)) (r : HdC X hds l) :
      HdC X (.ExceptHandler (some (.Name x np)) (some n) (b0 :: suite) pos :: hds) ((c, some i, ts) :: l)
  | plain {x : Str} {c : Value} {ts : Addr → Value → Option Addr → TS} {b0 : Stmt} {suite : List Stmt} {np pos : Pos} {hds : List ExceptHandler} {l : List Clause} (hc : Names X x c)
      (hsu : ∀ (a : Addr) (oe : Obj) (cls : Value) (d : Option Addr) (pn : List (Addr × Obj)), Zc cls d oe → (∃ vs, oe.data = .fields vs) → PSs (X.suite a ((a, oe) :: pn)) (b0 :: suite) (ts a cls d)) (r : HdC X hds l) :
      HdC X (.ExceptHandler (some (.Name x np)) none (b0 :: suite) pos :: hds) ((c, none, ts) :: l)
section
variable {X : Cx} {body : List Stmt} {h0 : ExceptHandler} {hds : List ExceptHandler} {l : List Clause} {pos : Pos} {tb : WX → TS} {Wout : WX}
/-- the exception at a has landed before the clauses; sI is what the body left behind, s the state as it is now -/
structure Stood (X : Cx) (pins : List (Addr × Obj)) (Z : Obj → Prop) (σ : L2.St) (H : Hp) (a : Addr) (B : Heap) (sI s : Shared) : Prop where
  left : L2.Inv X pins σ H sI
  apart : ∀ b o, sI.heap.get? b = some o → b ∉ frs X.stack → B.get? b = some o
  since : sI.heap.UpToSlots s.heap
  fly : HandSPX.FlyingZ B (X.env :: X.outer) a Z s.heap
  free : H a = none
  os : s.os = sI.os
  bare : AllBare s.gens
section
variable {X : Cx} {pins : List (Addr × Obj)} {Z : Obj → Prop} {σ : L2.St} {H : Hp} {a : Addr} {B : Heap} {sI s : Shared}
namespace Stood
/-- the def's state holds, too -/
theorem inv (S : Stood X pins Z σ H a B sI s) : L2.Inv X pins σ H s := S.left.landed S.apart S.fly.1 S.since S.os S.bare
/-- other places of the heap have changed -/
theorem moved (S : Stood X pins Z σ H a B sI s) {h : Heap} (f : HandSPX.FlyingZ B (X.env :: X.outer) a Z h) (up : s.heap.UpToSlots h) : Stood X pins Z σ H a B sI { s with heap := h } :=
  { left := S.left, apart := S.apart, since := S.since.trans up, fly := f, free := S.free, os := S.os, bare := S.bare }
/-- the record of the exception is no frame -/
theorem noFrame (S : Stood X pins Z σ H a B sI s) : a ∉ frs (X.env :: X.outer) := by
  intro isFrame
  obtain ⟨oe, vs, lies, _, rec⟩ := S.fly.there
  obtain ⟨-, o, lies', notRec⟩ := S.fly.2.2.1.mem isFrame
  cases lies.symm.trans lies'
  exact notRec vs rec
theorem notOwn (S : Stood X pins Z σ H a B sI s) (hf : X.env.frame = some X.env.locals) : a ≠ X.env.locals := by
  rintro rfl
  exact S.noFrame (List.mem_filterMap.mpr ⟨X.env, by simp, hf⟩)
theorem notOuter (S : Stood X pins Z σ H a B sI s) : a ∉ X.fs := by
  intro m
  obtain ⟨env, k, e⟩ := List.mem_filterMap.mp m
  exact S.noFrame (List.mem_filterMap.mpr ⟨env, by simp [k], e⟩)
/-- the clause's own context -/
theorem enter (S : Stood X pins Z σ H a B sI s) (hf : X.env.frame = some X.env.locals) :
    ∃ oe, Z oe ∧ (∃ vs, oe.data = .fields vs) ∧ s.heap.get? a = some oe ∧ L2.Inv (X.suite a ((a, oe) :: (X.pn ++ pins))) [] σ H s :=
  let ⟨oe, vs, lies, z, rec⟩ := S.fly.there
  ⟨oe, z, ⟨vs, rec⟩, lies, S.inv.suite lies rec S.free (S.notOwn hf) S.notOuter⟩
/-- a class is read by its name -/
theorem word (S : Stood X pins Z σ H a B sI s) (hf : X.env.frame = some X.env.locals) {x : Str} {c : Value} {np : Pos} (nm : Names X x c) {Q E : Value → Shared → Prop} (q : Q c s) :
    wpAny (model X.prog X.w) (X.A.mark (some (.ref a))) (eval (.Name x np) X.env) Q E s := by
  obtain ⟨oe, -, -, -, I⟩ := S.enter hf
  obtain ⟨gl, nd, own | ⟨noOwn, boot, ne⟩⟩ := nm
  · exact ld_glob I gl own q nd
  · exact ld_blt I gl noOwn boot q ne nd
/-- a clause asks whether the exception is one of its class -/
theorem asked {cls c : Value} {b : Bool} (S : Stood X pins Z σ H a B sI s) (hZ : ∀ o, Z o → o.cls = cls) (is : PySem.W.exmOne X.K cls c = some b) {A : Around} {Q : Bool → Shared → Prop} {E : Value → Shared → Prop} (q : Q b s) :
    wpAny (model X.prog X.w) A (excMatches (.ref a) c) Q E s := by
  obtain ⟨oe, vs, lies, z, rec⟩ := S.fly.there
  exact (PySem.W.exm_one S.inv.kIn (fun _ _ _ t keeps q' => wpAny_typeOf_ref (keeps _ _ lies) (by rwa [hZ oe z])) is).here q
/-- no clause is left: the exception goes on -/
theorem on (S : Stood X pins Z σ H a B sI s) (hf : X.env.frame = some X.env.locals) {De : Ends}
    (out : ∀ h, HandSPX.HeldZ B (X.env :: X.outer) a Z X.env.locals h → s.heap.UpToSlots h → X.xe (.ref a) { s with heap := h }) :
    wpAny (model X.prog X.w) X.A (handleBy (.ref a) X.env []) (SP X pins De) X.xe s := by
  have flies : wpAny (model X.prog X.w) X.A (setFlight (.ref a) X.env.frame) (fun _ s' => wpAny (model X.prog X.w) X.A (throw (.ref a) : Sem Flow) (SP X pins De) X.xe s') X.xe s := by
    rw [hf]
    exact HandSPX.setFlight_upZ S.fly fun h held up => wpAny_throw (out h held up)
  obtain ⟨-, -, -, oe, vs, T, -, -, lies, -, rec, tb, -⟩ := id S.fly
  apply wpAny_handleBy_nil
  simp only [PySem.passOn]
  refine wpAny_bind (wpAny_field lies rec tb ?_)
  have hasTb : (Value.ref T == Value.none) = false := rfl
  rw [hasTb]
  first
    | exact wpAny_bind (wpAny_pure (wpAny_bind flies))
    | exact wpAny_bind flies
end Stood
/-- two contexts whose states are alike end alike -/
theorem SP.carry {Y : Cx} {pins' : List (Addr × Obj)} {De : Ends} {f : Flow} {s' : Shared} (h : SP Y pins' De f s') (c : ∀ {σ : L2.St} {H : Hp}, L2.Inv Y pins' σ H s' → L2.Inv X pins σ H s') : SP X pins De f s' := by
  unfold SP at h ⊢
  split at h
  all_goals first
    | (obtain ⟨σ1, H1, I, q⟩ := h; exact ⟨σ1, H1, c I, q⟩)
    | (obtain ⟨v, σ1, H1, I, r, q⟩ := h; exact ⟨v, σ1, H1, c I, r, q⟩)
/-- an exception of a body comes before the clauses -/
theorem stand {W : WX} {xe : Value → Shared → Prop} {hds : List ExceptHandler} {De : Ends} {u : Value} {s' : Shared} (hs : X.stack = X.env :: X.outer) (hf : X.env.frame = some X.env.locals) (ok : X.Ok) (xx : L2.XE (X.tr (X.pn ++ pins) xe) W u s')
    (go : ∀ (a : Addr) (B : Heap) (sI s : Shared) (σ : L2.St) (H : Hp) (cls : Value) (d : Option Addr), Stood X pins (Zc cls d) σ H a B sI s → W cls d σ H → wpAny (model X.prog X.w) X.A (handleBy (.ref a) X.env hds) (SP X pins De) X.xe s) :
    wpAny (model X.prog X.w) X.A (noteFrame u X.env) (fun _ s2 => wpAny (model X.prog X.w) X.A (setFlight u none) (fun _ s3 => wpAny (model X.prog X.w) X.A (handleBy u X.env hds) (SP X pins De) X.xe s3) X.xe s2) X.xe s' := by
  obtain ⟨a, B, sI, pins', σ, H, cls, d, rfl, I, apart, since, sky, free, os, bare, w⟩ := xx
  have sky' : L2.Sky B (X.env :: X.outer) a (Zc cls d) X.env.locals s'.heap := hs ▸ sky
  exact L2.Sky.land Zc.steady (by rw [ok.frames, hs]) hf sky' fun h f up => go a B sI _ σ H cls d ⟨I.ofTry ok, apart, since.trans up, f, free, os, bare⟩ w
end
section
variable {X : Cx} {pins : List (Addr × Obj)} {Z : Obj → Prop} {σ : L2.St} {H : Hp} {a : Addr} {B : Heap} {sI s : Shared} {De : Ends}
/-- the suite of a clause with a name runs, and the name goes -/
theorem suite_named {n : Str} {i : Nat} {pos' : Pos} {b0 : Stmt} {suite : List Stmt} {ts : TS} {R : Result → Shared → Prop} {E : Value → Shared → Prop} (S : Stood X pins Z σ H a B sI s) (ok : X.Ok) (hN : X.N.Nodup) (hf : X.env.frame = some X.env.locals) (hi : X.N[i]? = some n) (hln : X.env.kindOf n = some .local)
    (hsu : ∀ oe : Obj, Z oe → (∃ vs, oe.data = .fields vs) → PSs (X.suite a ((a, oe) :: (X.pn ++ pins))) (b0 :: suite) ts) (w : ts (goneE i De) (σ.set i (some (.ref a))) H)
    (hR : ∀ f s', (wpAny (model X.prog X.w) X.A (do bindName X.env n .none; unbindBehindTheSuite X.env n pos') (fun _ s7 => SP X pins De f s7) E s') → R (.ok f) s') :
    codeAny (model X.prog X.w) (X.A.mark (some (.ref a))) (.handlers (.ref a) [.ExceptHandler none (some n) (b0 :: suite) pos'] X.env) R s := by
  refine codeAny_handlers_suite_as (HandSPX.lands_againZ S.fly fun h f up => ?_)
  obtain ⟨oe, z, rec, -, I⟩ := (S.moved f up).enter hf
  refine store_ok (X := X.suite a ((a, oe) :: (X.pn ++ pins))) (v := .ref a) I hN hi (.inl hln) rfl (fun s5 I5 => ?_) (.inr hln)
  refine wpAny_mono ((hsu oe z rec).run [] s5 _ H _ I5 w) (fun fl s6 ends => hR fl s6 ?_) fun _ _ none => False.elim none
  have back : ∀ {σ6 : L2.St} {H6 : Hp} {Q : Shared → Prop}, L2.Inv (X.suite a ((a, oe) :: (X.pn ++ pins))) [] σ6 H6 s6 → (∀ s7, L2.Inv X pins (σ6.set i none) H6 s7 → Q s7) → wpAny (model X.prog X.w) X.A (do bindName X.env n .none; unbindBehindTheSuite X.env n pos') (fun _ s7 => Q s7) E s6 :=
    fun I6 q => gone_ok (I6.unsuite ok) hN hi hln q
  unfold SP at ends ⊢
  split at ends
  all_goals first
    | (obtain ⟨σ6, H6, I6, q⟩ := ends; exact back I6 fun _ I7 => ⟨_, _, I7, q⟩)
    | (obtain ⟨v, σ6, H6, I6, r, q⟩ := ends; exact back I6 fun _ I7 => ⟨v, _, _, I7, r, q⟩)
/-- the suite of a clause without a name runs -/
theorem suite_plain {pos' : Pos} {b0 : Stmt} {suite : List Stmt} {ts : TS} {R : Result → Shared → Prop} (S : Stood X pins Z σ H a B sI s) (ok : X.Ok) (hf : X.env.frame = some X.env.locals)
    (hsu : ∀ oe : Obj, Z oe → (∃ vs, oe.data = .fields vs) → PSs (X.suite a ((a, oe) :: (X.pn ++ pins))) (b0 :: suite) ts) (w : ts De σ H) (hR : ∀ f s', SP X pins De f s' → R (.ok f) s') :
    codeAny (model X.prog X.w) (X.A.mark (some (.ref a))) (.handlers (.ref a) [.ExceptHandler none none (b0 :: suite) pos'] X.env) R s := by
  refine codeAny_handlers_suite (HandSPX.lands_againZ S.fly fun h f up => ?_)
  obtain ⟨oe, z, rec, -, I⟩ := (S.moved f up).enter hf
  exact wpAny_mono ((hsu oe z rec).run [] _ σ H _ I w) (fun fl s6 ends => hR fl s6 (SP.carry ends fun I6 => I6.unsuite ok)) fun _ _ none => False.elim none
end
section
variable {X : Cx} {pins : List (Addr × Obj)} {σ : L2.St} {H : Hp} {a : Addr} {B : Heap} {sI s : Shared} {De : Ends}
/-- one clause after the other -/
theorem clauses {Wout : WX} {cls : Value} {d : Option Addr} (ok : X.Ok) (hf : X.env.frame = some X.env.locals) (hN : X.N.Nodup) (S : Stood X pins (Zc cls d) σ H a B sI s)
    (out : Wout cls d σ H → ∀ h, HandSPX.HeldZ B (X.env :: X.outer) a (Zc cls d) X.env.locals h → s.heap.UpToSlots h → X.xe (.ref a) { s with heap := h }) :
    ∀ {hds : List ExceptHandler} {l : List Clause}, HdC X hds l → wCls X.K Wout De l cls d σ H → wpAny (model X.prog X.w) X.A (handleBy (.ref a) X.env hds) (SP X pins De) X.xe s := by
  intro hds l hh
  induction hh with
  | nil => exact fun w => S.on hf (out w)
  | named nm hi hln hsu _ ih =>
    rintro ⟨b, is, yes, no⟩
    refine wpAny_handleBy_cons (codeAny_handlers_test (S.word hf nm (S.asked (fun _ z => z.1) is ?_))) nofun
    cases b
    · exact ih (no rfl)
    · exact suite_named (ts := _) S ok hN hf hi hln (fun oe z rec => hsu a oe cls d _ z rec) (yes rfl a S.free) fun f s' z => z
  | plain nm hsu _ ih =>
    rintro ⟨b, is, yes, no⟩
    refine wpAny_handleBy_cons (codeAny_handlers_test (S.word hf nm (S.asked (fun _ z => z.1) is ?_))) nofun
    cases b
    · exact ih (no rfl)
    · exact suite_plain (ts := _) S ok hf (fun oe z rec => hsu a oe cls d _ z rec) (yes rfl a S.free) fun f s' z => z
end
section
variable {X : Cx} {body : List Stmt} {h0 : ExceptHandler} {hds : List ExceptHandler} {l : List Clause} {pos : Pos} {tb : WX → TS} {Wout : WX}
theorem ps_tryC (hs : X.stack = X.env :: X.outer) (hf : X.env.frame = some X.env.locals) (hN : X.N.Nodup) (tk : Takes X Wout)
    (hb : ∀ (W : WX) (pn : List (Addr × Obj)) (xe : Value → Shared → Prop), Takes (X.tr pn xe) W → PassesOwn (model X.prog X.w) X.A X.env xe → PSs (X.tr pn xe) body (tb W)) (hh : HdC X (h0 :: hds) l) :
    PS X (.Try body (h0 :: hds) [] [] pos) (fun De σ H => tb (wCls X.K Wout De l) De σ H) where
  run pins s σ H De I h := by
    have ok := I.ok
    refine wpAny_Try_except (wpAny_mono ((hb (wCls X.K Wout De l) (X.pn ++ pins) (fun e s1 => wpAny (model X.prog X.w) X.A (noteFrame e X.env) (fun _ s2 => wpAny (model X.prog X.w) X.A (setFlight e none) (fun _ s3 => wpAny (model X.prog X.w) X.A (handleBy e X.env (h0 :: hds)) (SP X pins De) X.xe s3) X.xe s2) X.xe s1)
      (fun u s' xx => ?_) PassesOwn.looking).run [] s σ H De (I.toTry _) h) (fun f s1 ends => ?_) fun _ _ e => e)
    · exact stand hs hf ok xx fun a B sI s2 σ2 H2 cls d S w => clauses ok hf hN S (fun out h held up => tk _ _ ⟨a, B, sI, pins, σ2, H2, cls, d, rfl, S.left, S.apart, S.since.trans up, .inr (.inr (hs ▸ held)), S.free, S.os, S.bare, out⟩) hh w
    · have ends' := SP.carry ends fun J => J.ofTry ok
      cases f
      · exact wpAny_execs_nil ends'
      all_goals exact ends'
end
end
end DL
namespace DL
open PySem L2
def pickC {m : Type → Type} [Mo m] {α β : Type} : List (Str × (D → m (Fl α β))) → Exn → m (Fl α β)
  | [], e => Mo.lift (.ex e)
  | (c, h) :: r, e => if e.c = c then Mo.noex (h e.d) else pickC r e
def tryFs {m : Type → Type} [Mo m] {α β : Type} (L : List (Str × Str)) (x : m (Fl α β)) (hs : List (Str × (D → m (Fl α β)))) : m (Fl α β) :=
  Mo.tryC x fun e => if (e.c, e.f) ∈ L then pickC hs e else Mo.lift .stuck
section
variable {X : Cx} {fx : Fx} {m : Type → Type} [Mo m] {G G' : List Sl} {α β ε : Type} {kk : Nat} {exA : ε → List Sl} {exb : β → List Sl} {L : List (Str × Str)}
/-- the clauses, read as data -/
inductive HdS (X : Cx) (fx : Fx) (L : List (Str × Str)) (G' : List Sl) {m : Type → Type} [Mo m] {ε β : Type} (exA : ε → List Sl) (exb : β → List Sl) : List ExceptHandler → List (Str × (D → m (Fl ε β))) → Prop
  | nil : HdS X fx L G' exA exb [] []
  | named {x n : Str} {C : Addr} {f0 : Str} {b0 : Stmt} {suite : List Stmt} {np pos : Pos} {hds : List ExceptHandler} {l : List (Str × (D → m (Fl ε β)))} {xs : D → m (Fl ε β)} (i : Nat) (hkn : Known X.K X.mg L x C) (hL0 : ∀ q ∈ L, q.1 = x → q.2 = f0) (hmg : X.mg x = some (.ref C)) (hun : ∀ a, (exA a)[i]? = some .un) (hunb : ∀ b, (exb b)[i]? = some .un)
      (hi : X.N[i]? = some n) (hln : X.env.kindOf n = some .local) (hg : Gl X x) (hdb : (x == ("__debug__" : Str)) = false)
      (hs : ∀ (a : Addr) (oe : Obj) (dd : Addr) (d : D) (pn : List (Addr × Obj)), Zc (.ref C) (some dd) oe → (∃ vs, oe.data = .fields vs) → PSs (X.suite a ((a, oe) :: pn)) (b0 :: suite) (tS X.K X.mg fx.nox (G'.set i (.im (.xc a dd f0 d))) exA exb (xs d))) (r : HdS X fx L G' exA exb hds l) :
      HdS X fx L G' exA exb (.ExceptHandler (some (.Name x np)) (some n) (b0 :: suite) pos :: hds) ((x, xs) :: l)
  | plain {x : Str} {C : Addr} {b0 : Stmt} {suite : List Stmt} {np pos : Pos} {hds : List ExceptHandler} {l : List (Str × (D → m (Fl ε β)))} {xs : m (Fl ε β)} (hkn : Known X.K X.mg L x C) (hmg : X.mg x = some (.ref C)) (hg : Gl X x) (hdb : (x == ("__debug__" : Str)) = false)
      (hs : ∀ (a : Addr) (oe : Obj) (pn : List (Addr × Obj)), PSs (X.suite a ((a, oe) :: pn)) (b0 :: suite) (tS X.K X.mg fx.nox G' exA exb xs)) (r : HdS X fx L G' exA exb hds l) :
      HdS X fx L G' exA exb (.ExceptHandler (some (.Name x np)) none (b0 :: suite) pos :: hds) ((x, fun _ => xs) :: l)
theorem hdS_ok {hds : List ExceptHandler} {l : List (Str × (D → m (Fl ε β)))} (hx' : GxOk fx G') (h : HdS X fx L G' exA exb hds l) : ∃ cl : List Clause, HdC X hds cl ∧ ∀ {De : Ends} {Hf Hf1 H1 : Hp} {σ1 : L2.St} {s1 : S} {e : Exn} {cls : Value} {dd : Option Addr}, Sub Hf Hf1 → StS X.K X.mg fx Hf1 H1 σ1 G' s1 → (e.c, e.f) ∈ L → ExIs X.K X.mg Hf1 H1 e cls dd →
    Mo.wp (pickC l e) s1 (FP X.K X.mg fx Hf exA exb De) (EXS X.K X.mg fx) → wCls X.K fx.W De cl cls dd σ1 H1 := by
  induction h with
  | nil => exact ⟨[], .nil, fun {De Hf Hf1 H1 σ1 s1 e cls dd} sb st hL xi w => exs_ex hx' (Mo.wp_lift w) _ _ Hf1 H1 st xi⟩
  | @named x n C f0 b0 suite np pos hds l xs i hkn hL0 hmg hun hunb hi hln hg hdb hs r ih =>
    obtain ⟨cl, hcl, hw⟩ := ih
    refine ⟨(.ref C, some i, fun a cls d De σ H => ∃ p : Addr × DL.D, cls = .ref C ∧ d = some p.1 ∧ tS X.K X.mg fx.nox (G'.set i (.im (.xc a p.1 f0 p.2))) exA exb (xs p.2) De σ H) :: cl, .named ⟨hg, hdb, .inl hmg⟩ hi hln (fun a oe cls d pn hz hf => ⟨fun pins s σ H De I ⟨p, ec, ed, q⟩ => by
      subst ec ed
      exact (hs a oe p.1 p.2 pn hz hf).run pins s σ H De I q⟩) hcl, ?_⟩
    intro De Hf Hf1 H1 σ1 s1 e cls dd sb st hL xi w
    obtain ⟨C1, p, v, m1, e1, e2, hd, is1⟩ := id xi
    subst e1 e2
    refine ⟨decide (e.c = x), hkn _ hL C1 m1, fun hb a ha => ?_, fun hb => ?_⟩
    · have ec : e.c = x := of_decide_eq_true hb
      have w' : Mo.wp (if e.c = x then Mo.noex (xs e.d) else pickC l e) s1 _ _ := w
      rw [if_pos ec] at w'
      have eC : C1 = C := by rw [ec, hmg] at m1; cases m1; rfl
      subst eC
      have ef : e.f = f0 := hL0 _ hL ec
      rw [ef] at hd
      refine ⟨(p, e.d), rfl, rfl, Hf1, s1, StS.nox (st.set (v := .ref a) (d := .xc a p f0 e.d) ⟨rfl, v, hd, is1⟩), Mo.wp_mono (Mo.wp_noex w') (fun f s2 h2 => ?_) fun _ _ z => z.elim⟩
      cases f with
      | nx a' => exact fun Hf' H' σ' sb' st' => h2 Hf' H' _ (sb.trans sb') (StS.empty (unNox st') (hun a'))
      | rt d => exact fun v Hf' H' e bg r => h2 v Hf' H' e bg r
      | bk b => exact fun Hf' H' σ' sb' st' => h2 Hf' H' _ (sb.trans sb') (StS.empty (unNox st') (hunb b))
      | ct b => exact fun Hf' H' σ' sb' st' => h2 Hf' H' _ (sb.trans sb') (StS.empty (unNox st') (hunb b))
    · have ec : ¬ e.c = x := of_decide_eq_false hb
      have w' : Mo.wp (if e.c = x then Mo.noex (xs e.d) else pickC l e) s1 _ _ := w
      rw [if_neg ec] at w'
      exact hw sb st hL xi w'
  | @plain x C b0 suite np pos hds l xs hkn hmg hg hdb hs r ih =>
    obtain ⟨cl, hcl, hw⟩ := ih
    refine ⟨(.ref C, none, fun a cls d De σ H => tS X.K X.mg fx.nox G' exA exb xs De σ H) :: cl, .plain ⟨hg, hdb, .inl hmg⟩ (fun a oe cls d pn hz hf => hs a oe pn) hcl, ?_⟩
    intro De Hf Hf1 H1 σ1 s1 e cls dd sb st hL xi w
    obtain ⟨C1, p, v, m1, e1, e2, hd, is1⟩ := id xi
    subst e1 e2
    refine ⟨decide (e.c = x), hkn _ hL C1 m1, fun hb a ha => ?_, fun hb => ?_⟩
    · have ec : e.c = x := of_decide_eq_true hb
      have w' : Mo.wp (if e.c = x then Mo.noex xs else pickC l e) s1 _ _ := w
      rw [if_pos ec] at w'
      refine ⟨Hf1, s1, StS.nox st, Mo.wp_mono (Mo.wp_noex w') (fun f s2 h2 => ?_) fun _ _ z => z.elim⟩
      cases f with
      | nx a' => exact fun Hf' H' σ' sb' st' => h2 Hf' H' _ (sb.trans sb') (unNox st')
      | rt d => exact fun v Hf' H' e bg r => h2 v Hf' H' e bg r
      | bk b => exact fun Hf' H' σ' sb' st' => h2 Hf' H' _ (sb.trans sb') (unNox st')
      | ct b => exact fun Hf' H' σ' sb' st' => h2 Hf' H' _ (sb.trans sb') (unNox st')
    · have ec : ¬ e.c = x := of_decide_eq_false hb
      have w' : Mo.wp (if e.c = x then Mo.noex xs else pickC l e) s1 _ _ := w
      rw [if_neg ec] at w'
      exact hw sb st hL xi w'
variable {body rest : List Stmt} {h0 : ExceptHandler} {hds : List ExceptHandler} {ex : α → List Sl} {xb : m (Fl ε β)} {l : List (Str × (D → m (Fl ε β)))} {k : ε → m (Fl α β)} {pos : Pos}
theorem dss_tryC (Ck : Cok X fx kk) (hst : X.stack = X.env :: X.outer) (hfr : X.env.frame = some X.env.locals)
    (hb : ∀ W pn xe B, Cok (X.tr pn xe) (fx.tried W B G') kk → PSs (X.tr pn xe) body (tS X.K X.mg (fx.tried W B G') G exA exb xb)) (hh : HdS X fx L G' exA exb (h0 :: hds) l)
    (hr : ∀ a, PSs X rest (tS X.K X.mg fx (exA a) ex exb (k a)))
    (hx' : GxOk fx G' := by first | exact True.intro | repeat' (first | exact True.intro | exact Or.inl rfl | exact Or.inr rfl | refine And.intro ?_ ?_)) :
    PSs X (.Try body (h0 :: hds) [] [] pos :: rest) (tS X.K X.mg fx G ex exb (seqF (tryFs L xb l) k)) := by
  obtain ⟨cl, hcl, hw⟩ := hdS_ok hx' hh
  refine pssI (pss_cons (ps_tryC (tb := fun W D σ H => ∃ B, tS X.K X.mg (fx.tried W B G') G exA exb xb D σ H) (Wout := fx.W) hst hfr Ck.nd Ck.tk (fun W pn xe tk hp => pss_ex fun B => hb W pn xe B ⟨Ck.calm, hp, tk, Ck.rm, Ck.nd, Ck.gd⟩) hcl) (pss_ex hr)) fun De σ H ⟨Hf, s, h⟩ => ?_
  obtain ⟨st, w⟩ := h.seq (exA := exA)
  refine ⟨Hf, Hf, s, st.tried _ _, Mo.wp_mono (Mo.wp_try w) (fun f s1 h1 => ?_) (fun e s1 h1 => ?_)⟩
  · cases f with
    | nx a => exact fun Hf' H' σ' sb st' => h1 Hf' H' σ' sb (st.back st')
    | rt d => exact fun v Hf' H' e bg r => h1 v Hf' H' (st.ste.back e) bg r
    | bk b => exact fun Hf' H' σ' sb st' => h1 Hf' H' σ' sb (st.back st')
    | ct b => exact fun Hf' H' σ' sb st' => h1 Hf' H' σ' sb (st.back st')
  · intro cls dd σ1 Hf1 H1 xs1 xi
    have st1 : StS X.K X.mg (fx.tried _ Hf G') Hf1 H1 σ1 G' s1 := xs1
    by_cases hL : (e.c, e.f) ∈ L
    · rw [if_pos hL] at h1
      exact hw st1.ste.sub (st.back st1) hL xi h1
    · rw [if_neg hL] at h1
      exact (Mo.wp_lift h1).elim
end
end DL
/-! ### isinstance of the caught error -/
namespace DL
open PySem PySem.Spec PyProof.Rows L2
def rIsX (K : PySem.W.Frag) (C a dd : Addr) (f : Str) : List V → Hp → VK → Prop := fun xs H Q => ∃ (c v : V) (cv : Value) (b : Bool), xs = [.ref a, c] ∧ ClsV c cv ∧ H dd = some (.xd [(f, v)]) ∧ PySem.W.kitOne K (.ref C) cv = some b ∧ Q (.bl b) H
theorem call_isX {X : Cx} {a C dd : Addr} {f : Str} {oe : Obj} {pn : List (Addr × Obj)} (E : ExcC X.K C) (hz : Zc (.ref C) (some dd) oe) (hf : ∃ vs, oe.data = .fields vs) : CallR (X.suite a ((a, oe) :: pn)) (.builtin "isinstance") (rIsX X.K C a dd f) := by
  intro pins s σ H xs us Q I r h
  obtain ⟨c, v, cv, b, rfl, hcv, hdd, e, q⟩ := h
  obtain ⟨u1, u2, rfl, r1, r2⟩ := vals2 r
  have e2 := hcv.eq r2
  subst e2
  cases (show u1 = Value.ref a from r1)
  obtain ⟨hget, _⟩ := I.pin (a, oe) (List.mem_append.mpr (.inl List.mem_cons_self))
  obtain ⟨vs, hv⟩ := hf
  have hx : ObjOk X.prog X.w H s.heap dd (.xd [(f, v)]) := I.hok dd _ hdd
  obtain ⟨mA, hns, hr⟩ := hx
  obtain ⟨od, ho, hl⟩ := lookIn_ns hns
  have J : PySem.W.InstAt s.heap a oe C (some od) := ⟨hget, hz.1, by unfold PySem.W.notCls; rw [hv] <;> rfl, by rw [hz.2]; exact ho⟩
  have hc : (PySem.W.clsIn X.K C).isSome = true := by
    obtain ⟨cd, hcd, _⟩ := PySem.W.any_some E.hd
    rw [hcd]
    rfl
  exact PySem.W.kia_one (PySem.W.kitx_exc hc E.hg E.hk E.hs E.ha E.hn E.ht E.hm) I.kIn J e (fun z => nomatch z) fun tk => ⟨.bl b, H, I.kept (t' := tk) fun _ _ z => z, rfl, q⟩
section
variable {X : Cx} {m : Type → Type} [Mo m]
theorem de_isiX {fx : Fx} {G : List Sl} {C a dd : Addr} {f : Str} {oe : Obj} {pn : List (Addr × Obj)} {d : D} {n t : Str} {T : String} {b : Bool} {p p1 p2 pos : Pos} (E : ExcC X.K C) (hz : Zc (.ref C) (some dd) oe) (hf : ∃ vs, oe.data = .fields vs) (i : Nat) (hk : PySem.W.kitOne X.K (.ref C) (.type T) = some b)
    (hg : Gl X "isinstance") (hm : X.mg "isinstance" = none) (hg2 : Gl X t) (hm2 : X.mg t = none) (hv2 : bootBuiltins t = some (.type T)) (hG : G[i]? = some (.im (.xc a dd f d)) := by rfl)
    (hN : X.N[i]? = some n := by rfl) (hv : Vis X.env.scope n := by first | exact Or.inl rfl | exact Or.inr (Or.inl rfl) | exact Or.inr (Or.inr rfl)) (hd : (n == ("__debug__" : Str)) = false := by decide) (hcd : (n == ("__classdict__" : Str)) = false := by decide)
    (hn : t ≠ "__name__" := by decide) (hdb : (t == ("__debug__" : Str)) = false := by decide)
    (hs : starEach [.Name n p1, .Name t p2] X.env = (false, eval (.Name n p1) X.env) :: starEach [.Name t p2] X.env := by rfl) (hs2 : starEach [.Name t p2] X.env = (false, eval (.Name t p2) X.env) :: starEach [] X.env := by rfl) (hpl : (backTo pos (starEach [.Name t p2] X.env)).any (·.1) = false := by rfl) :
    PE (X.suite a ((a, oe) :: pn)) (.Call (.Name "isinstance" p) [.Name n p1, .Name t p2] [] pos) (tE (X.suite a ((a, oe) :: pn)).K (X.suite a ((a, oe) :: pn)).mg fx G (pure (.bl b) : m D)) :=
  peI (pe_callB (X := X.suite a ((a, oe) :: pn)) (call_isX (f := f) E hz hf) hg hm rfl (pa_cons (pe_var (X := X.suite a ((a, oe) :: pn)) hN hv hd hcd) (pa_cons (pe_bltn (X := X.suite a ((a, oe) :: pn)) (v := .ty T) hg2 hm2 hv2 rfl hn hdb) pa_nil hs2) hs) (by decide) (by decide) hs hpl) fun σ H Q ⟨Hf, s, h⟩ => by
    obtain ⟨v, ev, e, u, hu, iu⟩ := h.1.sl i _ hG
    subst e
    exact ⟨.ref a, ev, .ty T, u, _, b, rfl, .ty T, h.1.top _ _ hu, hk, h.pure (is_bl _)⟩
end
end DL
/-! ### calls by their shape; classes: objects as data -/
namespace DL
open PySem PySem.Spec PyProof.Rows L2
theorem guards_make {A : Around} {C : Addr} {us : List Value} {kw : List (Str × Value)} (h : A.guards = some []) : (A.under (.builtin "type.__call__" ⟨.ref C :: us, kw⟩)).guards = some [] := by
  first | exact h | simp [Around.under, Code.weight, Code.isCreation, Code.isGuard, Code.isCaller, Code.frames, Code.isFrame, guardIds, h]
/-- a promise by a call's shape: values by position, then those by the names ks -/
def FnP (P : Program) (w : World) (K : PySem.W.Frag) (mg : Str → Option Value) (base : Heap) (k : Nat) (f : Addr) (ks : List Str) (sp : Sp) : Prop :=
  ∀ (A : Around) (outer : List Env) (s : Shared) (H : Hp) (us ws : List Value) (vs : List V) (Q : VK) (E : XK), A.guards = some [] → Room k A → Env0 P w K mg base A outer s H → ws.length = ks.length → Vals vs (us ++ ws) → sp vs H Q E →
    codeAny (model P w) A (.call (.ref f) ⟨us, ks.zip ws⟩) (CR (L2.CX P w) outer P w H s Q E) s
section
variable {P : Program} {w : World} {K : PySem.W.Frag} {mg : Str → Option Value} {base : Heap} {j k : Nat} {f : Addr} {fd : FuncData} {ps ks : List Str} {sp sp' : Sp}
theorem FnP.mono (F : FnP P w K mg base j f ks sp) (h : j ≤ k) : FnP P w K mg base k f ks sp := fun A outer s H us ws vs Q E hg hr => F A outer s H us ws vs Q E hg (hr.mono h)
theorem FnP.imp (F : FnP P w K mg base k f ks sp) (h : ∀ vs H Q E, sp' vs H Q E → sp vs H Q E) : FnP P w K mg base k f ks sp' := fun A outer s H us ws vs Q E hg hr e0 hw r hs => F A outer s H us ws vs Q E hg hr e0 hw r (h _ _ _ _ hs)
/-- by position -/
theorem FnG.pos (F : FnG P w K mg base k f fd ps sp) (hb : Binds K fd ps []) : FnP P w K mg base k f [] sp := fun A outer s H us ws vs Q E hg hr e0 hw r hs => by
  have e : ws = [] := List.length_eq_zero_iff.mp hw
  subst e
  rw [List.append_nil] at r
  have hl : (us ++ []).length = ps.length := by
    rw [List.append_nil, ← r.length]
    exact F.len _ _ _ _ hs
  have b := hb s us (e0.mod.kin.keeps fun b o e => (e0.bs b o e).1) hl
  rw [List.append_nil] at b
  exact F.run A outer s H ⟨us, []⟩ us vs Q E hg hr e0 b r hs
end
section
variable {X : Cx} {k : Nat} {f C : Addr} {ks : List Str} {sp : Sp} {E : L2.St → XK} {x m : Str} {p pos apos : Pos} {e o : Expr} {es : List Expr} {kws : List Keyword} {ta : TE} {t tk : TA}
/-- a class is called -/
theorem run_makeP {pins : List (Addr × Obj)} {σ : L2.St} {H : Hp} {s : Shared} {Q : VK} {us ws : List Value} {vs : List V} (M : Mk X.K C f) (F : FnP X.prog X.w X.K X.mg X.base k f ks sp) (hg : X.A.guards = some []) (hr : Room (k + 1) X.A)
    (hx : PassesAt (L2.CX X.prog X.w) X σ (E σ)) (I : L2.Inv X pins σ H s) (hw : ws.length = ks.length) (r : Vals vs (us ++ ws))
    (h : ∀ x dx, H x = none → H dx = none → dx ≠ x → sp (.ref x :: vs) (upd (upd H dx (.own x)) x (.ins C dx [])) (fun v H2 => v = .non ∧ Q (.ref x) H2) (E σ)) :
    wpAny (model X.prog X.w) X.A (call (.ref C) us (ks.zip ws)) (EP X pins σ Q) X.xe s := by
  have hq := h (s.heap.objs.size + 1) s.heap.objs.size (I.hok.fresh (Nat.le_succ _)) (I.hok.fresh (Nat.le_refl _)) (Nat.ne_of_lt (Nat.lt_succ_self _))
  have I2 := L2.Inv.made (C := C) I
  have r2 : Vals (V.ref (s.heap.objs.size + 1) :: vs) ((Value.ref (s.heap.objs.size + 1) :: us) ++ ws) := .cons rfl r
  refine wpAny_call (make_map (f := f) I.kIn M.makes M.init (beq_iff_eq.mp M.fn) (codeAny_mono (F _ X.stack _ _ (Value.ref (s.heap.objs.size + 1) :: us) ws _ _ (E σ) (guards_make hg) (hr.make C us (ks.zip ws))
    (I2.env0.make C us (ks.zip ws)) hw r2 hq) fun r s' hq' => ?_))
  cases r with
  | error e => exact hx pins _ _ e s' I2 hq'
  | ok fl =>
    cases fl with
    | ret u =>
      obtain ⟨v, H', I3, rv, ev, q3⟩ := I2.after hq'
      subst ev
      exact ⟨rv, ⟨V.ref (s.heap.objs.size + 1), H', I3, rfl, q3⟩⟩
    | next => exact False.elim hq'
    | brk => exact False.elim hq'
    | cont => exact False.elim hq'
end
theorem evalArgs_kw0 {M : Model} {A : Around} {E : Value → Shared → Prop} {s : Shared} {f : Value} {keywords : List (Option Str × Sem Value)} {Q : Args → Shared → Prop}
    (hall : keywords.all (·.1.isSome) = true)
    (h : wpAny M A (spliced []) (fun vs s₁ => wpAny M A (evalAll (keywords.map (·.2))) (fun ks s₂ => Q ⟨vs, (keywords.filterMap (·.1)).zip ks⟩ s₂) E s₁) E s) :
    wpAny M A (evalArgs f true [] keywords) Q E s := by
  unfold evalArgs
  show wpAny M A (spliced [] >>= _) Q E s
  refine wpAny_bind (wpAny_mono h (fun vs s₁ h₁ => ?_) fun _ _ x => x)
  refine wpAny_bind (wpAny_pure ?_)
  refine wpAny_holding ?_
  simp only [hall, if_true]
  refine wpAny_bind (wpAny_mono h₁ (fun ks s₂ h₂ => ?_) fun _ _ x => x)
  exact wpAny_bind (wpAny_pure (wpAny_pure h₂))
def ArgHd (env : Env) : List Expr → Prop
  | [] => True
  | e :: es => starEach (e :: es) env = (false, eval e env) :: starEach es env
/-- the arguments of a call, by position and by name -/
theorem args_run {X : Cx} {es : List Expr} {kws : List Keyword} {ks : List Str} {t tk : TA} {pos : Pos} {f : Value} {first : List Value} {pins : List (Addr × Obj)} {s : Shared} {σ : L2.St} {H : Hp} {Q : VK}
    (hkp : PySem.W.keepIn X.K f = true) (ha : PA X es t) (hk : PK X kws tk) (I : L2.Inv X pins σ H s)
    (h : t σ H fun vs H1 => tk σ H1 fun zs H2 => zs.length = ks.length ∧ ∀ s2 us ws, L2.Inv X pins σ H2 s2 → ws.length = ks.length → Vals (vs ++ zs) (us ++ ws) → wpAny (model X.prog X.w) X.A (call f (first ++ us) (ks.zip ws)) (EP X pins σ Q) X.xe s2)
    (he : ArgHd X.env es := by first | exact True.intro | exact rfl)
    (hks : (backToKw pos (keywordEach kws X.env)).filterMap (·.1) = ks := by rfl)
    (hall : (backToKw pos (keywordEach kws X.env)).all (·.1.isSome) = true := by rfl)
    (hpl : ((backTo pos (starEach es X.env)).any (·.1) || (backToKw pos (keywordEach kws X.env)).any (·.1.isNone)) = false := by rfl) :
    wpAny (model X.prog X.w) X.A (callWith pos f first (backTo pos (starEach es X.env)) (backToKw pos (keywordEach kws X.env))) (EP X pins σ Q) X.xe s := by
  have fin : ∀ {us : List Value} {vs : List V} {H1 : Hp} {s1 : Shared}, L2.Inv X pins σ H1 s1 → Vals vs us → (tk σ H1 fun zs H2 => zs.length = ks.length ∧ ∀ s2 us ws, L2.Inv X pins σ H2 s2 → ws.length = ks.length → Vals (vs ++ zs) (us ++ ws) → wpAny (model X.prog X.w) X.A (call f (first ++ us) (ks.zip ws)) (EP X pins σ Q) X.xe s2) →
      wpAny (model X.prog X.w) X.A (evalAll ((backToKw pos (keywordEach kws X.env)).map (·.2))) (fun ws s₂ => X.K.In s₂.heap ∧ wpAny (model X.prog X.w) X.A (call f (first ++ us) (((backToKw pos (keywordEach kws X.env)).filterMap (·.1)).zip ws)) (EP X pins σ Q) X.xe s₂) X.xe s1 := by
    intro us vs H1 s1 I1 r q
    refine thn (hk.run pos pins s1 σ H1 _ I1 q) fun ws s2 ⟨zs, H2, I2, rz, hz, q2⟩ => ⟨I2.kIn, ?_⟩
    rw [hks]
    exact q2 s2 us ws I2 (rz.length.symm.trans hz) (r.append rz)
  cases es with
  | nil => exact PySem.W.callWith_of hpl (PySem.W.keeps_K hkp) (evalArgs_kw0 hall (thn (ha.run pos pins s σ H _ I h) fun us s1 ⟨vs, H1, I1, r, q⟩ => fin I1 r q))
  | cons e es => exact PySem.W.callWith_of hpl (PySem.W.keeps_K hkp) (evalArgs_kw2 hall (thn (ha.run pos pins s σ H _ I h) fun us s1 ⟨vs, H1, I1, r, q⟩ => fin I1 r q) he)
/-! ### the making of an object -/
def runI : R (Fl (List D) Empty) → R (List D)
  | .ok (.nx es) => .ok es
  | .ok (.rt _) => .stuck
  | .ok (.bk b) => b.elim
  | .ok (.ct b) => b.elim
  | .ex e => .ex e
  | .stuck => .stuck
def spI (K : PySem.W.Frag) (mg : Str → Option Value) (ns : List Str) (L : Nat → Prop) (g : List D → R (List D)) : Sp := fun vs H Q E => L vs.length ∧ ∃ x C dx rest Hf ds, vs = .ref x :: rest ∧ Sub Hf H ∧ Hf x = none ∧ H x = some (.ins C dx []) ∧ Cls K C ∧ (∀ f ∈ ns, NoAttr K C f) ∧ IsL K mg Hf ds rest ∧ (match g ds with
  | .ok es => ∀ us Hf' H', Ste [x] Hf H Hf' H' → H' x = some (.ins C dx (ns.zip us)) → ns.length = us.length → IsL K mg Hf' es us → Hf' x = none → Q .non H'
  | .ex e => ∀ cls dd Hf' H', Ste [x] Hf H Hf' H' → ExIs K mg Hf' H' e cls dd → E cls dd H'
  | .stuck => False)
abbrev fxI (ns : List Str) (x : Addr) (H Hf : Hp) (E : XK) : Fx := ⟨[], H, Hf, fun cls d _ H' => E cls d H', none, false, [x], ns⟩
def GI (N : List Str) (ds : List D) : List Sl := .ob [] [] :: (ds.map Sl.im ++ List.replicate (N.length - ds.length - 1) .un)
def exI (N ns : List Str) (es : List D) : List Sl := .ob ns es :: (N.tail.map fun _ => .un)
section
variable {K : PySem.W.Frag} {mg : Str → Option Value}
theorem StS.initI {Hf H : Hp} {E : XK} {ds : List D} {vs : List V} {N : List Str} {s : S} {x C dx : Addr} (sb : Sub Hf H) (hf : Hf x = none) {ns : List Str} (hx : H x = some (.ins C dx [])) (c : Cls K C) (na : ∀ f ∈ ns, NoAttr K C f) (l : IsL K mg Hf ds vs) (hn : vs.length + 1 ≤ N.length) :
    StS K mg (fxI ns x H Hf E) Hf H (start N (.ref x :: vs)) (GI N ds) s := by
  refine ⟨.refl sb, trivial, fun b m => ?_, ?_, fun i y e => ?_, fun i j y z p ne ey ez oy oz e1 e2 => ?_⟩
  · have : b = x := by
      rcases List.mem_append.mp m with m | m
      · simpa using m
      · cases m
    subst this
    exact ⟨hf, by rw [hx]; simp, fun _ => by show H b ≠ none; rw [hx]; simp⟩
  · rw [start_len (by simpa using hn)]
    unfold GI
    have := l.len
    simp
    omega
  · cases i with
    | zero =>
      cases e
      exact ⟨x, C, dx, [], start_at rfl, hx, hf, ⟨by simp, [], hx⟩, by simp, ⟨c, na⟩, rfl, rfl⟩
    | succ i =>
      have e' : (ds.map Sl.im ++ List.replicate (N.length - ds.length - 1) .un)[i]? = some y := e
      have q := slOk_G0 (fx := fxI ns x H Hf E) (H := H) (N := N) l e'
      cases y with
      | un => trivial
      | im d =>
        obtain ⟨v, hv, hi⟩ := q
        refine ⟨v, ?_, hi⟩
        cases h : vs[i]? with
        | none => rw [h] at hv; cases hv
        | some w => rw [h] at hv; cases hv; exact start_at (by simpa using h)
      | ow ds => exact (isOw_im e' rfl).elim
      | od ks ds => exact (isOw_im e' rfl).elim
      | ob ns ds => exact (isOw_im e' rfl).elim
      | bg =>
        obtain ⟨b, r, e, _⟩ := q
        cases e
  · have z1 : i = 0 := by
      cases i with
      | zero => rfl
      | succ i => exact (isOw_im (n := N.length - ds.length - 1) (ds := ds) (i := i) ey oy).elim
    have z2 : j = 0 := by
      cases j with
      | zero => rfl
      | succ j => exact (isOw_im (n := N.length - ds.length - 1) (ds := ds) (i := j) ez oz).elim
    exact ne (z1.trans z2.symm)
end
theorem runI_read {K : PySem.W.Frag} {mg : Str → Option Value} {ns N : List Str} {o C dx : Addr} {H Hf : Hp} {E : XK} {Q : VK} {body : R (Fl (List D) Empty)} {s : S} (hx : H o = some (.ins C dx []))
    (q : match runI body with
      | .ok es => ∀ us Hf' H', Ste [o] Hf H Hf' H' → H' o = some (.ins C dx (ns.zip us)) → ns.length = us.length → IsL K mg Hf' es us → Hf' o = none → Q .non H'
      | .ex e => ∀ cls dd Hf' H', Ste [o] Hf H Hf' H' → ExIs K mg Hf' H' e cls dd → E cls dd H'
      | .stuck => False) :
    Mo.wp body s (FP K mg (fxI ns o H Hf E) Hf (exI N ns) Empty.elim { nx := fun _ H' => Q .non H', rt := Q }) (EXS K mg (fxI ns o H Hf E)) := by
  show R.wp body _ _ _
  cases body with
  | ok f =>
    cases f with
    | nx es =>
      refine fun Hf' H' σ' _ st => ?_
      obtain ⟨p, C', dx', us, ep, hp', hf', ⟨hm, f0, h00⟩, _, _, hl2, l2⟩ := st.sl 0 _ rfl
      have e1 : p = o := by simpa using hm
      subst e1
      have e2 : C' = C ∧ dx' = dx := by
        have z : H p = some (.ins C' dx' f0) := h00
        rw [hx] at z
        cases z
        exact ⟨rfl, rfl⟩
      obtain ⟨rfl, rfl⟩ := e2
      exact q us Hf' H' st.ste hp' hl2 l2 hf'
    | rt d => exact (show False from q).elim
    | bk b => exact b.elim
    | ct b => exact b.elim
  | ex e => exact fun cls dd σ' Hf' H' st x => q cls dd Hf' H' st.1 x
  | stuck => exact q
section
variable {P : Program} {w : World} {K : PySem.W.Frag} {mg : Str → Option Value} {base : Heap}
/-- an __init__ by its body -/
theorem fnI {x qual : Str} {st : Stmt} {f : Addr} {fd : FuncData} {N ps ns : List Str} {k n : Nat} {g : List D → R (List D)} (F : Fun K x qual st f fd) (Sc : FnScope N ps (defScope st)) (hn : ps.length = n + 1) (hN : n + 1 ≤ N.length)
    (hb : ∀ (cdv : Value) (A : Around) (outer : List Env) (s : Shared) (H Hf : Hp) (E : XK) (o : Addr) (ds : List D), Cok (cxOf (L2.CX P w) P w K mg base N qual (defScope st) f cdv A outer s H E) (fxI ns o H Hf E) k → ds.length = n →
      ∃ body : R (Fl (List D) Empty), PSs (cxOf (L2.CX P w) P w K mg base N qual (defScope st) f cdv A outer s H E) (defBody st)
        (tS (cxOf (L2.CX P w) P w K mg base N qual (defScope st) f cdv A outer s H E).K (cxOf (L2.CX P w) P w K mg base N qual (defScope st) f cdv A outer s H E).mg (fxI ns o H Hf E) (GI N ds) (exI N ns) Empty.elim body) ∧ g ds = runI body) :
    FnG P w K mg base (k + 1) f fd ps (spI K mg ns (fun l => l = n + 1) g) := by
  refine fn_g F Sc (fun vs H Q E h => h.1.trans hn.symm) (fun cdv A outer s H vs Q E gd hr h => ?_)
  obtain ⟨hl, o, C, dx, rest, Hf, ds, rfl, sb, hf, hx, c, na, l, q⟩ := h
  have Ck : Cok (cxOf (L2.CX P w) P w K mg base N qual (defScope st) f cdv A outer s H E) (fxI ns o H Hf E) k := ⟨rfl, passes_of rfl, takes_of rfl rfl rfl rfl, hr, Sc.nd, gd⟩
  have hl' : rest.length = n := by simpa using hl
  obtain ⟨body, hp, hg⟩ := hb cdv A outer s H Hf E o ds Ck (l.len.trans hl')
  refine ⟨_, hp, Hf, ⟨0, 0, 0, [], false⟩, .initI sb hf hx c na l (by omega), ?_⟩
  rw [hg] at q
  exact runI_read hx q
end
section
variable {X : Cx} {fx : Fx} {m : Type → Type} [Mo m] {G : List Sl} {α β : Type} {kk : Nat} {e : Expr} {rest : List Stmt} {ex : α → List Sl} {exb : β → List Sl} {pos pos' : Pos} {x : m D} {k : D → m (Fl α β)} {f n : Str} {np : Pos} {ns : List Str} {ds : List D}
theorem putF_new {f : Str} {y : V} : ∀ {ns : List Str} {vs : List V}, ns.length = vs.length → f ∉ ns → putF f y (ns.zip vs) = (ns ++ [f]).zip (vs ++ [y])
  | [], [], _, _ => rfl
  | g :: ns, v :: vs, hl, hn => by
    have h1 : g ≠ f := fun z => hn (by simp [z])
    show putF f y ((g, v) :: ns.zip vs) = (g, v) :: (ns ++ [f]).zip (vs ++ [y])
    unfold putF
    rw [if_neg h1, putF_new (by simpa using hl) fun z => hn (List.mem_cons_of_mem _ z)]
  | [], _ :: _, hl, _ => by simp at hl
  | _ :: _, [], hl, _ => by simp at hl
/-- self.f = e, in __init__ -/
theorem dss_fld (i : Nat) (he : PE X e (tE X.K X.mg fx G x)) (hr : ∀ d, PSs X rest (tS X.K X.mg fx (G.set i (.ob (ns ++ [f]) (ds ++ [d]))) ex exb (k d))) (hG : G[i]? = some (.ob ns ds) := by rfl) (hN : X.N[i]? = some n := by rfl) (hf : f ∉ ns := by decide +kernel) (hm : f ∈ fx.nas := by decide +kernel) (hz : ns.length < 1000 := by decide)
    (hv : Vis X.env.scope n := by first | exact Or.inl rfl | exact Or.inr (Or.inl rfl) | exact Or.inr (Or.inr rfl)) (hd : (n == ("__debug__" : Str)) = false := by decide) (hcd : (n == ("__classdict__" : Str)) = false := by decide)
    (hs : swapsWith e (some (.Attribute (.Name n np) f pos')) pos.line X.env = pure false := by rfl) (hg : GxOk fx G := by first | exact True.intro | repeat' (first | exact True.intro | exact Or.inl rfl | exact Or.inr rfl | refine And.intro ?_ ?_)) :
    PSs X (.Assign [.Attribute (.Name n np) f pos'] e pos :: rest) (tS X.K X.mg fx G ex exb (x >>= k)) := pssI (pss_cons (ps_fld (pe_var hN hv hd hcd) he hs) (pss_ex hr)) fun De σ H ⟨Hf, s, h⟩ =>
  ((h.bind hg).mono fun v H1 ⟨d, Hf1, s1, sb, r, h1⟩ => by
    obtain ⟨p, C, dx, vs, ep, hp, hf', h0, nb, ⟨c, na⟩, hl, l⟩ := h1.1.sl i _ hG
    refine ⟨.ref p, ep, p, C, dx, ns.zip vs, rfl, hp, c, na _ hm, ?_, d, Hf1, s1, ?_, h1.2⟩
    · rw [List.length_zip, ← hl, Nat.min_self]; exact hz
    · refine h1.1.updAt hG rfl ep rfl ⟨p, C, dx, vs ++ [v], rfl, ?_, hf', h0, nb, ⟨c, na⟩, by simp [hl], l.app (.cons r .nil)⟩
      rw [upd_same, putF_new hl hf]).to
theorem lookup_zip {f : Str} : ∀ {ns : List Str} {vs : List V} {j : Nat} {v : V}, ns.idxOf? f = some j → vs[j]? = some v → (ns.zip vs).lookup f = some v
  | [], _, _, _, e, _ => by cases e
  | g :: ns, [], _, _, _, e => by simp at e
  | g :: ns, v :: vs, j, w, e, e2 => by
    by_cases h : g = f
    · subst h
      have z : j = 0 := by simpa [List.idxOf?, List.findIdx?_cons] using e.symm
      subst z
      simp at e2
      subst e2
      simp
    · have h' : (f == g) = false := by simpa using Ne.symm h
      have h2 : (g == f) = false := by simpa using h
      cases j with
      | zero =>
        exfalso
        simp [List.idxOf?, List.findIdx?_cons, h2] at e
      | succ j =>
        have e' : ns.idxOf? f = some j := by
          simp [List.idxOf?, List.findIdx?_cons, h2] at e ⊢
          exact e
        have := lookup_zip e' (by simpa using e2)
        simpa [List.lookup, h'] using this
end
end DL
/-! ### objects: made, read, asked -/
namespace DL
open PySem PySem.Spec PyProof.Rows L2
/-- a class of the program -/
structure ClsN (K : PySem.W.Frag) (mg : Str → Option Value) (c : Str) (C : Addr) : Prop where
  mg : mg c = some (.ref C)
  cl : Cls K C
  ca : PySem.W.findIn K (.ref C) "__class__" = some (some (.builtin "object.__class__"))
  cn : PySem.W.specialIn K (.builtin "object.__class__") "__get__" = some (some (.builtin "getset_descriptor.__get__"))
  ct : PySem.W.takesIn K (.builtin "object.__class__") = some true
  cm : PySem.W.mroIn K C (.type "object") = some true
section
variable {X : Cx} {fx : Fx} {m : Type → Type} [Mo m] {G : List Sl} {es : List Expr} {kws : List Keyword} {ks : List Str} {pos p : Pos} {ys zz : m (List D)} {kk j n : Nat} {c : Str} {C fI : Addr} {ns : List Str} {g : List D → R (List D)}
/-- an object is made: what __init__ is asked -/
theorem make_core {vs : List V} {ds : List D} {Hf : Hp} {s : S} {σ : L2.St} {H : Hp} {Q : VK} {x dx : Addr} (cn : ClsN X.K X.mg c C) (na : ∀ f ∈ ns, NoAttr X.K C f) {L : Nat → Prop} (hn : L (ds.length + 1)) (r : IsL X.K X.mg Hf ds vs) (h : tX X.K X.mg fx G (fun H d v => Is X.K X.mg H d v) (Mo.lift (g ds) >>= fun es => pure (.ins c ns es) : m D) Hf s σ H Q) (hx : H x = none) (hdx : H dx = none) (hne : dx ≠ x) :
    spI X.K X.mg ns L g (.ref x :: vs) (upd (upd H dx (.own x)) x (.ins C dx [])) (fun v H2 => v = .non ∧ Q (.ref x) H2) (WE fx.W σ) := by
  have w := Mo.wp_lift (Mo.wp_bind h.2)
  have hl := r.len
  have e2 : ∀ a o, H a = some o → upd (upd H dx (.own x)) x (.ins C dx []) a = some o := fun a o q => by rw [upd_ne (ne_of_none q hx), upd_ne (ne_of_none q hdx)]; exact q
  have hfx : Hf x = none := h.1.top.none hx
  have up : ∀ {Hf' H' : Hp}, Ste [x] Hf (upd (upd H dx (.own x)) x (.ins C dx [])) Hf' H' → Ste [] Hf H Hf' H' := fun {Hf' H'} st => ⟨st.sub, st.top, fun a o q _ => st.keep a o (e2 a o q) (by simpa using ne_of_none q hx), fun a q => st.dom a (by
    cases z : H a with
    | none => exact absurd z q
    | some o => rw [e2 a o z]; simp), fun a o q => by
    rcases st.fresh a o q with z | z
    · exact .inl z
    · refine .inr ?_
      cases y : H a with
      | none => rfl
      | some u => rw [e2 a u y] at z; cases z⟩
  refine ⟨by rw [List.length_cons, ← hl]; exact hn, x, C, dx, vs, Hf, ds, rfl, fun a o q => e2 a o (h.1.top a o q), hfx, upd_same, cn.cl, na, r, ?_⟩
  cases z : g ds with
  | ok es =>
    rw [z] at w
    intro us Hf' H' st hp hnl l hf'
    refine ⟨rfl, ?_⟩
    have w' := Mo.wp_pure w
    have st0 := up st
    have sb : Sub Hf' (upd Hf' x (.ins C dx (ns.zip us))) := fun a o q => by
      have ne : a ≠ x := fun z => by rw [z, hf'] at q; cases q
      rw [upd_ne ne]; exact q
    have st1 : Ste [] Hf H (upd Hf' x (.ins C dx (ns.zip us))) H' := ⟨st0.sub.trans sb, fun a o q => by
        by_cases c : a = x
        · subst c; rw [upd_same] at q; cases q; exact hp
        · rw [upd_ne c] at q; exact st0.top a o q, st0.keep, st0.dom, fun a o q => by
        by_cases c : a = x
        · subst c; exact .inr hx
        · rw [upd_ne c] at q; exact st0.fresh a o q⟩
    exact w' (.ref x) _ H' st1.wide (st1.bag h.1.bag) ⟨x, C, dx, us, rfl, cn.mg, upd_same, hnl, l.mono sb⟩
  | ex e =>
    rw [z] at w
    exact fun cls dd Hf' H' st xi => w cls dd Hf' H' (h.1.step (up st).wide ((up st).bag h.1.bag)) xi
  | stuck => rw [z] at w; exact w
end
/-! ### attributes, methods, properties -/
def fldD (cs : List Str) (f : Str) : D → Option D
  | .ins c ns ds => if c ∈ cs then (ns.idxOf? f).bind (ds[·]?) else none
  | _ => none
def FldOk (K : PySem.W.Frag) (mg : Str → Option Value) (f : Str) (cs : List Str) : Prop := ∀ c ∈ cs, ∃ C, mg c = some (.ref C) ∧ Cls K C ∧ NoAttr K C f
section
variable {X : Cx} {fx : Fx} {m : Type → Type} [Mo m] {G : List Sl} {o : Expr} {es : List Expr} {pos p apos : Pos} {x : m D} {ys : m (List D)} {kk j : Nat} {f mn : Str} {cs : List Str}
theorem de_fld (cs : List Str) (ho : PE X o (tE X.K X.mg fx G x)) (hf : FldOk X.K X.mg f cs) (hb : attributeBase o f X.env (eval o X.env) = eval o X.env := by rfl) : PE X (.Attribute o f pos) (tE X.K X.mg fx G (do let u ← x; DL.ask (fldD cs f u))) :=
  peI (pe_fld ho hb) fun σ H Q ⟨Hf, s, h⟩ => (h.bind.mono fun v1 H1 ⟨d1, Hf1, s1, sb1, r1, h1⟩ => by
    obtain ⟨d, e, q⟩ := h1.ask
    cases d1 with
    | ins c ns ds =>
      have e' : (if c ∈ cs then (ns.idxOf? f).bind (ds[·]?) else none) = some d := e
      by_cases hc : c ∈ cs
      · rw [if_pos hc] at e'
        obtain ⟨C, mC, cl, na⟩ := hf c hc
        obtain ⟨a, C', dx, vs, ea, mC', ha, hl, l⟩ := r1
        rw [mC] at mC'
        cases mC'
        cases e1 : ns.idxOf? f with
        | none => rw [e1] at e'; cases e'
        | some i =>
          rw [e1] at e'
          obtain ⟨v, ev, iv⟩ := l.get (show ds[i]? = some d from e')
          exact ⟨a, C, dx, _, v, ea, h1.1.top _ _ ha, cl, na, lookup_zip e1 ev, q v Hf1 H1 (.refl h1.1.top) iv⟩
      · rw [if_neg hc] at e'; cases e'
    | _ => cases e).to
end
end DL
/-! ### properties, isinstance, calls by names -/
namespace DL
open PySem PySem.Spec PyProof.Rows L2
/-! isinstance -/
section
variable {X : Cx} {fx : Fx} {m : Type → Type} [Mo m] {G : List Sl} {e e2 : Expr} {pos p : Pos} {x : m D}
/-- a class's name as a value -/
theorem pe_own {c : Str} {C : Addr} (h : X.mg c = some (.ref C)) (hg : Gl X c := by rfl) (hd : (c == ("__debug__" : Str)) = false := by decide) : PE X (.Name c p) (fun _ H Q => Q (.ref C) H) := pe_glob hg h (v := .ref C) rfl hd
end
end DL
/-! ### == by an own __eq__ -/
namespace DL
open PySem PySem.Spec PyProof.Rows L2
/-! ### != by object's __ne__, in, len, str -/
end DL
/-! ### in, len, str of instances; str of ints; f-strings -/
namespace DL
open PySem PySem.Spec PyProof.Rows L2
end DL
/-! ### more statements: unpacking, three at once, augmented, while -/
namespace DL
open PySem PySem.Spec PyProof.Rows L2
def setN : List Nat → Nat → List D → List Sl → List Sl
  | [], _, _, G => G
  | i :: is, k, c, G => setN is (k + 1) c (G.set i (.im (c.getD k .non)))
def unN (n : Nat) : D → Option (List D)
  | .tup ds => if ds.length = n then some ds else none
  | _ => none
def gsOf : List Nat → TGs
  | [] => gNil
  | i :: is => gCons (gName i) (gsOf is)
section
variable {X : Cx} {fx : Fx} {kk : Nat} {pos : Pos}
/-- plain names as targets -/
inductive Tgts (X : Cx) : List Expr → List Nat → Prop
  | nil : Tgts X [] []
  | cons {n : Str} {p : Pos} {es : List Expr} {is : List Nat} (i : Nat) (r : Tgts X es is) (hi : X.N[i]? = some n := by rfl) (hx : Loc X.env.scope n := by first | exact Or.inl rfl | exact Or.inr rfl) (hf : X.fn n = true ∨ X.env.scope.names.lookup n = some .local := by first | exact .inl rfl | exact .inr rfl) : Tgts X (.Name n p :: es) (i :: is)
theorem tgts_pgs (nd : X.N.Nodup) {es : List Expr} {is : List Nat} (h : Tgts X es is) : PGs X es (gsOf is) := by
  induction h with
  | nil => exact pgs_nil
  | cons i r hi hx hf ih => exact pgs_cons (pg_name nd hi hx hf) ih
theorem gs_read {Hf H : Hp} {s : S} {Q : L2.St → Hp → Prop} : ∀ (is : List Nat) (k : Nat) (c ds : List D) (vs : List V) {σ : L2.St} {G : List Sl}, StS X.K X.mg fx Hf H σ G s → IsL X.K X.mg Hf ds vs → c.drop k = ds → ds.length = is.length →
    (∀ σ', (∀ j, j ∉ is → σ'[j]? = σ[j]?) → σ'.length = σ.length → StS X.K X.mg fx Hf H σ' (setN is k c G) s → Q σ' H) → gsOf is vs σ H Q
  | [], k, c, ds, vs, σ, G, st, l, e, hl, q => by
    cases ds with
    | nil => cases l; exact ⟨rfl, q σ (fun _ _ => rfl) rfl st⟩
    | cons d ds => simp at hl
  | i :: is, k, c, ds, vs, σ, G, st, l, e, hl, q => by
    cases ds with
    | nil => simp at hl
    | cons d ds =>
      obtain ⟨v, r, rfl, iv, l'⟩ := l
      have hk : c.getD k .non = d := by
        have : c[k]? = some d := by
          have := congrArg (fun z => z[0]?) e
          simpa using this
        simp [List.getD, this]
      refine ⟨v, r, rfl, ?_⟩
      refine gs_read is (k + 1) c ds r (st.set (i := i) iv) l' ?_ (by simpa using hl) fun σ' h1 h2 st' => q σ' (fun j hj => ?_) (by simpa using h2) ?_
      · have := congrArg (List.drop 1) e
        simpa [List.drop_drop, Nat.add_comm] using this
      · rw [h1 j fun z => hj (List.mem_cons_of_mem _ z), List.getElem?_set_ne fun z => hj (by simp [z])]
      · show StS X.K X.mg fx Hf H σ' (setN is (k + 1) c (G.set i (.im (c.getD k .non)))) s
        rw [hk]; exact st'
theorem pgd_tupN (C : Cok X fx kk) {es : List Expr} {is : List Nat} {k : Nat} (n : Nat) (h : Tgts X es is) (hn : is.length = n := by rfl) (hl : (assignEach es X.env).length = n := by rfl) (hst : (assignEach es X.env).findIdx? (·.1) = none := by rfl) :
    PGd X fx (.Tuple es k pos) (gTup X.K n (gsOf is)) (unN n) (fun G c => setN is 0 c G) is :=
  ⟨pg_tup C.calm (tgts_pgs C.nd h) hl hst, fun {G Hf d v σ H s c Q} st r e q => by
    cases d with
    | tup ds =>
      obtain ⟨hz, a, vs, rfl, t, l⟩ := r
      have e' : (if ds.length = n then some ds else none) = some c := e
      by_cases hd : ds.length = n
      · rw [if_pos hd] at e'
        cases e'
        exact ⟨a, vs, rfl, st.top.sqt t, l.len.symm.trans hd, gs_read is 0 c c vs st l rfl (hd.trans hn.symm) q⟩
      · rw [if_neg hd] at e'; cases e'
    | _ => cases e⟩
end
section
variable {X : Cx} {fx : Fx} {m : Type → Type} [Mo m] {G : List Sl} {α β γ : Type} {kk : Nat} {e : Expr} {rest : List Stmt} {ex : α → List Sl} {exb : β → List Sl} {pos : Pos} {x : m D}
/-- a, b, .. = e -/
theorem dss_unp {tg : Expr} {g : TG} {u : D → Option γ} {st : List Sl → γ → List Sl} {is : List Nat} {k : γ → m (Fl α β)} (hg : PGd X fx tg g u st is) (he : PE X e (tE X.K X.mg fx G x)) (hr : ∀ c, PSs X rest (tS X.K X.mg fx (st G c) ex exb (k c)))
    (hs : swapsWithSole [tg] e pos.line X.env = pure false := by rfl) (hw : swappedStores [tg] e X.env = pure none := by rfl) (h1 : (assignEach [tg] X.env).map (·.2) = [assign tg X.env] := by rfl)
    (hgx : GxOk fx G := by first | exact True.intro | repeat' (first | exact True.intro | exact Or.inl rfl | exact Or.inr rfl | refine And.intro ?_ ?_)) :
    PSs X (.Assign [tg] e pos :: rest) (tS X.K X.mg fx G ex exb (do let d ← x; let c ← DL.ask (u d); k c)) := pssI (pss_cons (ps_asg he hg.1 hs hw h1) (pss_ex hr)) fun De σ H ⟨Hf, s, h⟩ =>
  ((h.bind hgx).mono fun v H1 ⟨d, Hf1, s1, sb, r, h1⟩ => by
    have w1 := Mo.wp_lift (Mo.wp_bind h1.2)
    cases hu : u d with
    | none => rw [hu] at w1; exact w1.elim
    | some c =>
      rw [hu] at w1
      exact hg.2 h1.1 r hu fun σ' _ _ st' => ⟨c, Hf1, s1, st', w1⟩).to
end
end DL
/-! ### dicts: displays with text keys, d[k] -/
namespace DL
open PySem PySem.Spec PyProof.Rows L2
section
variable {X : Cx} {fx : Fx} {m : Type → Type} [Mo m] {G : List Sl} {pos : Pos}
/-- the pairs of a display whose keys are written texts -/
inductive KVs (X : Cx) (fx : Fx) (m : Type → Type) [Mo m] (G : List Sl) : List (Option Expr) → List Expr → List (List Nat) → m (List D) → List (TE × TE) → Prop
  | nil : KVs X fx m G [] [] [] (pure []) []
  | cons {t : Str} {j : Nat} {p : Pos} {ks : List (Option Expr)} {v : Expr} {vs : List Expr} {ls : List (List Nat)} {x : m D} {ys : m (List D)} {trs : List (TE × TE)} (l : List Nat) (hv : PE X v (tE X.K X.mg fx G x)) (r : KVs X fx m G ks vs ls ys trs) (ht : t = ⟨l.toArray⟩ := by first | rfl | decide +kernel) (hl : l.length ≤ 1000 := by decide) :
      KVs X fx m G (some (.Constant (.str t) j p) :: ks) (v :: vs) (l :: ls) (do let d ← x; let ds ← ys; pure (d :: ds)) ((fun σ H Q => Q (.str ⟨l.toArray⟩) H, tE X.K X.mg fx G x) :: trs)
theorem KVs.some {ks : List (Option Expr)} {vs : List Expr} {ls : List (List Nat)} {ys : m (List D)} {trs : List (TE × TE)} (h : KVs X fx m G ks vs ls ys trs) : ks.all (·.isSome) = true ∧ ks.length = vs.length ∧ ks.length = ls.length := by
  induction h with
  | nil => exact ⟨rfl, rfl, rfl⟩
  | cons l hv r ht hl ih => exact ⟨by simp [ih.1], by simp [ih.2.1], by simp [ih.2.2]⟩
end
end DL
/-! ### defs with a star; star calls -/
namespace DL
open PySem PySem.Spec PyProof.Rows L2 StX
end DL
/-! ### partition, ints of texts, f-strings, constants of classes, defs called by names -/
namespace DL
open PySem PySem.Spec PyProof.Rows L2
def partD (a b : D) : Option D := match a, b with
  | .str z, .str s => if s ≠ [] ∧ z.length ≤ 1000000 then some (match TL.par s [] z with
    | some (p, q) => .tup [.str p, .str s, .str q]
    | none => .tup [.str z, .str [], .str []]) else none
  | _, _ => none
theorem par_len {s : List Nat} : ∀ {z acc p q : List Nat}, TL.par s acc z = some (p, q) → p.length + q.length ≤ acc.length + z.length := by
  intro z
  induction z with
  | nil =>
    intro acc p q h
    unfold TL.par at h
    cases h
  | cons c z ih =>
    intro acc p q h
    unfold TL.par at h
    split at h
    · cases h
      have : (List.drop s.length (c :: z)).length ≤ (c :: z).length := by rw [List.length_drop]; omega
      omega
    · have := ih h
      simp at this ⊢
      omega
section
variable {X : Cx} {fx : Fx} {m : Type → Type} [Mo m] {G : List Sl} {o e : Expr} {apos pos : Pos} {x y : m D}
theorem de_part (ho : PE X o (tE X.K X.mg fx G x)) (he : PE X e (tE X.K X.mg fx G y)) (hs : starEach [e] X.env = [(false, eval e X.env)] := by rfl) (hbase : attributeBase o "partition" X.env (eval o X.env) = eval o X.env := by rfl) (hline : (apos.endLine == pos.line) = true := by rfl) :
    PE X (.Call (.Attribute o "partition" apos) [e] [] pos) (tE X.K X.mg fx G (do let u ← x; let _ ← DL.ask (strOf u); let v ← y; DL.ask (partD u v))) :=
  peI (pe_partition ho he hs hbase hline) fun σ H Q ⟨Hf, s, h⟩ =>
  (h.bind.mono fun v1 H1 ⟨d1, Hf1, s1, sb1, r1, h1⟩ => by
    have k := Mo.wp_lift (Mo.wp_bind h1.2)
    cases d1 with
    | str z =>
      obtain ⟨rfl, hz1⟩ := r1
      refine ⟨⟨_, rfl⟩, ?_⟩
      have h2 : tX X.K X.mg fx G (fun H d v => Is X.K X.mg H d v) (do let v ← y; DL.ask (partD (.str z) v) : m D) Hf1 s1 σ H1 Q := ⟨h1.1, k⟩
      refine (h2.bind.mono fun v2 H2 ⟨d2, Hf2, s2, sb2, r2, h3⟩ => ?_).to
      have w3 := Mo.wp_lift h3.2
      cases d2 with
      | str S =>
        obtain ⟨rfl, hS⟩ := r2
        by_cases hc : S ≠ [] ∧ z.length ≤ 1000000
        · have hsz : sizeLine = 16777216 := sizeLine_eq
          refine ⟨⟨z.toArray⟩, ⟨S.toArray⟩, rfl, rfl, by simpa [Str.length] using hc.1, by rw [str_len]; omega, fun p hp => ?_⟩
          have hn := h3.1.new0 hp
          have st : Ste fx.bag Hf2 H2 (upd Hf2 p (.tup [.str (Txt.partition ⟨z.toArray⟩ ⟨S.toArray⟩).1, .str (Txt.partition ⟨z.toArray⟩ ⟨S.toArray⟩).2.1, .str (Txt.partition ⟨z.toArray⟩ ⟨S.toArray⟩).2.2])) (upd H2 p (.tup [.str (Txt.partition ⟨z.toArray⟩ ⟨S.toArray⟩).1, .str (Txt.partition ⟨z.toArray⟩ ⟨S.toArray⟩).2.1, .str (Txt.partition ⟨z.toArray⟩ ⟨S.toArray⟩).2.2])) := .new h3.1.top hp
          cases hp' : TL.par S [] z with
          | some pq =>
            obtain ⟨p1, q1⟩ := pq
            have e1 : partD (.str z) (.str S) = some (.tup [.str p1, .str S, .str q1]) := by
              show (if S ≠ [] ∧ z.length ≤ 1000000 then _ else none) = _
              rw [if_pos hc, hp']
            rw [e1] at w3
            have e2 := SX.partition_some (a := z) (b := S) hc.1 hp'
            rw [show (⟨z.toArray⟩ : Str) = SX.S z from rfl, show (⟨S.toArray⟩ : Str) = SX.S S from rfl, e2] at st ⊢
            have hl := par_len hp'
            rw [List.length_nil] at hl
            exact w3 (.ref p) _ _ st (h3.1.bag.upd hn.2.1) ⟨by show 3 ≤ sizeLine; omega, p, _, rfl, .inl (.inl upd_same), .cons ⟨rfl, by omega⟩ (.cons ⟨rfl, hS⟩ (.cons ⟨rfl, by omega⟩ .nil))⟩
          | none =>
            have e1 : partD (.str z) (.str S) = some (.tup [.str z, .str [], .str []]) := by
              show (if S ≠ [] ∧ z.length ≤ 1000000 then _ else none) = _
              rw [if_pos hc, hp']
            rw [e1] at w3
            have e2 := SX.partition_none (a := z) (b := S) hc.1 hp'
            rw [show (⟨z.toArray⟩ : Str) = SX.S z from rfl, show (⟨S.toArray⟩ : Str) = SX.S S from rfl, e2] at st ⊢
            exact w3 (.ref p) _ _ st (h3.1.bag.upd hn.2.1) ⟨by show 3 ≤ sizeLine; omega, p, _, rfl, .inl (.inl upd_same), .cons ⟨rfl, by omega⟩ (.cons ⟨rfl, by simp⟩ (.cons ⟨rfl, by simp⟩ .nil))⟩
        · have e1 : partD (.str z) (.str S) = none := if_neg hc
          rw [e1] at w3
          exact w3.elim
      | _ => exact w3.elim
    | _ => exact k.elim).to
end
/-! f-strings -/
end DL
/-! ### constants of classes, static methods, keyword-only parameters with defaults -/
namespace DL
open PySem PySem.Spec PyProof.Rows L2 StX
/-! keyword-only parameters -/
section
variable {P : Program} {w : World} {K : PySem.W.Frag} {mg : Str → Option Value} {base : Heap} {k : Nat} {f : Addr} {fd : FuncData} {ps ks ns : List Str} {g : List D → R (List D)}
theorem is_tupK {T : Addr} {od : Option Addr} {its : List Value} {vs : List V} {ds : List D} {n : Nat} {sl : Array (Option Value)} (l : K.lookup T = some ⟨.type "tuple", od, .seq its.toArray n, sl⟩) (hs : IsL K mg (fun _ => none) ds vs) (hv : Vals vs its) (hz : ds.length ≤ 1000) :
    Is K mg (fun _ => none) (.tup ds) (.ref T) := by
  have hsz : sizeLine = 16777216 := sizeLine_eq
  have h1 := hs.len
  have h2 := hv.length
  exact ⟨by omega, T, vs, rfl, .inr ⟨_, its.toArray, n, l, rfl, rfl, by rw [List.size_toArray]; omega, by simpa using hv⟩, hs⟩
end
end DL
namespace DL
open PySem PySem.Spec PyProof.Rows L2
def apI1 (fn : D → R (List D)) : List D → R (List D)
  | [a] => fn a
  | _ => .stuck
theorem apI1_len (f) : ∀ ds : List D, apI1 f ds ≠ .stuck → ds.length = 1 := fun ds h => by
  unfold apI1 at h
  split at h <;> first | rfl | exact absurd rfl h
def apI3 (fn : D → D → D → R (List D)) : List D → R (List D)
  | [a, b, c] => fn a b c
  | _ => .stuck
theorem apI3_len (f) : ∀ ds : List D, apI3 f ds ≠ .stuck → ds.length = 3 := fun ds h => by
  unfold apI3 at h
  split at h <;> first | rfl | exact absurd rfl h
end DL
namespace DL
open PySem PySem.Spec PyProof.Rows L2
end DL
namespace DL
open PySem
end DL
/-! ### a, b, c = [..], [..], 'text' -/
namespace DL
open PySem PySem.Spec PyProof.Rows L2
end DL
/-! ### an own list becomes the bag; keyword calls of defs -/
namespace DL
open PySem PySem.Spec PyProof.Rows L2 StX
/-! keyword calls of defs without defaults -/
end DL
namespace DL
open PySem PySem.Spec PyProof.Rows L2
end DL
/-! ### text.index(sign) -/
namespace DL
open PySem PySem.Spec PyProof.Rows L2
end DL
/-! ### fields as targets of an unpacking -/
namespace DL
open PySem PySem.Spec PyProof.Rows L2
theorem assign_attr {M : Model} {A : Around} {E : Value → Shared → Prop} {s : Shared} {env : Env} {o : Expr} {f : Str} {pos' : Pos} {u : Value} {Q : Unit → Shared → Prop}
    (h : wpAny M A (eval o env) (fun ov s₂ => wpAny M A (setAttr ov f u) Q E s₂) E s) : wpAny M A (assign (.Attribute o f pos') env u) Q E s := fun Γ p hΓ => by
  simp only [assign_Attribute, Sem.wp_bind', Sem.wp_holding, Sem.wp_cmd_standAt, Sem.wp_release, Sem.wp_pure']
  exact Sem.wp_mono M Γ _ (fun ov _ s₂ h₂ => h₂ Γ _ hΓ) (fun _ _ _ h' => h') _ _ (h Γ _ hΓ)
def gFld (K : PySem.W.Frag) (to : TE) (f : Str) : TG := fun y σ H Q => to σ H fun x H2 => ∃ a C dx fs, x = .ref a ∧ H2 a = some (.ins C dx fs) ∧ Cls K C ∧ NoAttr K C f ∧ fs.length < 1000 ∧ Q σ (upd H2 a (.ins C dx (putF f y fs)))
section
variable {X : Cx} {o : Expr} {to : TE} {f : Str} {pos' : Pos}
theorem pg_fld (ho : PE X o to) : PG X (.Attribute o f pos') (gFld X.K to f) := by
  refine ⟨fun pins s σ H v u Q I r h => assign_attr (thn (ho.run pins s σ H _ I h) fun ov s2 ⟨x, H2, I2, rx, a, C, dx, fs, ex, ea, c, n, l, q2⟩ => ?_)⟩
  subst ex
  obtain rfl : ov = Value.ref a := rx
  exact setattr_ok I2 ea c n l r fun s3 I3 => ⟨σ, _, I3, q2⟩
end
end DL
namespace DL
open PySem L2
/-! ### plain laws -/
instance : LawfulMonad R := LawfulMonad.mk' (m := R) (id_map := fun x => by cases x <;> rfl) (pure_bind := fun _ _ => rfl) (bind_assoc := fun x _ _ => by cases x <;> rfl)
theorem M.ext {α : Type} {x y : M α} (h : ∀ s, x s = y s) : x = y := funext h
instance : LawfulMonad M := LawfulMonad.mk' (m := M)
  (id_map := fun x => M.ext fun s => by
    show (x s).bd (fun a s => .ok a s) = x s
    cases x s <;> rfl)
  (pure_bind := fun _ _ => rfl)
  (bind_assoc := fun x f g => M.ext fun s => by
    show ((x s).bd f).bd g = (x s).bd fun a => f a >>= g
    cases x s <;> rfl)
@[simp] theorem lift_R {α : Type} (r : R α) : (Mo.lift r : R α) = r := rfl
@[simp] theorem lift_M {α : Type} (a : α) : (Mo.lift (R.ok a) : M α) = pure a := rfl
@[simp] theorem noex_R {α : Type} (a : α) : (Mo.noex (R.ok a) : R α) = .ok a := rfl
@[simp] theorem noex_M {α : Type} (a : α) : (Mo.noex (pure a : M α) : M α) = pure a := rfl
@[simp] theorem askM {α : Type} (a : α) : (ask (some a) : M α) = pure a := rfl
@[simp] theorem mkL_R (ds : List D) : (mkL (R.ok ds) : R D) = .ok (.lst ds) := rfl
@[simp] theorem mkL_M (ds : List D) : (mkL (pure ds : M (List D)) : M D) = pure (.lst ds) := rfl
def Inv (s : S) : Prop := s.w = false ∧ 0 ≤ s.y ∧ s.y < 4294967296
def Ok {α : Type} (x : M α) (Q : α → Prop) : Prop := ∀ s, Inv s → ∃ a s', x s = .ok a s' ∧ Inv s' ∧ Q a
def OkR {α : Type} (x : R α) (Q : α → Prop) : Prop := ∃ a, x = .ok a ∧ Q a
section
variable {α β γ : Type} {Q : β → Prop} {P : α → Prop}
theorem ok_pure {a : β} (h : Q a) : Ok (pure a : M β) Q := fun s i => ⟨a, s, rfl, i, h⟩
theorem ok_bind {x : M α} {f : α → M β} (h : Ok x fun a => Ok (f a) Q) : Ok (x >>= f) Q := fun s i => by
  obtain ⟨a, s', e, i', q⟩ := h s i
  obtain ⟨b, s2, e2, i2, q2⟩ := q s' i'
  refine ⟨b, s2, ?_, i2, q2⟩
  show (x s).bd f = _
  rw [e]; exact e2
theorem ok_mono {x : M α} {P' : α → Prop} (h : Ok x P) (w : ∀ a, P a → P' a) : Ok x P' := fun s i => by
  obtain ⟨a, s', e, i', q⟩ := h s i
  exact ⟨a, s', e, i', w a q⟩
/-- a draw first -/
theorem ok_then {x : M α} {f : α → M β} (h : Ok x P) (w : ∀ a, P a → Ok (f a) Q) : Ok (x >>= f) Q := ok_bind (ok_mono h w)
theorem ok_ask {o : Option α} {a : α} (e : o = some a) (h : P a) : Ok (ask o : M α) P := by subst e; exact ok_pure h
theorem ok_noex {x : M α} (h : Ok x P) : Ok (Mo.noex x) P := fun s i => by
  obtain ⟨a, s', e, i', q⟩ := h s i
  refine ⟨a, s', ?_, i', q⟩
  show (x s).nx = _
  rw [e]; rfl
theorem ok_ite {c : Prop} [Decidable c] {x y : M α} (h1 : c → Ok x P) (h2 : ¬ c → Ok y P) : Ok (if c then x else y) P := by
  by_cases h : c
  · rw [if_pos h]; exact h1 h
  · rw [if_neg h]; exact h2 h
theorem okr_pure {a : β} (h : Q a) : OkR (.ok a) Q := ⟨a, rfl, h⟩
theorem okr_bind {x : R α} {f : α → R β} (h : OkR x fun a => OkR (f a) Q) : OkR (x >>= f) Q := by
  obtain ⟨a, rfl, q⟩ := h
  exact q
theorem okr_mono {x : R α} {P' : α → Prop} (h : OkR x P) (w : ∀ a, P a → P' a) : OkR x P' := by
  obtain ⟨a, rfl, q⟩ := h
  exact ⟨a, rfl, w a q⟩
theorem okr_then {x : R α} {f : α → R β} (h : OkR x P) (w : ∀ a, P a → OkR (f a) Q) : OkR (x >>= f) Q := okr_bind (okr_mono h w)
end
/-! defs -/
def FlQ (nr : Bool) (Q : D → Prop) : Fl Unit Empty → Prop
  | .nx _ => nr = false ∧ Q .non
  | .rt d => Q d
  | _ => False
theorem ok_runM {nr : Bool} {x : M (Fl Unit Empty)} {Q : D → Prop} (h : Ok x (FlQ nr Q)) : Ok (runM nr x) Q := fun s i => by
  obtain ⟨a, s', e, i', q⟩ := h s i
  unfold runM
  rw [e]
  cases a with
  | nx a =>
    obtain ⟨q1, q2⟩ := q
    subst q1
    exact ⟨.non, s', rfl, i', q2⟩
  | rt d => exact ⟨d, s', rfl, i', q⟩
  | bk b => exact b.elim
  | ct b => exact b.elim
theorem okr_runR {nr : Bool} {x : R (Fl Unit Empty)} {Q : D → Prop} (h : OkR x (FlQ nr Q)) : OkR (runR nr x) Q := by
  obtain ⟨a, rfl, q⟩ := h
  cases a with
  | nx a =>
    obtain ⟨q1, q2⟩ := q
    subst q1
    exact ⟨.non, rfl, q2⟩
  | rt d => exact ⟨d, rfl, q⟩
  | bk b => exact b.elim
  | ct b => exact b.elim
/-! flow -/
section
variable {α β γ : Type}
@[simp] theorem seqR_nx {a : α} {k : α → R (Fl γ β)} : seqF (R.ok (.nx a)) k = k a := rfl
@[simp] theorem seqR_rt {d : D} {k : α → R (Fl γ β)} : seqF (R.ok (.rt d)) k = .ok (.rt d) := rfl
@[simp] theorem seqR_bk {b : β} {k : α → R (Fl γ β)} : seqF (R.ok (.bk b)) k = .ok (.bk b) := rfl
@[simp] theorem seqR_ct {b : β} {k : α → R (Fl γ β)} : seqF (R.ok (.ct b)) k = .ok (.ct b) := rfl
def SeqQ (k : α → Prop) (Q : Fl γ β → Prop) : Fl α β → Prop
  | .nx a => k a
  | .rt d => Q (.rt d)
  | .bk b => Q (.bk b)
  | .ct b => Q (.ct b)
theorem ok_seq {x : M (Fl α β)} {k : α → M (Fl γ β)} {Q : Fl γ β → Prop} (h : Ok x (SeqQ (fun a => Ok (k a) Q) Q)) : Ok (seqF x k) Q := ok_bind (ok_mono h fun f q => by
  cases f with
  | nx a => exact q
  | rt d => exact ok_pure q
  | bk b => exact ok_pure q
  | ct b => exact ok_pure q)
theorem okr_seq {x : R (Fl α β)} {k : α → R (Fl γ β)} {Q : Fl γ β → Prop} (h : OkR x (SeqQ (fun a => OkR (k a) Q) Q)) : OkR (seqF x k) Q := okr_bind (okr_mono h fun f q => by
  cases f with
  | nx a => exact q
  | rt d => exact okr_pure q
  | bk b => exact okr_pure q
  | ct b => exact okr_pure q)
/-- what a turn of a loop leaves -/
def TurnQ (I : α → Prop) (Q : Fl α β → Prop) : Fl α α → Prop
  | .nx a => I a
  | .ct a => I a
  | .bk a => Q (.nx a)
  | .rt d => Q (.rt d)
theorem ok_for {u : D → Option γ} {xb : α → γ → M (Fl α α)} {Q : Fl α β → Prop} (I : Nat → α → Prop) (ds : List D) (a0 : α) (h0 : I 0 a0) (hs : ∀ i d a, ds[i]? = some d → I i a → ∃ c, u d = some c ∧ Ok (xb a c) (TurnQ (I (i + 1)) Q)) (he : ∀ a, I ds.length a → Q (.nx a)) : Ok (forF u xb ds a0) Q := by
  induction ds generalizing I a0 with
  | nil => exact ok_pure (he _ h0)
  | cons d ds ih =>
    unfold forF
    obtain ⟨c, e, h⟩ := hs 0 d a0 rfl h0
    rw [e]
    refine ok_bind (ok_pure (ok_bind (ok_mono h fun f q => ?_)))
    cases f with
    | nx a => exact ih (fun i => I (i + 1)) a q (fun i d' a' e' q' => hs (i + 1) d' a' (by simpa using e') q') (fun a q => he a (by simpa using q))
    | ct a => exact ih (fun i => I (i + 1)) a q (fun i d' a' e' q' => hs (i + 1) d' a' (by simpa using e') q') (fun a q => he a (by simpa using q))
    | bk a => exact ok_pure q
    | rt d => exact ok_pure q
theorem okr_for {u : D → Option γ} {xb : α → γ → R (Fl α α)} {Q : Fl α β → Prop} (I : Nat → α → Prop) (ds : List D) (a0 : α) (h0 : I 0 a0) (hs : ∀ i d a, ds[i]? = some d → I i a → ∃ c, u d = some c ∧ OkR (xb a c) (TurnQ (I (i + 1)) Q)) (he : ∀ a, I ds.length a → Q (.nx a)) : OkR (forF u xb ds a0) Q := by
  induction ds generalizing I a0 with
  | nil => exact okr_pure (he _ h0)
  | cons d ds ih =>
    unfold forF
    obtain ⟨c, e, h⟩ := hs 0 d a0 rfl h0
    rw [e]
    refine okr_bind (okr_pure (okr_bind (okr_mono h fun f q => ?_)))
    cases f with
    | nx a => exact ih (fun i => I (i + 1)) a q (fun i d' a' e' q' => hs (i + 1) d' a' (by simpa using e') q') (fun a q => he a (by simpa using q))
    | ct a => exact ih (fun i => I (i + 1)) a q (fun i d' a' e' q' => hs (i + 1) d' a' (by simpa using e') q') (fun a q => he a (by simpa using q))
    | bk a => exact okr_pure q
    | rt d => exact okr_pure q
/-- for over a range or a list, no state -/
theorem ok_forU {u : D → Option γ} {xb : Unit → γ → M (Fl Unit Unit)} {Q : Fl Unit β → Prop} (ds : List D) (hs : ∀ d ∈ ds, ∃ c, u d = some c ∧ Ok (xb () c) (TurnQ (fun _ => True) Q)) (he : Q (.nx ())) : Ok (forF u xb ds ()) Q :=
  ok_for (fun _ _ => True) ds () trivial (fun i d _ e _ => hs d (List.mem_of_getElem? e)) fun _ _ => he
theorem okr_forU {u : D → Option γ} {xb : Unit → γ → R (Fl Unit Unit)} {Q : Fl Unit β → Prop} (ds : List D) (hs : ∀ d ∈ ds, ∃ c, u d = some c ∧ OkR (xb () c) (TurnQ (fun _ => True) Q)) (he : Q (.nx ())) : OkR (forF u xb ds ()) Q :=
  okr_for (fun _ _ => True) ds () trivial (fun i d _ e _ => hs d (List.mem_of_getElem? e)) fun _ _ => he
end
/-! comprehensions -/
theorem lcR {γ : Type} {u : D → Option γ} {xt : γ → R Bool} {xe : γ → R D} (c : D → γ) (p : D → Bool) (f : D → D) : ∀ ds : List D, (∀ d ∈ ds, u d = some (c d)) → (∀ d ∈ ds, xt (c d) = .ok (p d)) → (∀ d ∈ ds, p d = true → xe (c d) = .ok (f d)) → lcF u xt xe ds = .ok ((ds.filter p).map f)
  | [], _, _, _ => rfl
  | d :: ds, h1, h2, h3 => by
    have ih := lcR c p f ds (fun x m => h1 x (.tail _ m)) (fun x m => h2 x (.tail _ m)) (fun x m => h3 x (.tail _ m))
    unfold lcF
    rw [h1 d (.head _)]
    simp only [ask_some, R.bind_eq, R.bd, h2 d (.head _), noex_R]
    cases q : p d with
    | false => simp only [Bool.false_eq_true, if_false, ih, List.filter_cons, q]
    | true =>
      simp only [if_true, List.filter_cons, q, List.map_cons]
      rw [h3 d (.head _) q, ih]
      rfl
inductive All2 {α β : Type} (P : α → β → Prop) : List α → List β → Prop
  | nil : All2 P [] []
  | cons {x : α} {y : β} {xs : List α} {ys : List β} (h : P x y) (t : All2 P xs ys) : All2 P (x :: xs) (y :: ys)
/-- all of them, each drawn -/
theorem ok_lc {γ : Type} {u : D → Option γ} {xe : γ → M D} {P : D → D → Prop} : ∀ ds : List D, (∀ d ∈ ds, ∃ c, u d = some c ∧ Ok (xe c) (P d)) → Ok (lcF u (fun _ => pure true) xe ds) fun rs => All2 P ds rs
  | [], _ => ok_pure .nil
  | d :: ds, h => by
    unfold lcF
    obtain ⟨c, e, hx⟩ := h d (.head _)
    rw [e]
    refine ok_bind (ok_pure (ok_bind (ok_noex (ok_pure ?_))))
    simp only [if_true]
    exact ok_then (ok_noex hx) fun y py => ok_then (ok_lc ds fun x m => h x (.tail _ m)) fun r pr => ok_pure (.cons py pr)
/-! the bag -/
theorem ok_bagX {Q : D → Prop} (h : ∀ i : Int, Q (.int i)) : Ok bagX Q := fun s i => ⟨.int s.x, s, by unfold bagX; rw [if_pos i.1], i, h _⟩
theorem ok_bagY {Q : D → Prop} (h : ∀ i : Int, 0 ≤ i → i < 4294967296 → Q (.int i)) : Ok bagY Q := fun s i => ⟨.int s.y, s, by unfold bagY; rw [if_pos i.1], i, h _ i.2.1 i.2.2⟩
theorem ok_setX {i : Int} {Q : Unit → Prop} (h : Q ()) : Ok (bagSetX i) Q := fun s j => ⟨(), { s with x := i }, by unfold bagSetX; rw [if_pos j.1], j, h⟩
theorem ok_setY {i : Int} {Q : Unit → Prop} (h0 : 0 ≤ i) (h1 : i < 4294967296) (h : Q ()) : Ok (bagSetY i) Q := fun s j => ⟨(), { s with y := i }, by unfold bagSetY; rw [if_pos j.1], ⟨j.1, h0, h1⟩, h⟩
theorem okr_bag {α β : Type} {x y : Int} {k : M (Fl α β)} {Q : Fl α β → Prop} (h0 : 0 ≤ y) (h1 : y < 4294967296) (h : Ok k Q) : OkR (withBag (.lst [.int x, .int y]) k) Q := by
  obtain ⟨a, s', e, _, q⟩ := h ⟨x, y, 0, [], false⟩ ⟨rfl, h0, h1⟩
  refine ⟨a, ?_, q⟩
  unfold withBag
  simp only [e]
/-! numbers -/
theorem mul_ii {i j : Int} (hi : i.natAbs < 2 ^ 64) (hj : j.natAbs < 2 ^ 64) : mulD (.int i) (.int j) = some (.int (i * j)) := by
  have h1 := PySem.Flt.log2_lt_of (n := i.natAbs) (k := 64) (by decide) hi
  have h2 := PySem.Flt.log2_lt_of (n := j.natAbs) (k := 64) (by decide) hj
  exact if_pos (show i.natAbs.log2 + j.natAbs.log2 < 1000000 by omega)
theorem mod_ii {i j : Int} (hj : 0 < j) : modD (.int i) (.int j) = some (.int (i % j)) := if_pos hj
theorem fdiv_ii {i j : Int} (hj : 0 < j) (h : j.natAbs < 2 ^ 64) : fdivD (.int i) (.int j) = some (.int (i / j)) := by
  have h1 := PySem.Flt.log2_lt_of (n := j.natAbs) (k := 64) (by decide) h
  exact if_pos (show 0 < j ∧ j.natAbs.log2 < 9000 from ⟨hj, by omega⟩)
@[simp] theorem add_ii {i j : Int} : addD (.int i) (.int j) = some (.int (i + j)) := rfl
@[simp] theorem sub_ii {i j : Int} : subD (.int i) (.int j) = some (.int (i - j)) := rfl
@[simp] theorem lt_ii {i j : Int} : ltD (.int i) (.int j) = some (.bl (decide (i < j))) := rfl
@[simp] theorem le_ii {i j : Int} : leD (.int i) (.int j) = some (.bl (decide (i ≤ j))) := rfl
@[simp] theorem gt_ii {i j : Int} : gtD (.int i) (.int j) = some (.bl (decide (j < i))) := rfl
@[simp] theorem ge_ii {i j : Int} : geD (.int i) (.int j) = some (.bl (decide (j ≤ i))) := rfl
@[simp] theorem eq_ii {i j : Int} : eqD (.int i) (.int j) = some (.bl (decide (i = j))) := rfl
@[simp] theorem ne_ii {i j : Int} : neD (.int i) (.int j) = some (.bl (!decide (i = j))) := rfl
@[simp] theorem eq_ss {a b : List Nat} : eqD (.str a) (.str b) = some (.bl (decide (a = b))) := rfl
@[simp] theorem ne_ss {a b : List Nat} : neD (.str a) (.str b) = some (.bl (!decide (a = b))) := rfl
@[simp] theorem bOf_bl {b : Bool} : bOf (.bl b) = some b := rfl
@[simp] theorem tru_bl {b : Bool} : truD (.bl b) = some b := rfl
@[simp] theorem tru_str {s : List Nat} : truD (.str s) = some (!s.isEmpty) := rfl
@[simp] theorem tru_lst {s : List D} : truD (.lst s) = some (!s.isEmpty) := rfl
@[simp] theorem tru_tup {s : List D} : truD (.tup s) = some (!s.isEmpty) := rfl
@[simp] theorem tru_int {i : Int} : truD (.int i) = some (i != 0) := rfl
@[simp] theorem int_int {i : Int} : intD [.int i] = some (.int i) := rfl
@[simp] theorem len_lst {s : List D} : lenD [.lst s] = some (.int s.length) := rfl
@[simp] theorem len_tup {s : List D} : lenD [.tup s] = some (.int s.length) := rfl
@[simp] theorem len_str {s : List Nat} : lenD [.str s] = some (.int s.length) := rfl
@[simp] theorem len_scr {s : List Int} : lenD [.scr s] = some (.int s.length) := rfl
@[simp] theorem it_lst {s : List D} : itD (.lst s) = some s := rfl
@[simp] theorem it_tup {s : List D} : itD (.tup s) = some s := rfl
@[simp] theorem it_str {s : List Nat} : itD (.str s) = some (chrs s) := rfl
@[simp] theorem int_of {i : Int} : intOf (.int i) = some i := rfl
@[simp] theorem flat_int {i : Int} : flatD (.int i) = some (.int i) := rfl
@[simp] theorem flat_bl {i : Bool} : flatD (.bl i) = some (.bl i) := rfl
@[simp] theorem flat_str {i : List Nat} : flatD (.str i) = some (.str i) := rfl
@[simp] theorem str_of {i : List Nat} : strOf (.str i) = some i := rfl
theorem sz_ok {ds : List D} (h : ds.length ≤ 1000000) : szL ds = some ds := if_pos (by rw [sizeLine_eq]; omega)
theorem apd_ok {ds : List D} {d : D} (h : ds.length < 1000000) : apd ds d = some (ds ++ [d]) := if_pos (by rw [sizeLine_eq]; omega)
theorem rng1_ok {j : Int} (h0 : -4611686018427387904 ≤ j) (h : j ≤ 1000000) : rng1 [.int j] = some (rangeL 0 j.toNat) := if_pos ⟨h0, h⟩
theorem range_len {lo : Int} {n : Nat} : (rangeL lo n).length = n := by simp [rangeL]
theorem range_mem {lo : Int} {n : Nat} {d : D} (h : d ∈ rangeL lo n) : ∃ k : Nat, k < n ∧ d = .int (lo + k) := by
  unfold rangeL at h
  obtain ⟨k, hk, rfl⟩ := List.mem_map.mp h
  exact ⟨k, List.mem_range.mp hk, rfl⟩
theorem range_get {lo : Int} {n i : Nat} {d : D} (h : (rangeL lo n)[i]? = some d) : i < n ∧ d = .int (lo + i) := by
  unfold rangeL at h
  rw [List.getElem?_map] at h
  by_cases c : i < n
  · rw [List.getElem?_range c] at h
    cases h
    exact ⟨c, rfl⟩
  · rw [List.getElem?_eq_none (by simpa using c)] at h
    cases h
theorem ix_lst {ds : List D} {i : Int} (h0 : 0 ≤ i) (h : i < ds.length) : ixD (.lst ds) (.int i) = some (ds[i.toNat]'(by omega)) := by
  unfold ixD L2.atI ixN
  simp only
  rw [if_pos h0, if_pos h]
  exact List.getElem?_eq_getElem (by omega)
theorem ixN_ok {n : Nat} {i : Int} (h0 : 0 ≤ i) (h : i < n) : ixN n i = some i.toNat := by
  unfold ixN
  rw [if_pos h0, if_pos h]
theorem pop_ok {ds : List D} {i : Int} (h0 : 0 ≤ i) (h : i < ds.length) : popI ds (.int i) = some (ds[i.toNat]'(by omega), ds.eraseIdx i.toNat) := by
  unfold popI
  simp only [ixN_ok h0 h]
  rw [List.getElem?_eq_getElem (by omega)]
  rfl
end DL
namespace FN
open DL
def c_CHARACTERS : D := (.str [48, 49, 50, 51, 52, 53, 54, 55, 56, 57, 97, 98, 99, 100, 101, 102, 103, 104, 105, 106, 107, 108, 109, 110, 111, 112, 113, 114, 115, 116, 117, 118, 119, 120, 121, 122])
def b__law_bag_fbbe (a0 a1 : D) : R (Fl Unit Empty) := (do let v1 ← (iteM (do let x5 ← (pure a1); let y6 ← (do let r4 ← (do let x2 ← (pure a0); let r3 ← pure []; pure (x2 :: r3)); DL.ask (lenD r4)); DL.ask ((ltD x5 y6).bind bOf)) (do let r11 ← (do let x9 ← (do let x7 ← (pure a0); let y8 ← (pure a1); DL.ask (ixD x7 y8)); let r10 ← pure []; pure (x9 :: r10)); DL.ask (absD r11)) (pure (.int 0))); (do let v12 ← (do let x15 ← (pure (.int 52361)); let y16 ← (do let x13 ← (pure (.int 7919)); let y14 ← (pure a1); DL.ask (mulD x13 y14)); DL.ask (addD x15 y16)); (do let r55 ← (do let r24 ← (do let x22 ← (do let x19 ← (pure a0); let l20 ← (pure none); let u21 ← (do let x17 ← (pure (.int 63)); let i18 ← DL.ask (intOf x17); pure (some i18)); DL.ask (sliceD x19 l20 u21)); let r23 ← pure []; pure (x22 :: r23)); DL.ask (enumOf r24)); seqF (forF un2 (fun (a25 : D) (c26 : D × D) => (do let v27 ← (do let x44 ← (do let r43 ← (do let x41 ← (do let x39 ← (do let x35 ← (do let x28 ← (pure a25); let y29 ← (pure (.int 41358)); DL.ask (mulD x28 y29)); let y36 ← (do let x33 ← (do let r32 ← (do let x30 ← (pure c26.2); let r31 ← pure []; pure (x30 :: r31)); DL.ask (intD r32)); let y34 ← (pure (.int 2147483587)); DL.ask (modD x33 y34)); DL.ask (addD x35 y36)); let y40 ← (do let x37 ← (pure (.int 10007)); let y38 ← (pure c26.1); DL.ask (mulD x37 y38)); DL.ask (addD x39 y40)); let r42 ← pure []; pure (x41 :: r42)); DL.ask (intD r43)); let y45 ← (pure (.int 2147483549)); DL.ask (modD x44 y45)); (pure (.nx v27)))) r55 v12) fun (a46 : D) => (do let v54 ← (do let r53 ← (do let x51 ← (iteM (do let x47 ← (pure v1); let y48 ← (do let x ← (pure (.int 10)); let y ← (pure (.int 18)); DL.ask (powC x y)); DL.ask ((geD x47 y48).bind bOf)) (pure v1) (pure (.int 0))); let r52 ← (do let x49 ← (pure a46); let r50 ← pure []; pure (x49 :: r50)); pure (x51 :: r52)); DL.ask (szL r53)); pure (.rt (.lst v54))))))
def m__law_bag_fbbe : List D → R D := apR2 fun a0 a1 => runR true (b__law_bag_fbbe a0 a1)
theorem n__law_bag_fbbe : ∀ ds : List D, m__law_bag_fbbe ds ≠ .stuck → ds.length = 2 := apR2_len _
def b__law_take_6859 (a1 : D) : M (Fl Unit Empty) := (do let t40 ← (do let x1 ← bagX; let y2 ← (pure (.int 0)); DL.ask ((gtD x1 y2).bind bOf)); seqF (if t40 = true then (do let v4 ← (do let x8 ← (do let r7 ← (do let x5 ← bagX; let r6 ← pure []; pure (x5 :: r6)); DL.ask (intD r7)); let y9 ← (pure a1); DL.ask (modD x8 y9)); (do let v10 ← (do let x11 ← bagX; let y12 ← (pure a1); DL.ask (fdivD x11 y12)); let i13 ← DL.ask (intOf v10); bagSetX i13; (do let v14 ← (pure v4); pure (.rt v14)))) else (pure (.nx ()))) fun (a3 : Unit) => (do let v15 ← (do let x23 ← (do let r22 ← (do let x20 ← (do let x18 ← (do let x16 ← bagY; let y17 ← (pure (.int 69621)); DL.ask (mulD x16 y17)); let y19 ← (pure (.int 30011)); DL.ask (addD x18 y19)); let r21 ← pure []; pure (x20 :: r21)); DL.ask (intD r22)); let y24 ← (pure (.int 2147483543)); DL.ask (modD x23 y24)); let i25 ← DL.ask (intOf v15); bagSetY i25; (do let v39 ← (do let x37 ← (do let x35 ← (do let x33 ← (do let r32 ← (do let x30 ← (do let x28 ← (do let x26 ← bagY; let y27 ← (pure (.int 7)); DL.ask (fdivD x26 y27)); let y29 ← (pure (.int 16807)); DL.ask (mulD x28 y29)); let r31 ← pure []; pure (x30 :: r31)); DL.ask (intD r32)); let y34 ← (pure (.int 2147483647)); DL.ask (modD x33 y34)); let y36 ← (pure (.int 128)); DL.ask (fdivD x35 y36)); let y38 ← (pure a1); DL.ask (modD x37 y38)); pure (.rt v39))))
def m__law_take_6859 : List D → M D := apM1 fun a1 => runM false (b__law_take_6859 a1)
theorem n__law_take_6859 : ∀ ds s, m__law_take_6859 ds s ≠ .stuck → ds.length = 1 := apM1_len _
def b__law_of_bf28 (a1 : D) : M (Fl Unit Empty) := (do let v9 ← (do let x7 ← (pure a1); let y8 ← (do let r6 ← (do let x4 ← (do let r3 ← (do let x1 ← (pure a1); let r2 ← pure []; pure (x1 :: r2)); DL.ask (lenD r3)); let r5 ← pure []; pure (x4 :: r5)); m__law_take_6859 r6); DL.ask (ixD x7 y8)); pure (.rt v9))
def m__law_of_bf28 : List D → M D := apM1 fun a1 => runM false (b__law_of_bf28 a1)
theorem n__law_of_bf28 : ∀ ds s, m__law_of_bf28 ds s ≠ .stuck → ds.length = 1 := apM1_len _
def b__law_signs_3c02 (a1 : D) : M (Fl Unit Empty) := (do let v1 ← (do let r5 ← (do let x3 ← (pure (.str [48, 49, 50, 51, 52, 53, 54, 55, 56, 57, 97, 98, 99, 100, 101, 102, 103, 104, 105, 106, 107, 108, 109, 110, 111, 112, 113, 114, 115, 116, 117, 118, 119, 120, 121, 122])); let r4 ← pure []; pure (x3 :: r4)); let r6 ← DL.ask (listD r5); DL.ask (szL r6)); let v2 ← (do let r7 ← pure []; DL.ask (szL r7)); (do let r26 ← (do let r10 ← (do let x8 ← (pure a1); let r9 ← pure []; pure (x8 :: r9)); DL.ask (rng1 r10)); seqF (forF (fun d => some d) (fun (a11 : List D × List D) (c12 : D) => (do let r23 ← (do let j22 ← (do let r21 ← (do let x19 ← (do let w15 ← Mo.noex (do let r18 ← (do let x16 ← (pure (.lst a11.1)); let r17 ← pure []; pure (x16 :: r17)); DL.ask (lenD r18)); DL.ask (flatD w15)); let r20 ← pure []; pure (x19 :: r20)); m__law_take_6859 r21); DL.ask (popI a11.1 j22)); let v14 ← DL.ask (apd a11.2 r23.1); (pure (.nx (r23.2, v14))))) r26 (v1, v2)) fun (a24 : List D × List D) => (do let v25 ← (pure (.lst a24.2)); pure (.rt v25))))
def m__law_signs_3c02 : List D → M D := apM1 fun a1 => runM false (b__law_signs_3c02 a1)
theorem n__law_signs_3c02 : ∀ ds s, m__law_signs_3c02 ds s ≠ .stuck → ds.length = 1 := apM1_len _
/-! ### what they do -/
theorem take_ok {n : Int} (h0 : 0 < n) (h1 : n < 4294967296) : Ok (m__law_take_6859 [.int n]) fun d => ∃ i, d = .int i ∧ 0 ≤ i ∧ i < n := by
  refine ok_runM ?_
  unfold b__law_take_6859
  simp only [pure_bind, bind_assoc]
  refine ok_bind (ok_bagX fun i => ?_)
  simp only [gt_ii, Option.bind_some, bOf_bl, askM, pure_bind]
  have hm : ∀ j : Int, FlQ false (fun d => ∃ i, d = .int i ∧ 0 ≤ i ∧ i < n) (.rt (.int (j % n))) := fun j => ⟨_, rfl, Int.emod_nonneg _ (by omega), Int.emod_lt_of_pos _ h0⟩
  refine ok_seq (ok_ite (fun _ => ?_) fun _ => ok_pure ?_)
  · refine ok_bind (ok_bagX fun i => ?_)
    simp only [int_int, askM, pure_bind, mod_ii h0]
    refine ok_bind (ok_bagX fun j => ?_)
    simp only [fdiv_ii h0 (by omega), askM, pure_bind, int_of]
    exact ok_bind (ok_setX (ok_pure (hm _)))
  · show Ok _ _
    refine ok_bind (ok_bagY fun i h2 h3 => ?_)
    simp only [mul_ii (i := i) (j := 69621) (by omega) (by omega), askM, pure_bind, add_ii, int_int, mod_ii (j := 2147483543) (by omega), int_of]
    refine ok_bind (ok_setY (Int.emod_nonneg _ (by omega)) (Int.lt_trans (Int.emod_lt_of_pos _ (by omega)) (by omega)) ?_)
    refine ok_bind (ok_bagY fun j h4 h5 => ?_)
    simp only [fdiv_ii (i := j) (j := 7) (by omega) (by omega), askM, pure_bind]
    have hj : (j / 7).natAbs < 2 ^ 64 := by omega
    simp only [mul_ii (i := j / 7) (j := 16807) hj (by omega), askM, pure_bind, int_int, mod_ii (j := 2147483647) (by omega), fdiv_ii (j := 128) (by omega) (by omega), mod_ii h0]
    exact ok_pure (hm _)
theorem bag_ok (ns : List Int) {i : Int} (h0 : 0 ≤ i) (h1 : i < 1000) : OkR (m__law_bag_fbbe [.scr ns, .int i]) fun d => ∃ x y, d = .lst [.int x, .int y] ∧ 0 ≤ y ∧ y < 4294967296 := by
  refine okr_runR ?_
  unfold b__law_bag_fbbe
  have hx : ∃ x : Int, iteM (m := R) (do let x5 ← (pure (.int i)); let y6 ← (do let r4 ← (do let x2 ← (pure (.scr ns)); let r3 ← pure []; pure (x2 :: r3)); DL.ask (lenD r4)); DL.ask ((ltD x5 y6).bind bOf)) (do let r11 ← (do let x9 ← (do let x7 ← (pure (.scr ns)); let y8 ← (pure (.int i)); DL.ask (ixD x7 y8)); let r10 ← pure []; pure (x9 :: r10)); DL.ask (absD r11)) (pure (.int 0)) = .ok (.int x) := by
    simp only [iteM, R.pure_eq, R.bind_eq, R.bd, len_scr, ask_some, lt_ii, Option.bind_some, bOf_bl]
    by_cases c : i < (ns.length : Int)
    · rw [if_pos (by simpa using c)]
      have e : ixD (.scr ns) (.int i) = some (.int (ns[i.toNat]'(by omega))) := by
        unfold ixD L2.atI
        simp only [ixN_ok h0 c]
        show Option.map D.int (ns[i.toNat]?) = _
        rw [List.getElem?_eq_getElem (by omega)]
        rfl
      rw [e]
      exact ⟨_, rfl⟩
    · rw [if_neg (by simpa using c)]
      exact ⟨_, rfl⟩
  obtain ⟨x, hx⟩ := hx
  rw [hx]
  simp only [R.pure_eq, R.bind_eq, R.bd, mul_ii (i := 7919) (j := i) (by omega) (by omega), ask_some, add_ii, int_of, sliceD, enumOf]
  have hz : (cutL ns none (some 63)).length ≤ 63 := by
    unfold cutL
    have e1 : HT.sIx ns.length 0 none = 0 := rfl
    have e2 : HT.sIx ns.length ns.length (some 63) ≤ 63 := by unfold HT.sIx; simp only; split <;> omega
    rw [List.length_take]
    omega
  refine okr_seq (okr_for (fun _ a => ∃ m : Int, a = .int m ∧ 0 ≤ m ∧ m < 4294967296) _ _ ⟨_, rfl, by omega, by omega⟩ ?_ ?_)
  · rintro k d a hd ⟨m, rfl, h2, h3⟩
    unfold enumL at hd
    rw [List.getElem?_mapIdx, List.getElem?_map] at hd
    cases e : (cutL ns none (some 63))[k]? with
    | none => rw [e] at hd; cases hd
    | some z =>
      rw [e] at hd
      cases hd
      have hk : k < 63 := Nat.lt_of_lt_of_le (List.getElem?_eq_some_iff.mp e).1 hz
      refine ⟨(.int (k : Int), .int z), rfl, ?_⟩
      simp only [mul_ii (i := m) (j := 41358) (by omega) (by omega), ask_some, R.bd, int_int, mod_ii (j := 2147483587) (by omega), add_ii, mul_ii (i := 10007) (j := (k : Int)) (by omega) (by omega), mod_ii (j := 2147483549) (by omega)]
      exact okr_pure ⟨_, rfl, Int.emod_nonneg _ (by omega), Int.lt_trans (Int.emod_lt_of_pos _ (by omega)) (by omega)⟩
  · rintro a ⟨m, rfl, h2, h3⟩
    show OkR _ _
    have e3 : powC (.int 10) (.int 18) = some (.int 1000000000000000000) := rfl
    simp only [e3, ask_some, R.bd, iteM, R.bind_eq, R.pure_eq, ge_ii, Option.bind_some, bOf_bl]
    by_cases c : (1000000000000000000 : Int) ≤ x
    · rw [if_pos (by simpa using c)]
      exact okr_pure ⟨_, _, rfl, h2, h3⟩
    · rw [if_neg (by simpa using c)]
      exact okr_pure ⟨_, _, rfl, h2, h3⟩
theorem of_ok {ds : List D} (h0 : ds ≠ []) (h1 : ds.length ≤ 1000000) : Ok (m__law_of_bf28 [.lst ds]) fun d => d ∈ ds := by
  refine ok_runM ?_
  unfold b__law_of_bf28
  have hp : 0 < ds.length := List.length_pos_iff.mpr h0
  simp only [pure_bind, bind_assoc, len_lst, askM]
  refine ok_then (take_ok (n := ds.length) (by omega) (by omega)) ?_
  rintro d ⟨i, rfl, h2, h3⟩
  simp only [ix_lst h2 h3, askM, pure_bind]
  exact ok_pure (List.getElem_mem _)
theorem erase_map {α β : Type} (f : α → β) (l : List α) (i : Nat) : (l.map f).eraseIdx i = (l.eraseIdx i).map f := by
  rw [List.eraseIdx_eq_take_drop_succ, List.eraseIdx_eq_take_drop_succ, List.map_append, List.map_take, List.map_drop]
theorem erase_perm {α : Type} {l : List α} {i : Nat} (h : i < l.length) : (l[i] :: l.eraseIdx i).Perm l := by
  rw [List.eraseIdx_eq_take_drop_succ]
  refine List.perm_middle.symm.trans ?_
  rw [List.getElem_cons_drop h, List.take_append_drop]
/-- the thirty-six signs -/
def CH : List Nat := [48, 49, 50, 51, 52, 53, 54, 55, 56, 57, 97, 98, 99, 100, 101, 102, 103, 104, 105, 106, 107, 108, 109, 110, 111, 112, 113, 114, 115, 116, 117, 118, 119, 120, 121, 122]
theorem list_str {s : List Nat} : listD [.str s] = some (chrs s) := rfl
theorem chrs_len {s : List Nat} : (chrs s).length = s.length := by simp [chrs]
theorem signs_ok {n : Int} (h0 : 0 ≤ n) (h1 : n ≤ 36) : Ok (m__law_signs_3c02 [.int n]) fun d => ∃ cs : List Nat, d = .lst (chrs cs) ∧ cs.length = n.toNat ∧ cs.Nodup ∧ ∀ c ∈ cs, c ∈ CH := by
  refine ok_runM ?_
  unfold b__law_signs_3c02
  simp only [pure_bind, bind_assoc, list_str, askM, sz_ok (ds := []) (by simp), sz_ok (ds := chrs CH) (by decide), rng1_ok (j := n) (by omega) (by omega)]
  have e0 : DL.szL (chrs [48, 49, 50, 51, 52, 53, 54, 55, 56, 57, 97, 98, 99, 100, 101, 102, 103, 104, 105, 106, 107, 108, 109, 110, 111, 112, 113, 114, 115, 116, 117, 118, 119, 120, 121, 122]) = some (chrs CH) := sz_ok (by decide)
  rw [e0]
  simp only [askM, pure_bind]
  refine ok_seq (ok_for (fun i a => ∃ ls fs : List Nat, a = (chrs ls, chrs fs) ∧ fs.length = i ∧ ls.length + i = 36 ∧ (fs ++ ls).Nodup ∧ ∀ c ∈ fs ++ ls, c ∈ CH) _ _ ⟨CH, [], rfl, rfl, rfl, by decide, by simp⟩ ?_ ?_)
  · rintro i d a hd ⟨ls, fs, rfl, h2, h3, h4, h5⟩
    obtain ⟨hi, rfl⟩ := range_get hd
    refine ⟨_, rfl, ?_⟩
    simp only [len_lst, askM, noex_M, pure_bind, flat_int]
    refine ok_then (take_ok (n := (chrs ls).length) (by rw [chrs_len]; omega) (by rw [chrs_len]; omega)) ?_
    rintro d ⟨j, rfl, h6, h7⟩
    simp only [pop_ok h6 h7, askM, pure_bind, apd_ok (ds := chrs fs) (by rw [chrs_len]; omega)]
    rw [chrs_len] at h7
    have hj : j.toNat < ls.length := by omega
    refine ok_pure ⟨ls.eraseIdx j.toNat, fs ++ [ls[j.toNat]], ?_, by simp [h2], ?_, ?_, ?_⟩
    · unfold chrs
      rw [erase_map, List.map_append, List.getElem_map]
      rfl
    · rw [List.length_eraseIdx_of_lt hj]
      omega
    · have p : (fs ++ [ls[j.toNat]] ++ ls.eraseIdx j.toNat).Perm (fs ++ ls) := by
        rw [List.append_assoc]
        exact List.Perm.append_left fs (erase_perm hj)
      exact p.nodup_iff.mpr h4
    · intro c hc
      rcases List.mem_append.mp hc with hc | hc
      · rcases List.mem_append.mp hc with hc | hc
        · exact h5 c (List.mem_append_left _ hc)
        · have : c = ls[j.toNat] := by simpa using hc
          exact h5 c (List.mem_append_right _ (this ▸ List.getElem_mem _))
      · exact h5 c (List.mem_append_right _ (List.mem_of_mem_eraseIdx hc))
  · rintro a ⟨ls, fs, rfl, h2, h3, h4, h5⟩
    show Ok _ _
    rw [range_len] at h2
    exact ok_pure ⟨fs, rfl, h2, (List.nodup_append.mp h4).1, fun c hc => h5 c (List.mem_append_left _ hc)⟩
/-! labels, paths, hosts -/
def isLab (n : Nat) (z : List Nat) : Bool := decide (1 ≤ z.length) && (decide (z.length ≤ n) && z.all fun c => decide (c ∈ CH))
theorem chrs_mem {z : List Nat} {d : D} (h : d ∈ chrs z) : ∃ c ∈ z, d = .str [c] := by
  obtain ⟨c, m, rfl⟩ := List.mem_map.mp h
  exact ⟨c, m, rfl⟩
def sgn : D → Nat
  | .str [c] => c
  | _ => 0
theorem filter_chrs (p : Nat → Bool) : ∀ z : List Nat, (chrs z).filter (fun d => p (sgn d)) = chrs (z.filter p)
  | [] => rfl
  | c :: z => by
    show ((D.str [c]) :: chrs z).filter (fun d => p (sgn d)) = _
    rw [List.filter_cons, List.filter_cons, filter_chrs p z]
    show (if p c = true then _ else _) = _
    cases p c <;> rfl
theorem filter_none {α : Type} (p : α → Bool) (z : List α) : (z.filter fun c => !p c).isEmpty = z.all p := by
  induction z with
  | nil => rfl
  | cons c z ih =>
    rw [List.filter_cons, List.all_cons, ← ih]
    cases p c <;> rfl
theorem chrs_empty (z : List Nat) : (chrs z).isEmpty = z.isEmpty := by cases z <;> rfl
end FN
namespace DL
open PySem
theorem ok_seqP {α β γ : Type} {x : M (Fl α β)} {k : α → M (Fl γ β)} {Q : Fl γ β → Prop} (P : α → Prop) (h : Ok x (SeqQ P Q)) (w : ∀ a, P a → Ok (k a) Q) : Ok (seqF x k) Q := ok_seq (ok_mono h fun f q => by
  cases f with
  | nx a => exact w a q
  | rt d => exact q
  | bk b => exact q
  | ct b => exact q)
theorem askR {α : Type} {a : α} : (ask (some a) : R α) = pure a := rfl
theorem okpR {α : Type} {a : α} : (R.ok a) = (pure a : R α) := rfl
theorem lift_pR {α : Type} {a : R α} : (Mo.lift a : R α) = a := rfl
theorem okr_p {α : Type} {a : α} {Q : α → Prop} (h : Q a) : OkR (pure a : R α) Q := ⟨a, rfl, h⟩
/-! ### texts -/
theorem mul_s {a : List Nat} {k : Nat} (h0 : k < 1000000) (h : a.length * k ≤ 1000000) : mulD (.str a) (.int k) = some (.str (List.replicate k a).flatten) := by
  have e : ∀ i : Int, mulD (.str a) (.int i) = if 0 ≤ i ∧ i < 1000000 ∧ a.length * i.toNat ≤ 1000000 then some (.str (List.replicate i.toNat a).flatten) else none := fun i => rfl
  rw [e, Int.toNat_natCast, if_pos ⟨by omega, by omega, h⟩]
theorem rep_mem {α : Type} {a : List α} {c : α} : ∀ {k : Nat}, c ∈ (List.replicate k a).flatten → c ∈ a
  | 0, h => by simp at h
  | k + 1, h => by
    rw [List.replicate_succ, List.flatten_cons] at h
    rcases List.mem_append.mp h with h | h
    · exact h
    · exact rep_mem h
def Tx (n : Nat) (z : List Nat) : Prop := z.length ≤ n ∧ ∀ c ∈ z, c < 1114112
theorem Tx.up {n m : Nat} {z : List Nat} (h : Tx n z) (w : n ≤ m) : Tx m z := ⟨Nat.le_trans h.1 w, h.2⟩
theorem Tx.app {n m : Nat} {a b : List Nat} (h : Tx n a) (k : Tx m b) : Tx (n + m) (a ++ b) := ⟨by rw [List.length_append]; exact Nat.add_le_add h.1 k.1, fun c hc => by
  rcases List.mem_append.mp hc with hc | hc
  · exact h.2 c hc
  · exact k.2 c hc⟩
theorem cutL_mem {α : Type} {z : List α} {lo hi : Option Int} {c : α} (h : c ∈ cutL z lo hi) : c ∈ z := by
  unfold cutL at h
  exact List.mem_of_mem_drop (List.mem_of_mem_take h)
theorem Tx.cut {n : Nat} {z : List Nat} (h : Tx n z) (lo hi : Option Int) : Tx n (cutL z lo hi) := ⟨Nat.le_trans (cutL_len _ _ _) h.1, fun c hc => h.2 c (cutL_mem hc)⟩
theorem add_ss {a b : List Nat} (h : a.length + b.length ≤ 1000000) : addD (.str a) (.str b) = some (.str (a ++ b)) := if_pos (by rw [sizeLine_eq]; omega)
theorem add_ll {a b : List D} (h : a.length + b.length ≤ 1000000) : addD (.lst a) (.lst b) = some (.lst (a ++ b)) := if_pos (by rw [sizeLine_eq]; omega)
@[simp] theorem slice_s {z : List Nat} {lo hi : Option Int} : sliceD (.str z) lo hi = some (.str (cutL z lo hi)) := rfl
@[simp] theorem slice_l {z : List D} {lo hi : Option Int} : sliceD (.lst z) lo hi = some (.lst (cutL z lo hi)) := rfl
theorem cut_hi {α : Type} {z : List α} {i : Int} (h : 0 ≤ i) : cutL z none (some i) = z.take i.toNat := by
  unfold cutL
  have e1 : HT.sIx z.length 0 none = 0 := rfl
  have e2 : HT.sIx z.length z.length (some i) = min i.toNat z.length := by
    unfold HT.sIx
    simp only
    split <;> omega
  rw [e1, e2, List.drop_zero, Nat.sub_zero, List.take_eq_take_iff]
  omega
theorem cut_lo {α : Type} {z : List α} {i : Int} (h : 0 ≤ i) : cutL z (some i) none = z.drop i.toNat := by
  unfold cutL
  have e1 : HT.sIx z.length z.length none = z.length := rfl
  have e2 : HT.sIx z.length 0 (some i) = min i.toNat z.length := by
    unfold HT.sIx
    simp only
    split <;> omega
  rw [e1, e2]
  by_cases c : i.toNat ≤ z.length
  · rw [Nat.min_eq_left c, List.take_of_length_le (by simp)]
  · rw [Nat.min_eq_right (by omega), List.drop_eq_nil_of_le (Nat.le_refl _), List.drop_eq_nil_of_le (by omega)]
    simp
theorem joinN_nil : ∀ ps : List (List Nat), joinN [] ps = ps.flatten
  | [] => rfl
  | [p] => by simp [joinN]
  | p :: q :: r => by rw [joinN, joinN_nil (q :: r)]; simp
theorem strs_map : ∀ ps : List (List Nat), strsOf (ps.map .str) = some ps
  | [] => rfl
  | p :: ps => by
    show (strsOf (ps.map .str)).map (p :: ·) = _
    rw [strs_map ps]
    rfl
theorem join_ok {S : List Nat} {ps : List (List Nat)} (h : (ps.map (·.length)).sum + ps.length * S.length ≤ 16777216) : joinD (.str S) (.lst (ps.map .str)) = some (.str (joinN S ps)) := by
  unfold joinD
  show (match strsOf (ps.map .str) with | some ps => _ | none => _) = _
  rw [strs_map]
  exact if_pos h
theorem flat_ones : ∀ z : List Nat, (z.map fun c => [c]).flatten = z
  | [] => rfl
  | c :: z => by simp [flat_ones z]
theorem sum_ones : ∀ z : List Nat, ((z.map fun c => [c]).map (·.length)).sum = z.length
  | [] => rfl
  | c :: z => by rw [List.map_cons, List.map_cons, List.sum_cons, sum_ones z]; simp; omega
/-- the text of drawn signs -/
theorem join_chrs {z : List Nat} (h : z.length ≤ 1000000) : joinD (.str []) (.lst (chrs z)) = some (.str z) := by
  have e : chrs z = (z.map fun c => [c]).map .str := by unfold chrs; rw [List.map_map]; rfl
  rw [e, join_ok, joinN_nil, flat_ones]
  rw [sum_ones]
  simp
  omega
/-- what was drawn of signs -/
theorem drawn_chrs {α : Type} {cs : List Nat} : ∀ {xs : List α} {rs : List D}, All2 (fun _ r => r ∈ chrs cs) xs rs → ∃ z, rs = chrs z ∧ z.length = xs.length ∧ ∀ c ∈ z, c ∈ cs
  | _, _, .nil => ⟨[], rfl, rfl, by simp⟩
  | _, _, .cons h t => by
    obtain ⟨z, rfl, e, hz⟩ := drawn_chrs t
    obtain ⟨c, m, rfl⟩ := List.mem_map.mp h
    refine ⟨c :: z, rfl, by simp [e], fun x hx => ?_⟩
    rcases List.mem_cons.mp hx with rfl | hx
    · exact m
    · exact hz x hx
/-! ### repr -/
theorem str_beq (a b : List Nat) : PyData.eqv (.str ⟨a.toArray⟩) (.str ⟨b.toArray⟩) = decide (a = b) := by
  rw [PyData.eqv]
  by_cases h : a = b
  · subst h
    simp
  · rw [decide_eq_false h]
    have : (⟨a.toArray⟩ : Str) ≠ ⟨b.toArray⟩ := fun z => by
      have z2 : a.toArray = b.toArray := Str.mk.inj z
      exact h (by simpa using z2)
    simpa using this
theorem bols_map {α : Type} (f : α → Bool) : ∀ xs : List α, bolsOf (xs.map fun x => .bl (f x)) = some (xs.map f)
  | [] => rfl
  | x :: xs => by
    show (bolsOf _).map (_ :: ·) = _
    rw [bols_map f xs]
    rfl
theorem all_map {α : Type} (f : α → Bool) (xs : List α) : allD [.lst (xs.map fun x => .bl (f x))] = some (.bl (xs.all f)) := by
  unfold allD
  simp only [bols_map, Option.map_some, List.all_map]
  rfl
end DL
/-! ### plain data of a bounded depth: repr, ==, in -/
namespace DL
open PySem
mutual
def wt : D → Nat
  | .str z => z.length
  | .tup ds => wtL ds + 1
  | .lst ds => wtL ds + 1
  | .int _ => 70
  | _ => 1
def wtL : List D → Nat
  | [] => 0
  | d :: ds => wt d + 1 + wtL ds
end
mutual
def nic : Nat → D → Bool
  | _, .non => true
  | _, .bl _ => true
  | _, .int i => decide (i.natAbs < 10 ^ 20)
  | _, .str z => z.all fun c => decide (c < 1114112)
  | n + 1, .tup ds => nicL n ds
  | n + 1, .lst ds => nicL n ds
  | _, _ => false
def nicL : Nat → List D → Bool
  | _, [] => true
  | n, d :: ds => nic n d && nicL n ds
end
mutual
def py : D → PyData
  | .non => .none
  | .bl b => .bool b
  | .int i => .int i
  | .str s => .str ⟨s.toArray⟩
  | .tup ds => .tuple (pyL ds)
  | .lst ds => .list (pyL ds)
  | _ => .none
def pyL : List D → List PyData
  | [] => []
  | d :: ds => py d :: pyL ds
end
mutual
def deq : D → D → Bool
  | .non, .non => true
  | .bl a, .bl b => a == b
  | .bl a, .int j => (if a then 1 else 0) == j
  | .int i, .bl b => i == (if b then 1 else 0)
  | .int i, .int j => i == j
  | .str x, .str y => decide (x = y)
  | .lst xs, .lst ys => deqL xs ys
  | .tup xs, .tup ys => deqL xs ys
  | _, _ => false
def deqL : List D → List D → Bool
  | [], [] => true
  | x :: xs, y :: ys => deq x y && deqL xs ys
  | _, _ => false
end
theorem int20 {i : Int} (h : i.natAbs < 10 ^ 20) : i.natAbs.log2 < 67 := PySem.Flt.log2_lt_of (k := 67) (by decide) (Nat.lt_of_lt_of_le h (by decide))
theorem shown20 {i : Int} (h : i.natAbs < 10 ^ 20) : (PyData.shown (.int i)).length ≤ 21 := by
  have e := int_text_length_le10 (k := 20) (by decide) h
  show (Str.ofString (toString i)).length ≤ 21
  rw [ofString_length]; exact e
structure NicP (n : Nat) (w : Nat) (p : PyData) : Prop where
  lay : p.canLay0 = true
  dep : p.depth ≤ n
  sho : p.showable = true
  lea : p.leavesShort 25 = true
  wei : p.weight ≤ w
  nod : p.hasDict = false
structure NicL (n : Nat) (w : Nat) (p : List PyData) : Prop where
  lay : PyData.canLayAll0 p = true
  dep : PyData.depthAll p ≤ n
  sho : PyData.showableAll p = true
  lea : PyData.leavesShortAll 25 p = true
  wei : PyData.weightAll p ≤ w
  nod : PyData.hasDictAll p = false
mutual
theorem nic_ok : ∀ (n : Nat) (d : D), nic n d = true → toPy d = some (py d) ∧ NicP n (wt d) (py d)
  | n, .non, _ => ⟨by simp [toPy, py], by constructor <;> simp [py, PyData.canLay0, PyData.depth, PyData.showable, PyData.leavesShort, PyData.weight, PyData.hasDict, wt]⟩
  | n, .bl _, _ => ⟨by simp [toPy, py], by constructor <;> simp [py, PyData.canLay0, PyData.depth, PyData.showable, PyData.leavesShort, PyData.weight, PyData.hasDict, wt]⟩
  | n, .int i, h => by
    have h' : i.natAbs < 10 ^ 20 := by simpa [nic] using h
    have hl := int20 h'
    refine ⟨by simp [toPy, py], ?_⟩
    constructor <;> simp [py, PyData.canLay0, PyData.depth, PyData.showable, PyData.leavesShort, PyData.hasDict]
    · omega
    · have := shown20 h'; omega
    · simp only [PyData.weight, wt]
      split <;> omega
  | n, .str z, h => by
    have h' : ∀ c ∈ z, c < 1114112 := by simpa [nic] using h
    refine ⟨by simp [toPy, py], ?_⟩
    constructor <;> simp [py, PyData.canLay0, PyData.depth, PyData.showable, PyData.leavesShort, PyData.hasDict, PyData.strOk, PyData.weight, wt]
    · exact h'
    · intro c hc; have := h' c hc; omega
  | n + 1, .tup ds, h => by
    obtain ⟨e, q⟩ := nicL_ok n ds (by simpa [nic] using h)
    refine ⟨by rw [toPy, e]; simp [py], ?_⟩
    constructor <;> simp only [py, PyData.canLay0, PyData.depth, PyData.showable, PyData.leavesShort, PyData.hasDict, PyData.weight, wt]
    · exact q.lay
    · exact Nat.succ_le_succ q.dep
    · exact q.sho
    · exact q.lea
    · exact Nat.le_succ_of_le q.wei
    · exact q.nod
  | n + 1, .lst ds, h => by
    obtain ⟨e, q⟩ := nicL_ok n ds (by simpa [nic] using h)
    refine ⟨by rw [toPy, e]; simp [py], ?_⟩
    constructor <;> simp only [py, PyData.canLay0, PyData.depth, PyData.showable, PyData.leavesShort, PyData.hasDict, PyData.weight, wt]
    · exact q.lay
    · exact Nat.succ_le_succ q.dep
    · exact q.sho
    · exact q.lea
    · exact Nat.le_succ_of_le q.wei
    · exact q.nod
  | 0, .tup _, h => by simp [nic] at h
  | 0, .lst _, h => by simp [nic] at h
  | n, .dic _ _, h => by simp [nic] at h
  | n, .ins _ _ _, h => by simp [nic] at h
  | n, .scr _, h => by simp [nic] at h
  | n, .xc _ _ _ _, h => by simp [nic] at h
theorem nicL_ok : ∀ (n : Nat) (ds : List D), nicL n ds = true → toPyL ds = some (pyL ds) ∧ NicL n (wtL ds) (pyL ds)
  | n, [], _ => ⟨by simp [toPyL, pyL], by constructor <;> simp [pyL, PyData.canLayAll0, PyData.depthAll, PyData.showableAll, PyData.leavesShortAll, PyData.weightAll, PyData.hasDictAll, wtL]⟩
  | n, d :: ds, h => by
    have h' : nic n d = true ∧ nicL n ds = true := by simpa [nicL] using h
    obtain ⟨e1, q1⟩ := nic_ok n d h'.1
    obtain ⟨e2, q2⟩ := nicL_ok n ds h'.2
    refine ⟨by simp [toPyL, e1, e2, pyL], ?_⟩
    have := q1.wei
    have := q2.wei
    have := q1.dep
    have := q2.dep
    constructor <;> simp only [pyL, PyData.canLayAll0, PyData.depthAll, PyData.showableAll, PyData.leavesShortAll, PyData.weightAll, PyData.hasDictAll, wtL]
    · rw [q1.lay, q2.lay]; rfl
    · omega
    · rw [q1.sho, q2.sho]; rfl
    · rw [q1.lea, q2.lea]; rfl
    · omega
    · rw [q1.nod, q2.nod]; rfl
end
theorem repr_nic {n : Nat} {d : D} (h : nic n d = true) (hn : n ≤ 60) (w : wt d ≤ 500000) : ∃ s, reprD [d] = some (.str s) := by
  obtain ⟨e, q⟩ := nic_ok n d h
  unfold reprD
  simp only [e]
  refine ⟨_, if_pos ?_⟩
  simp only [Bool.and_eq_true, Bool.not_eq_true', decide_eq_true_eq]
  refine ⟨⟨⟨q.sho, q.nod⟩, Nat.le_trans q.dep hn⟩, ?_⟩
  have h1 := PyData.shown_le 25 (by decide) (py d) q.lea
  have h2 := q.wei
  rw [sizeLine_eq]
  omega
theorem shaped_nic {n : Nat} {d : D} (h : nic n d = true) (hn : n ≤ 60) : toPy d = some (py d) ∧ SeqAt.shaped (py d) = true := by
  obtain ⟨e, q⟩ := nic_ok n d h
  refine ⟨e, ?_⟩
  unfold SeqAt.shaped
  rw [q.lay]
  have := q.dep
  simp only [Bool.true_and, decide_eq_true_eq]
  omega
theorem str_eqv (x y : List Nat) : ((⟨x.toArray⟩ : Str) == ⟨y.toArray⟩) = decide (x = y) := by
  have := str_beq x y
  rw [PyData.eqv] at this
  exact this
mutual
theorem deq_py : ∀ (n m : Nat) (a b : D), nic n a = true → nic m b = true → PyData.eqv (py a) (py b) = deq a b
  | n, m, .non, b, _, hb => by cases b <;> simp [py, PyData.eqv, deq] <;> simp [nic] at hb
  | n, m, .bl x, b, _, hb => by cases b <;> simp [py, PyData.eqv, deq] <;> simp [nic] at hb
  | n, m, .int x, b, _, hb => by cases b <;> simp [py, PyData.eqv, deq] <;> simp [nic] at hb
  | n, m, .str x, b, _, hb => by cases b <;> simp [py, PyData.eqv, deq, str_eqv] <;> simp [nic] at hb
  | n + 1, m, .tup x, b, ha, hb => by
    cases b with
    | tup y =>
      cases m with
      | zero => simp [nic] at hb
      | succ m =>
        simp only [py, PyData.eqv, deq]
        exact deqL_py n m x y (by simpa [nic] using ha) (by simpa [nic] using hb)
    | _ => simp [py, PyData.eqv, deq] <;> simp [nic] at hb
  | n + 1, m, .lst x, b, ha, hb => by
    cases b with
    | lst y =>
      cases m with
      | zero => simp [nic] at hb
      | succ m =>
        simp only [py, PyData.eqv, deq]
        exact deqL_py n m x y (by simpa [nic] using ha) (by simpa [nic] using hb)
    | _ => simp [py, PyData.eqv, deq] <;> simp [nic] at hb
  | 0, m, .tup _, b, h, _ => by simp [nic] at h
  | 0, m, .lst _, b, h, _ => by simp [nic] at h
  | n, m, .dic _ _, b, h, _ => by simp [nic] at h
  | n, m, .ins _ _ _, b, h, _ => by simp [nic] at h
  | n, m, .scr _, b, h, _ => by simp [nic] at h
  | n, m, .xc _ _ _ _, b, h, _ => by simp [nic] at h
theorem deqL_py : ∀ (n m : Nat) (a b : List D), nicL n a = true → nicL m b = true → PyData.eqvAll (pyL a) (pyL b) = deqL a b
  | n, m, [], [], _, _ => by simp [pyL, PyData.eqvAll, deqL]
  | n, m, [], _ :: _, _, _ => by simp [pyL, PyData.eqvAll, deqL]
  | n, m, _ :: _, [], _, _ => by simp [pyL, PyData.eqvAll, deqL]
  | n, m, x :: xs, y :: ys, h, k => by
    have h' : nic n x = true ∧ nicL n xs = true := by simpa [nicL] using h
    have k' : nic m y = true ∧ nicL m ys = true := by simpa [nicL] using k
    simp only [pyL, PyData.eqvAll, deqL]
    rw [deq_py n m x y h'.1 k'.1, deqL_py n m xs ys h'.2 k'.2]
end
theorem eqP_nic {n m : Nat} {a b : D} (ha : nic n a = true) (hb : nic m b = true) (hn : n ≤ 60) (hm : m ≤ 60) : eqP a b = some (deq a b) := by
  have e : eqS a b = some (deq a b) := by
    obtain ⟨e1, s1⟩ := shaped_nic ha hn
    obtain ⟨e2, s2⟩ := shaped_nic hb hm
    unfold eqS
    rw [e1, e2]
    simp only [s1, s2, Bool.and_self, if_true, deq_py n m a b ha hb]
  unfold eqP
  split
  · simp [deq]
  · simp [deq]; rw [Bool.eq_iff_iff]; simp
  · simp [deq]; rw [Bool.eq_iff_iff]; simp
  · simp [deq]
  · exact e
theorem eq_nic {n m : Nat} {a b : D} (ha : nic n a = true) (hb : nic m b = true) (hn : n ≤ 60) (hm : m ≤ 60) : eqD a b = some (.bl (deq a b)) := by unfold eqD; rw [eqP_nic ha hb hn hm]; rfl
mutual
theorem deq_refl : ∀ (n : Nat) (a : D), nic n a = true → deq a a = true
  | n, .non, _ => by simp [deq]
  | n, .bl _, _ => by simp [deq]
  | n, .int _, _ => by simp [deq]
  | n, .str _, _ => by simp [deq]
  | n + 1, .tup x, h => by simp only [deq]; exact deqL_refl n x (by simpa [nic] using h)
  | n + 1, .lst x, h => by simp only [deq]; exact deqL_refl n x (by simpa [nic] using h)
  | 0, .tup _, h => by simp [nic] at h
  | 0, .lst _, h => by simp [nic] at h
  | n, .dic _ _, h => by simp [nic] at h
  | n, .ins _ _ _, h => by simp [nic] at h
  | n, .scr _, h => by simp [nic] at h
  | n, .xc _ _ _ _, h => by simp [nic] at h
theorem deqL_refl : ∀ (n : Nat) (a : List D), nicL n a = true → deqL a a = true
  | n, [], _ => by simp [deqL]
  | n, x :: xs, h => by
    have h' : nic n x = true ∧ nicL n xs = true := by simpa [nicL] using h
    simp only [deqL, deq_refl n x h'.1, deqL_refl n xs h'.2, Bool.and_self]
end
theorem nicL_iff {n : Nat} : ∀ {ds : List D}, nicL n ds = true ↔ ∀ d ∈ ds, nic n d = true
  | [] => by simp [nicL]
  | d :: ds => by simp [nicL, nicL_iff (ds := ds)]
theorem nic_strs {n : Nat} {zs : List (List Nat)} (h : ∀ z ∈ zs, ∀ c ∈ z, c < 1114112) : nicL n (zs.map .str) = true := nicL_iff.mpr fun d m => by
  obtain ⟨z, hz, rfl⟩ := List.mem_map.mp m
  simpa [nic] using h z hz
mutual
theorem nic_mono : ∀ (n m : Nat) (d : D), n ≤ m → nic n d = true → nic m d = true
  | n, m, .non, _, _ => by simp [nic]
  | n, m, .bl _, _, _ => by simp [nic]
  | n, m, .int _, _, h => by simpa [nic] using h
  | n, m, .str _, _, h => by simpa [nic] using h
  | n + 1, m + 1, .tup ds, k, h => by
    have := nicL_mono n m ds (by omega) (by simpa [nic] using h)
    simpa [nic] using this
  | n + 1, m + 1, .lst ds, k, h => by
    have := nicL_mono n m ds (by omega) (by simpa [nic] using h)
    simpa [nic] using this
  | n + 1, 0, .tup _, k, h => by omega
  | n + 1, 0, .lst _, k, h => by omega
  | 0, m, .tup _, _, h => by simp [nic] at h
  | 0, m, .lst _, _, h => by simp [nic] at h
  | n, m, .dic _ _, _, h => by simp [nic] at h
  | n, m, .ins _ _ _, _, h => by simp [nic] at h
  | n, m, .scr _, _, h => by simp [nic] at h
  | n, m, .xc _ _ _ _, _, h => by simp [nic] at h
theorem nicL_mono : ∀ (n m : Nat) (ds : List D), n ≤ m → nicL n ds = true → nicL m ds = true
  | n, m, [], _, _ => by simp [nicL]
  | n, m, d :: ds, k, h => by
    have h' : nic n d = true ∧ nicL n ds = true := by simpa [nicL] using h
    simp only [nicL, nic_mono n m d k h'.1, nicL_mono n m ds k h'.2, Bool.and_self]
end
theorem nic_lst {n : Nat} {ds : List D} : nic (n + 1) (.lst ds) = nicL n ds := by simp [nic]
end DL
namespace DL
open PySem PySem.W
/-! ### orders of rows of labels -/
def pr (z : List Nat) : PyData := .tuple [.int z.length, .str ⟨z.toArray⟩]
end DL
namespace FN
open DL
def b__law_label_f2f9 (a1 a2 : D) : M (Fl Unit Empty) := (do let v1 ← (do let x16 ← (pure (.str [])); let _ ← DL.ask (strOf x16); let y17 ← (mkL (do let r15 ← (do let r9 ← (do let x7 ← (do let x5 ← (pure (.int 1)); let y6 ← (do let r4 ← (do let x2 ← (pure a2); let r3 ← pure []; pure (x2 :: r3)); m__law_take_6859 r4); DL.ask (addD x5 y6)); let r8 ← pure []; pure (x7 :: r8)); DL.ask (rng1 r9)); lcF (fun d => some d) (fun (c11 : D) => pure true) (fun (c11 : D) => (do let r14 ← (do let x12 ← (pure a1); let r13 ← pure []; pure (x12 :: r13)); m__law_of_bf28 r14)) r15)); DL.ask (joinD x16 y17)); (do let v18 ← (do let r21 ← (do let x19 ← (pure (.int 8)); let r20 ← pure []; pure (x19 :: r20)); m__law_take_6859 r21); (do let t74 ← (do let x22 ← (pure v18); let y23 ← (pure (.int 0)); DL.ask ((eqD x22 y23).bind bOf)); seqF (if t74 = true then (do let v25 ← (do let r31 ← (do let x29 ← (do let r28 ← (do let x26 ← (pure v1); let r27 ← pure []; pure (x26 :: r27)); DL.ask (lenD r28)); let r30 ← pure []; pure (x29 :: r30)); m__law_take_6859 r31); (do let v32 ← (do let x54 ← (do let x45 ← (do let x35 ← (pure v1); let l36 ← (pure none); let u37 ← (do let x33 ← (pure v25); let i34 ← DL.ask (intOf x33); pure (some i34)); DL.ask (sliceD x35 l36 u37)); let y46 ← (do let r44 ← (do let x42 ← (mkL (do let r40 ← (do let x38 ← (pure (.str [48, 49, 50, 51, 52, 53, 54, 55, 56, 57, 97, 98, 99, 100, 101, 102, 103, 104, 105, 106, 107, 108, 109, 110, 111, 112, 113, 114, 115, 116, 117, 118, 119, 120, 121, 122])); let r39 ← pure []; pure (x38 :: r39)); let r41 ← DL.ask (listD r40); DL.ask (szL r41))); let r43 ← pure []; pure (x42 :: r43)); m__law_of_bf28 r44); DL.ask (addD x45 y46)); let y55 ← (do let x51 ← (pure v1); let l52 ← (do let x49 ← (do let x47 ← (pure v25); let y48 ← (pure (.int 1)); DL.ask (addD x47 y48)); let i50 ← DL.ask (intOf x49); pure (some i50)); let u53 ← (pure none); DL.ask (sliceD x51 l52 u53)); DL.ask (addD x54 y55)); (pure (.nx v32)))) else (pure (.nx v1))) fun (a24 : D) => (do let t73 ← (do let x56 ← (pure v18); let y57 ← (pure (.int 1)); DL.ask ((eqD x56 y57).bind bOf)); seqF (if t73 = true then (do let v59 ← (do let x69 ← (do let x60 ← (pure a24); let y61 ← (pure (.int 20)); DL.ask (mulD x60 y61)); let l70 ← (pure none); let u71 ← (do let x67 ← (do let x65 ← (pure (.int 9)); let y66 ← (do let r64 ← (do let x62 ← (pure (.int 12)); let r63 ← pure []; pure (x62 :: r63)); m__law_take_6859 r64); DL.ask (addD x65 y66)); let i68 ← DL.ask (intOf x67); pure (some i68)); DL.ask (sliceD x69 l70 u71)); (pure (.nx v59))) else (pure (.nx a24))) fun (a58 : D) => (do let v72 ← (pure a58); pure (.rt v72))))))
def m__law_label_f2f9 : List D → M D := apM2 fun a1 a2 => runM false (b__law_label_f2f9 a1 a2)
theorem n__law_label_f2f9 : ∀ ds s, m__law_label_f2f9 ds s ≠ .stuck → ds.length = 2 := apM2_len _
/-! ### rows in their order -/
def okRow (A : List (List Nat)) : Bool := decide (A.length ≤ 20) && A.all (isLab 20)
/-! ### drawn labels -/
theorem isLab_iff {n : Nat} {z : List Nat} : isLab n z = true ↔ 1 ≤ z.length ∧ z.length ≤ n ∧ ∀ c ∈ z, c ∈ CH := by
  unfold isLab
  simp
theorem ch_lt {c : Nat} (h : c ∈ CH) : c < 1114112 := by
  have : ∀ x ∈ CH, x < 1114112 := by decide
  exact this c h
theorem lab_tx {z : List Nat} (h : isLab 20 z = true) : Tx 20 z := ⟨(isLab_iff.mp h).2.1, fun c m => ch_lt ((isLab_iff.mp h).2.2 c m)⟩
theorem szCH : DL.szL (chrs [48, 49, 50, 51, 52, 53, 54, 55, 56, 57, 97, 98, 99, 100, 101, 102, 103, 104, 105, 106, 107, 108, 109, 110, 111, 112, 113, 114, 115, 116, 117, 118, 119, 120, 121, 122]) = some (chrs CH) := sz_ok (by decide)
theorem drawn_ok {cs : List Nat} {n : Nat} {lo : Int} (hc : cs ≠ []) (hl : cs.length ≤ 1000) : Ok (lcF (fun d => some d) (fun (_ : D) => pure true) (fun (_ : D) => m__law_of_bf28 [.lst (chrs cs)]) (rangeL lo n)) fun rs => ∃ z, rs = chrs z ∧ z.length = n ∧ ∀ c ∈ z, c ∈ cs :=
  ok_mono (ok_lc (P := fun _ r => r ∈ chrs cs) _ fun d _ => ⟨d, rfl, of_ok (by simpa [chrs] using hc) (by rw [chrs_len]; omega)⟩) fun rs h => by
    obtain ⟨z, e, hz, hm⟩ := drawn_chrs h
    exact ⟨z, e, by rw [hz, range_len], hm⟩
/-- one sign exchanged -/
theorem exch_len {z : List Nat} {p : Int} {c : Nat} (h0 : 0 ≤ p) (h1 : p < z.length) : (cutL z none (some p) ++ [c] ++ cutL z (some (p + 1)) none).length = z.length := by
  rw [cut_hi h0, cut_lo (by omega), List.length_append, List.length_append, List.length_take, List.length_drop, List.length_singleton]
  omega
theorem lab_ok {cs : List Nat} {n : Int} (hc : cs ≠ []) (hl : cs.length ≤ 1000) (hm : ∀ c ∈ cs, c ∈ CH) (h0 : 1 ≤ n) (h1 : n ≤ 8) : Ok (m__law_label_f2f9 [.lst (chrs cs), .int n]) fun d => ∃ z, d = .str z ∧ isLab 20 z = true := by
  refine ok_runM ?_
  unfold b__law_label_f2f9
  simp only [pure_bind, bind_assoc, mkL, str_of, askM]
  refine ok_then (take_ok (n := n) (by omega) (by omega)) ?_
  rintro d ⟨i1, rfl, a1, a2⟩
  simp only [add_ii, askM, pure_bind, rng1_ok (j := 1 + i1) (by omega) (by omega)]
  refine ok_then (drawn_ok hc hl) ?_
  rintro rs ⟨z, rfl, hz, hzm⟩
  have lz : isLab 8 z = true := isLab_iff.mpr ⟨by omega, by omega, fun c m => hm c (hzm c m)⟩
  have hp : 0 < z.length := by omega
  simp only [join_chrs (z := z) (by omega), askM, pure_bind]
  refine ok_then (take_ok (n := 8) (by omega) (by omega)) ?_
  rintro d ⟨w, rfl, a3, a4⟩
  simp only [eq_ii, Option.bind_some, bOf_bl, askM, pure_bind]
  have fin : ∀ w : List Nat, isLab 20 w = true → Ok (pure (Fl.rt (D.str w)) : M (Fl Unit Empty)) (FlQ false fun d => ∃ z, d = .str z ∧ isLab 20 z = true) := fun w h => ok_pure ⟨w, rfl, h⟩
  refine ok_seqP (fun a => ∃ u, a = .str u ∧ isLab 8 u = true) ?_ ?_
  · refine ok_ite (fun _ => ?_) fun _ => ok_pure ⟨z, rfl, lz⟩
    simp only [len_str, askM, pure_bind]
    refine ok_then (take_ok (n := z.length) (by omega) (by omega)) ?_
    rintro d ⟨p, rfl, a11, a12⟩
    simp only [int_of, askM, pure_bind, slice_s, list_str, szCH, add_ii]
    refine ok_then (of_ok (ds := chrs CH) (by simp [chrs, CH]) (by decide)) ?_
    intro d hd
    obtain ⟨c, mc, rfl⟩ := chrs_mem hd
    have l3 := cutL_len z none (some p)
    have l4 := cutL_len z (some (p + 1)) none
    have lz8 := (isLab_iff.mp lz).2.1
    simp only [add_ss (a := cutL z none (some p)) (b := [c]) (by simp only [List.length_singleton]; omega), askM, pure_bind, add_ss (a := cutL z none (some p) ++ [c]) (b := cutL z (some (p + 1)) none) (by rw [List.length_append, List.length_singleton]; omega)]
    refine ok_pure ⟨_, rfl, isLab_iff.mpr ⟨by rw [exch_len a11 a12]; omega, by rw [exch_len a11 a12]; omega, fun x hx => ?_⟩⟩
    rcases List.mem_append.mp hx with hx | hx
    · rcases List.mem_append.mp hx with hx | hx
      · exact (isLab_iff.mp lz).2.2 x (cutL_mem hx)
      · exact (List.mem_singleton.mp hx) ▸ mc
    · exact (isLab_iff.mp lz).2.2 x (cutL_mem hx)
  · rintro a ⟨u, rfl, tu⟩
    obtain ⟨u1, u2, u3⟩ := isLab_iff.mp tu
    refine ok_seqP (fun a => ∃ u, a = .str u ∧ isLab 20 u = true) ?_ (fun a ⟨u, e, tu⟩ => e ▸ fin u tu)
    refine ok_ite (fun _ => ?_) fun _ => ok_pure ⟨u, rfl, isLab_iff.mpr ⟨u1, by omega, u3⟩⟩
    have e1 : mulD (.str u) (.int 20) = some (.str (List.replicate 20 u).flatten) := mul_s (k := 20) (by omega) (by omega)
    simp only [e1, askM, pure_bind]
    refine ok_then (take_ok (n := 12) (by omega) (by omega)) ?_
    rintro d ⟨p, rfl, a11, a12⟩
    simp only [add_ii, int_of, askM, pure_bind, slice_s]
    refine ok_pure ⟨_, rfl, isLab_iff.mpr ⟨?_, ?_, fun c hc => u3 c (rep_mem (cutL_mem hc))⟩⟩
    · rw [cut_hi (by omega), List.length_take, rep_len]
      omega
    · rw [cut_hi (by omega), List.length_take]
      omega
end FN
/-! ### pages: shared mirrors and what they do -/
namespace FN
open DL
end FN
namespace FN
open DL PySem PySem.W
theorem ix_str {z : List Nat} {i : Int} (h0 : 0 ≤ i) (h : i < z.length) : ∃ c, c ∈ z ∧ ixD (.str z) (.int i) = some (.str [c]) := by
  refine ⟨z[i.toNat]'(by omega), List.getElem_mem _, ?_⟩
  unfold ixD L2.atI
  simp only [ixN_ok h0 h]
  show Option.map (fun c => D.str [c]) (z[i.toNat]?) = _
  rw [List.getElem?_eq_getElem (by omega)]
  rfl
theorem tup_lst {ds : List D} : tupleD [.lst ds] = some (.tup ds) := rfl
theorem sub_ii {i j : Int} : subD (.int i) (.int j) = some (.int (i - j)) := rfl
theorem eqi {i j : Int} : (eqD (.int i) (.int j)).bind bOf = some (decide (i = j)) := rfl
theorem lti {i j : Int} : (ltD (.int i) (.int j)).bind bOf = some (decide (i < j)) := rfl
def Sm (n W : Nat) (d : D) : Prop := nic n d = true ∧ wt d ≤ W
theorem Sm.mono {n m W V : Nat} {d : D} (h : Sm n W d) (h1 : n ≤ m) (h2 : W ≤ V) : Sm m V d := ⟨nic_mono n m d h1 h.1, Nat.le_trans h.2 h2⟩
theorem cutL_mem {α : Type} {z : List α} {lo hi : Option Int} {x : α} (h : x ∈ cutL z lo hi) : x ∈ z := List.mem_of_mem_drop (List.mem_of_mem_take h)
theorem sum_le {A : List (List Nat)} {k : Nat} (h : ∀ z ∈ A, z.length ≤ k) : (A.map (·.length)).sum ≤ A.length * k := by
  induction A with
  | nil => simp
  | cons z A ih =>
    have h1 := h z (.head _)
    have h2 := ih fun w m => h w (.tail _ m)
    rw [List.map_cons, List.sum_cons, List.length_cons, Nat.succ_mul]
    omega
theorem le_l {i j : Int} : leD (.int i) (.int j) = some (.bl (decide (i ≤ j))) := rfl
theorem sz3 {a b c : D} : szL [a, b, c] = some [a, b, c] := sz_ok (by simp)
end FN
/-! ### pages read and compared: shared mirrors and what they do -/
namespace FN
open DL
end FN
namespace FN
open DL PySem PySem.W
section
variable {w w' : List Nat} {A A' B B' : List (List Nat)} {i i' : Int}
def pre (w : List Nat) (A : List (List Nat)) : List Nat := w ++ [58, 47, 47] ++ joinN [46] A
theorem row_of (h1 : A.length ≤ 20) (h2 : ∀ z ∈ A, isLab 20 z = true) : okRow A = true := by
  simp only [okRow, Bool.and_eq_true, decide_eq_true_eq, List.all_eq_true]; exact ⟨h1, h2⟩
end
end FN
/-! ### text.replace(a, b, 1): a token is out -/
namespace DL
open PySem PySem.Spec PyProof.Rows L2
end DL
/-! ### texts cut and glued, ports of any text, rows: shared lemmas -/
namespace FN
open DL PySem PySem.W
theorem spl_mem {S : List Nat} : ∀ (z : List Nat) (k : Nat) (acc y : List Nat) (c : Nat), y ∈ TL.spl S k acc z → c ∈ y → c ∈ acc ∨ c ∈ z
  | [], k, acc, y, c, h, hc => by rw [TL.spl_nil] at h; rw [List.mem_singleton.mp h] at hc; exact .inl hc
  | x :: r, 0, acc, y, c, h, hc => by
    by_cases hp : TL.pre S (x :: r) = true
    · rw [TL.spl_hit hp] at h
      rcases List.mem_cons.mp h with rfl | h
      · exact .inl hc
      · rcases spl_mem r _ _ y c h hc with h | h
        · cases h
        · exact .inr (.tail _ h)
    · rw [TL.spl_miss (by simpa using hp)] at h
      rcases spl_mem r 0 _ y c h hc with h | h
      · rcases List.mem_append.mp h with h | h
        · exact .inl h
        · exact .inr (by rw [List.mem_singleton.mp h]; exact .head _)
      · exact .inr (.tail _ h)
  | x :: r, k + 1, acc, y, c, h, hc => by
    rcases spl_mem r k acc y c h hc with h | h
    · exact .inl h
    · exact .inr (.tail _ h)
theorem spl_len {S : List Nat} : ∀ (z : List Nat) (k : Nat) (acc : List Nat), (TL.spl S k acc z).length ≤ z.length + 1
  | [], k, acc => by rw [TL.spl_nil]; simp
  | x :: r, 0, acc => by
    by_cases hp : TL.pre S (x :: r) = true
    · rw [TL.spl_hit hp]
      have := spl_len (S := S) r (S.length - 1) []
      simp only [List.length_cons]; omega
    · rw [TL.spl_miss (by simpa using hp)]
      have := spl_len (S := S) r 0 (acc ++ [x])
      simp only [List.length_cons]; omega
  | x :: r, k + 1, acc => by
    have := spl_len (S := S) r k acc
    simp only [List.length_cons]
    show (TL.spl S k acc r).length ≤ _
    omega
theorem split_any {s : Nat} {z : List Nat} (hs : s < 256) (hz : z.length ≤ 1000000) : splitD (.str z) (.str [s]) = some ((TL.spl [s] 0 [] z).map .str) := by
  show (if s < 256 ∧ z.length ≤ 1000000 then some ((TL.spl [s] 0 [] z).map D.str) else none) = _
  rw [if_pos ⟨hs, hz⟩]
theorem part_eq {z S : List Nat} (hS : S ≠ []) (hz : z.length ≤ 1000000) : partD (.str z) (.str S) = some (match TL.par S [] z with | some (p, q) => D.tup [.str p, .str S, .str q] | none => D.tup [.str z, .str [], .str []]) := by
  show (if S ≠ [] ∧ z.length ≤ 1000000 then _ else none) = _
  rw [if_pos ⟨hS, hz⟩] <;> rfl
theorem any_py {n m : Nat} {a : D} (ha : nic n a = true) : ∀ {ds : List D}, nicL m ds = true → ((pyL ds).any fun z => PyData.eqv z (py a)) = ds.any fun y => deq y a
  | [], _ => rfl
  | d :: ds, h => by
    have h' : nic m d = true ∧ nicL m ds = true := by simpa [nicL] using h
    simp only [pyL, List.any_cons, deq_py m n d a h'.1 ha, any_py (m := m) ha h'.2]
theorem in_nic {n m : Nat} {a : D} {ds : List D} (ha : nic n a = true) (hb : nicL m ds = true) (hn : n ≤ 60) (hm : m ≤ 59) : inP a (.lst ds) = some (ds.any fun y => deq y a) := by
  obtain ⟨e1, s1⟩ := shaped_nic ha hn
  have hb' : nic (m + 1) (.lst ds) = true := hb
  obtain ⟨e2, s2⟩ := shaped_nic hb' (by omega)
  have e : inP a (.lst ds) = match toPy a, toPy (.lst ds) with
    | some x, some (.list ys) => if SeqAt.shaped x && SeqAt.shaped (.list ys) then some (ys.any fun z => PyData.eqv z x) else none
    | _, _ => none := by
    unfold inP
    cases a with
    | str s => rcases s with _ | ⟨c, _ | _⟩ <;> rfl
    | _ => rfl
  have e3 : py (.lst ds) = .list (pyL ds) := rfl
  rw [e, e1, e2, e3]
  rw [e3] at s2
  show (if (SeqAt.shaped (py a) && SeqAt.shaped (.list (pyL ds))) = true then some ((pyL ds).any fun z => PyData.eqv z (py a)) else none) = _
  rw [if_pos (by rw [s1, s2]; rfl), any_py ha hb]
theorem notin_sign {z : List Nat} {c : Nat} : (notInD (.str [c]) (.str z)).bind bOf = some (!decide (c ∈ z)) := rfl
theorem sqp {α β γ : Type} {a : α} {k : α → R (Fl γ β)} : seqF (pure (Fl.nx a) : R (Fl α β)) k = k a := rfl
def Rn (l n : Nat) (d : D) : Prop := ∃ A : List (List Nat), d = .tup (A.map .str) ∧ l ≤ A.length ∧ A.length ≤ n ∧ ∀ z ∈ A, isLab 20 z = true
theorem Rn.up {l n m : Nat} {d : D} (h : Rn l n d) (w : n ≤ m) : Rn l m d := by
  obtain ⟨A, a, b, c, e⟩ := h
  exact ⟨A, a, b, by omega, e⟩
end FN
/-! ### an __init__ that says super().__init__(..) and nothing else -/
namespace DL
open PySem PySem.Spec PyProof.Rows L2 NdefX ClX
/-- the same promise, for objects of the class at D alone -/
def spIS (K : PySem.W.Frag) (mg : Str → Option Value) (D : Addr) (ns : List Str) (L : Nat → Prop) (g : List DL.D → R (List DL.D)) : Sp := fun vs H Q E => spI K mg ns L g vs H Q E ∧ ∃ x rest dx, vs = .ref x :: rest ∧ H x = some (.ins D dx [])
structure SupFun (P : Program) (K : PySem.W.Frag) (mg : Str → Option Value) (x qual : Str) (st : Stmt) (f fb D : Addr) (fd : FuncData) : Prop where
  ex : ∃ (oc : Value) (od : Option Addr) (kV doc pm : Value) (an : Option Addr) (cda cc : Addr) (ct : Value) (osl : Array (Option Value)) (ccl : Value) (cdd : Option Addr) (vs : Array Value) (ccs : Array (Option Value)) (file : Str) (tf : Tok) (cl : Value) (cld : Option Addr) (csl : Array (Option Value)),
    fd = PySem.W.fnX x qual (defArgs st) (defBody st) (defScope st) [("__class__", cc)] .none kV doc pm an (.ref cda) ct ∧ K.lookup f = some ⟨oc, od, .func fd, osl⟩ ∧ PySem.W.codeIn K (.ref cda) qual = true ∧
    K.lookup cda = some ⟨ccl, cdd, .fields vs, ccs⟩ ∧ vs[2]? = some (.str file tf) ∧ ((P.main.file : Str) == file) = true ∧ K.lookup cc = some ⟨cl, cld, .cell (some (.ref D)), csl⟩
  cls : ∃ cd, PySem.W.clsIn K D = some cd
  mro : PySem.W.mroIn K D (.ref D) = some true
  sup : mg "super" = none
  top : (P.main.scope.names.lookup ("super" : Str)).isSome = false
  init : PySem.W.ks_superIn K D D "__init__" = some (some (.ref fb))
  ty : PySem.W.typeIn K (.ref fb) = some (.type "function")
  fi : PySem.W.fnIn K fb = true
  tp : PySem.W.nsIn K cStatics "thirdparty.any" = some none
theorem startF_at {N : List Str} {vs : List V} {ws : List (Option V)} {i : Nat} {v : V} (h : vs[i]? = some v) : (startF N vs ws)[i]? = some (some v) := by
  unfold startF
  have hl : i < vs.length := (List.getElem?_eq_some_iff.mp h).1
  rw [List.getElem?_append_left (by simpa using hl), List.getElem?_map, h]
  rfl
theorem startF_len {N : List Str} {vs : List V} {ws : List (Option V)} (h : vs.length + ws.length ≤ N.length) : (startF N vs ws).length = N.length := by
  unfold startF
  simp
  omega
section
variable {K : PySem.W.Frag} {mg : Str → Option Value}
theorem StS.initS {Hf H : Hp} {E : XK} {ds : List D} {vs : List V} {N : List Str} {s : S} {x C dx : Addr} {ws : List (Option V)} (sb : Sub Hf H) (hf : Hf x = none) {ns : List Str} (hx : H x = some (.ins C dx [])) (c : Cls K C) (na : ∀ f ∈ ns, NoAttr K C f) (l : IsL K mg Hf ds vs) (hn : vs.length + 1 + ws.length ≤ N.length) :
    StS K mg (fxI ns x H Hf E) Hf H (startF N (.ref x :: vs) ws) (GI N ds) s := by
  refine ⟨.refl sb, trivial, fun b m => ?_, ?_, fun i y e => ?_, fun i j y z p ne ey ez oy oz e1 e2 => ?_⟩
  · have : b = x := by
      rcases List.mem_append.mp m with m | m
      · simpa using m
      · cases m
    subst this
    exact ⟨hf, by rw [hx]; simp, fun _ => by show H b ≠ none; rw [hx]; simp⟩
  · rw [startF_len (by simp only [List.length_cons]; omega)]
    unfold GI
    have := l.len
    simp
    omega
  · cases i with
    | zero =>
      cases e
      exact ⟨x, C, dx, [], startF_at rfl, hx, hf, ⟨by simp, [], hx⟩, by simp, ⟨c, na⟩, rfl, rfl⟩
    | succ i =>
      have e' : (ds.map Sl.im ++ List.replicate (N.length - ds.length - 1) .un)[i]? = some y := e
      have q := slOk_G0 (fx := fxI ns x H Hf E) (H := H) (N := N) l e'
      cases y with
      | un => trivial
      | im d =>
        obtain ⟨v, hv, hi⟩ := q
        refine ⟨v, ?_, hi⟩
        cases h : vs[i]? with
        | none => rw [h] at hv; cases hv
        | some w => rw [h] at hv; cases hv; exact startF_at (by simpa using h)
      | ow ds => exact (isOw_im e' rfl).elim
      | od ks ds => exact (isOw_im e' rfl).elim
      | ob ns ds => exact (isOw_im e' rfl).elim
      | bg =>
        obtain ⟨b, r, e, _⟩ := q
        cases e
  · have z1 : i = 0 := by
      cases i with
      | zero => rfl
      | succ i => exact (isOw_im (n := N.length - ds.length - 1) (ds := ds) (i := i) ey oy).elim
    have z2 : j = 0 := by
      cases j with
      | zero => rfl
      | succ j => exact (isOw_im (n := N.length - ds.length - 1) (ds := ds) (i := j) ez oz).elim
    exact ne (z1.trans z2.symm)
end
section
variable {X : Cx} {j : Nat} {q fb x : Addr} {sp : Sp} {E : L2.St → XK}
/-- the call of a bound method whose def keeps the promise sp -/
theorem run_mP {pins : List (Addr × Obj)} {σ : L2.St} {H : Hp} {s : Shared} {Q : VK} {us : List Value} {vs : List V} (F : FnP X.prog X.w X.K X.mg X.base j fb [] sp) (hg : X.A.guards = some []) (hr : Room j X.A)
    (hx : PassesAt (L2.CX X.prog X.w) X σ (E σ)) (I : L2.Inv X ((q, PySem.W.methodObj (.ref fb) (.ref x)) :: pins) σ H s) (r : Vals vs us) (h : sp (.ref x :: vs) H Q (E σ)) : wpAny (model X.prog X.w) X.A (call (.ref q) us) (EP X pins σ Q) X.xe s := by
  have z : wpAny (model X.prog X.w) X.A (call (.ref q) us) (EP X ((q, PySem.W.methodObj (.ref fb) (.ref x)) :: pins) σ Q) X.xe s :=
    wpAny_call (PySem.W.method_call (pin_at I) (codeAny_mono (F X.A X.stack s H (.ref x :: us) [] (.ref x :: vs) Q (E σ) hg hr I.env0 rfl (by rw [List.append_nil]; exact .cons rfl r) h) fun r s' hq => by
      have z := ends_call I hx hq
      cases r with
      | error e => exact z
      | ok fl => cases fl <;> first | exact z | exact z.elim))
  exact thn z fun _ _ y => unpinE y
end
section
variable {P : Program} {w : World} {K : PySem.W.Frag} {mg : Str → Option Value} {base : Heap}
theorem fnSup {x qual : Str} {st : Stmt} {f fb D : Addr} {fd : FuncData} {N ps ns : List Str} {k j n : Nat} {L : Nat → Prop} {g gb : List DL.D → R (List DL.D)} {self : Str} {ar : Arg} {e : Expr} {es : List Expr} {p0 p1 apos cpos epos : Pos}
    (SF : SupFun P K mg x qual st f fb D fd) (Sc : NScope N ps ["__class__"] (defScope st)) (hn : ps.length = n + 1) (hN0 : N[0]? = some self) (hp : ((defArgs st).posonlyargs ++ (defArgs st).args).head? = some ar) (har : ar.arg = self)
    (hb0 : defBody st = [.Expr (.Call (.Attribute (.Call (.Name "super" p0) [] [] p1) "__init__" apos) (e :: es) [] cpos) epos])
    (hks : (defScope st).names.lookup ("super" : Str) = some .globalImplicit) (hkc : (defScope st).names.lookup ("__class__" : Str) = some .free) (hka : (defScope st).names.lookup self = some .local)
    (Fb : FnP P w K mg base j fb [] (spI K mg ns L gb)) (hj : j ≤ k) (hL : ∀ ds : List DL.D, gb ds ≠ .stuck → L (ds.length + 1))
    (ha : ∀ (F : NF) (A : Around) (outer : List Env) (s : Shared) (H Hf : Hp) (E : XK) (o : Addr) (ds : List DL.D), F.scope = defScope st → F.qual = qual → Cok (ncx (L2.CX P w) P w K mg base N F f A outer s H E) (fxI ns o H Hf E) k → ds.length = n →
      ∃ ys : R (List DL.D), PA (ncx (L2.CX P w) P w K mg base N F f A outer s H E) (e :: es) (tA K mg (fxI ns o H Hf E) (GI N ds) ys) ∧ g ds = (do let as ← ys; gb as))
    (hst : ∀ env : Env, starEach (e :: es) env = (false, eval e env) :: starEach es env := by intro _; rfl) (hpl : ∀ env : Env, (backTo cpos (starEach es env)).any (·.1) = false := by intro _; rfl)
    (hev : ∀ env : Env, ∃ pl : Sem Bool, eval (.Call (.Attribute (.Call (.Name "super" p0) [] [] p1) "__init__" apos) (e :: es) [] cpos) env = (do
      let ov ← attributeBase (.Call (.Name "super" p0) [] [] p1) "__init__" env (eval (.Call (.Name "super" p0) [] [] p1) env)
      standAt apos.atName
      let (f, first) ← holding [ov] (getMethod ov "__init__" pl)
      callWith cpos f first (backTo cpos (starEach (e :: es) env)) []) := by intro _; exact ⟨_, rfl⟩) :
    FnG P w K mg base (k + 1) f fd ps (spIS K mg D ns (fun l => l = n + 1) g) := by
  refine ⟨fun vs H Q E h => h.1.1.trans hn.symm, fun A outer s H args us vs Q E gd hr e0 hb r hsp => ?_⟩
  obtain ⟨oc, od, kV, doc, pm, an, cda, cc, ct, osl, ccl, cdd, cvs, ccs, file, tf, cl, cld, csl, rfl, lk, hcd, hcode, hvs, hfile, hcell⟩ := SF.ex
  obtain ⟨cdD, hD⟩ := SF.cls
  obtain ⟨⟨hlen, o, C, dx, rest, Hf, ds, rfl, sb, hf, hx, cls, na, l, q⟩, o2, rest2, dx2, e2, hx2⟩ := hsp
  cases e2
  rw [hx] at hx2
  cases hx2
  have hl' : rest.length = n := by simpa using hlen
  have kp := fun b o e => (e0.bs b o e).1
  have KX : K.In s.heap := e0.mod.kin.keeps kp
  have lim : s.heap.NoLimit := e0.mod.nolimit.keeps kp
  have hpsl : (V.ref o :: rest).length = ps.length := by rw [hn, List.length_cons, hl']
  let F : NF := ⟨x, qual, defArgs st, defBody st, defScope st, [("__class__", cc)], cda⟩
  have hCc : base.get? cc = some ⟨cl, cld, .cell (some (.ref D)), csl⟩ := e0.mod.kin _ _ hcell
  have CA : CellsAt F.cl ["__class__"] [some (V.ref D)] s.heap H := by
    refine ⟨rfl, fun y c h => ?_, fun y z c h1 h2 => ?_, fun i y h => ?_⟩
    · have : y = "__class__" ∧ c = cc := by
        have h' : List.lookup y [(("__class__" : Str), cc)] = some c := h
        simp only [List.lookup] at h'
        split at h'
        · rename_i hb; cases h'; exact ⟨by simpa using hb, rfl⟩
        · cases h'
      obtain ⟨rfl, rfl⟩ := this
      exact ⟨(e0.bs _ _ hCc).2, _, _, (e0.bs _ _ hCc).1, rfl⟩
    · have aux : ∀ y : Str, List.lookup y [(("__class__" : Str), cc)] = some c → y = "__class__" := fun y h' => by
        simp only [List.lookup] at h'
        split at h'
        · rename_i hb; simpa using hb
        · cases h'
      rw [aux y h1, aux z h2]
    · cases i with
      | zero =>
        cases h
        exact ⟨cc, rfl, fun v hv => by cases hv; exact ⟨.ref D, rfl, _, (e0.bs _ _ hCc).1, rfl⟩⟩
      | succ i => simp at h
  refine codeAny_call_function hr.depth (KX _ _ lk) rfl Sc.co Sc.gen rfl (PySem.W.codeRec_of KX hcd) (hb _ _ _ _ ?_)
  refine wpAny_newFunctionEnv Sc.nocell (fun ⟨n, _⟩ hy => Sc.par n (List.of_mem_zip hy).1) (fun h₁ hns hsb => ⟨lim.fresh _ hsb, ?_⟩) Sc.kind
  show codeAny _ _ (.func (defBody st) (envF F f s.heap.objs.size)) _ _
  have kp1 : ∀ b o, s.heap.get? b = some o → h₁.get? b = some o := fun b o e => hsb.extBut b o (Nat.ne_of_lt (Heap.lt_size e)) (Heap.get?_push_of_some _ e)
  have I : L2.Inv (ncx (L2.CX P w) P w K mg base N F f A outer s H E) [] (startF N (.ref o :: rest) [some (.ref D)]) H { s with heap := h₁, toks := s.toks + (ps.zip us).length } := inv_startN Sc hr.hd e0 hpsl r CA hns kp1
  generalize ({ s with heap := h₁, toks := s.toks + (ps.zip us).length } : Shared) = s1 at I ⊢
  have Ck : Cok (ncx (L2.CX P w) P w K mg base N F f A outer s H E) (fxI ns o H Hf E) k := ⟨rfl, passes_of rfl, takes_of rfl rfl rfl rfl, hr.deeper _, Sc.nd, gd⟩
  obtain ⟨ys, hpa, hg⟩ := ha F A outer s H Hf E o ds rfl rfl Ck (l.len.trans hl')
  have hNl : (ps.length + 1) ≤ N.length := by
    have := congrArg List.length Sc.pre
    rw [List.length_take, List.length_append] at this
    simp only [List.length_cons, List.length_nil] at this
    omega
  have st0 : StS K mg (fxI ns o H Hf E) Hf H (startF N (.ref o :: rest) [some (.ref D)]) (GI N ds) ⟨0, 0, 0, [], false⟩ := .initS sb hf hx cls na l (by simp only [List.length_cons, List.length_nil]; omega)
  have hOD : o ≠ D := fun z => by
    obtain ⟨oD, hoD⟩ : ∃ oD, K.lookup D = some oD := by
      unfold PySem.W.clsIn at hD
      split at hD
      · rename_i ho; exact ⟨_, ho⟩
      · cases hD
    have := (e0.bs _ _ (e0.mod.kin _ _ hoD)).2
    rw [← z, hx] at this
    cases this
  have hinit : PySem.W.alongIn K "__init__" ((cdD.mro.dropWhile (· != .ref D)).drop 1) = some (some (.ref fb)) := by
    have h := SF.init
    unfold PySem.W.ks_superIn at h
    rw [hD] at h
    exact h
  rw [hb0]
  refine PySem.ks_codeAny_funcAt ?_
  refine PySem.ks_wpAt_execs_cons (PySem.ks_wpAt_Expr_any ?_ I.quiet rfl)
  obtain ⟨pl, hpe⟩ := hev (envF F f s.heap.objs.size)
  refine PySem.ks_wpAt_MethodCall (pl := pl) ?_ hpe
  obtain ⟨hh, gg, dd, tt, oo⟩ := s1
  obtain ⟨m, hns1, hloc⟩ := id I.loc
  obtain ⟨u0, ru0, hlook⟩ := hloc 0 self (.ref o) hN0 (startF_at rfl) (.inl hka)
  obtain rfl : u0 = .ref o := ru0
  have hself : m self = some (.ref o) := by
    rcases hlook with ⟨_, h⟩ | ⟨h, _⟩
    · exact h
    · have hk' : (ncx (L2.CX P w) P w K mg base N F f A outer s H E).env.kindOf self = some .local := hka
      rcases h with h | h <;> (rw [hk'] at h; cases h)
  have X1 : K.In hh := I.kIn
  obtain ⟨oD, hD1, hD2⟩ : ∃ oD, hh.get? D = some oD ∧ oD.data = .cls cdD := by
    unfold PySem.W.clsIn at hD
    split at hD
    · rename_i ho
      cases hD
      exact ⟨_, X1 _ _ ho, rfl⟩
    · cases hD
  obtain ⟨mA, O, _, _, _, _⟩ := ins_get I.hok hx
  obtain ⟨mb, hb1, hb2⟩ := I.mod.blt
  refine PySem.ks_wpAt_super_base (env := envF F f s.heap.objs.size) hks hkc rfl rfl (X1 _ _ lk) rfl hp rfl (X1 _ _ hcode) rfl hvs hfile SF.top ?_
  refine PySem.W.ks_loadName_global Sc.kind hks (Calls.loadGlobal_builtin (I.mod.glob.keeps I.bk) SF.sup (hb1.keeps I.bk) ((hb2 "super" (by decide)).trans (by kernel_rfl)) ⟨rfl, ?_⟩)
  refine wpAny_loadName_free Sc.kind hkc rfl ⟨_, X1 _ _ hcell, rfl⟩ ?_
  rw [har]
  refine wpAny_loadName_local Sc.kind hka hns1 hself ?_
  refine PySem.ks_wpAny_isType_cls hD1 hD2 ⟨rfl, ?_⟩
  refine PySem.ks_wpAny_call_super hD1 hD2 O.obj rfl (fun c e => nomatch e) (PySem.W.looks_mroIn X1 SF.mro) (fun h' e k => ?_)
  have I' : L2.Inv (ncx (L2.CX P w) P w K mg base N F f A outer s H E) [] (startF N (.ref o :: rest) [some (.ref D)]) H ⟨h', gg, dd, tt, oo⟩ := I.kept (t' := tt) k
  have X2 : K.In h' := I'.kIn
  obtain ⟨of, hof, hofc⟩ : ∃ of, h'.get? fb = some of ∧ of.cls = .type "function" := by
    have ht' : (K.lookup fb).map (·.cls) = some (.type "function") := SF.ty
    cases z : K.lookup fb with
    | none => rw [z] at ht'; cases ht'
    | some of => rw [z] at ht'; exact ⟨of, X2 _ _ z, Option.some.inj ht'⟩
  refine PySem.ks_wpAny_getMethod_super (K := K) e (PySem.W.looks_opaque X2 SF.tp) (l₀ := cdD.mro) (fun A Q E s k q => wpAny_bind ((PySem.W.looks_clsIn X2 hD) A _ E s k (wpAny_pure q))) rfl X2 hinit hof hofc hOD rfl ?_
  have J := met_new (g := fb) (C := o) I'
  have hq0 : spI K mg ns L gb = spI K mg ns L gb := rfl
  refine wpAny_mono (Q := EP (ncx (L2.CX P w) P w K mg base N F f A outer s H E) [] (startF N (.ref o :: rest) [some (.ref D)]) (fun _ H' => Q .non H')) (callwith_cm J (base_none I' (Nat.le_refl _)) SF.fi (thn (hpa.run cpos _ _ (startF N (.ref o :: rest) [some (.ref D)]) H (fun vs2 H2 => spI K mg ns L gb (.ref o :: vs2) H2 (fun _ H' => Q .non H') (WE (fxI ns o H Hf E).W (startF N (.ref o :: rest) [some (.ref D)]))) J ?_) fun us2 s3 ⟨vs2, H2, I3, rv, q2⟩ => ⟨⟨pin_at I3, I3.kIn⟩, run_mP (E := WE (fxI ns o H Hf E).W) Fb Ck.gd (Ck.rm.mono hj) (passAt Ck.tk _) I3 rv q2⟩) (hst _) (hpl _)) (fun u s' h => ?_) fun _ _ z => z
  · refine ⟨Hf, ⟨0, 0, 0, [], false⟩, st0, ?_⟩
    have stx : ∀ {Hf1 H1 : Hp}, Ste [] Hf H Hf1 H1 → H1 o = some (.ins D dx []) ∧ Hf1 o = none := fun {Hf1 H1} e => ⟨e.keep _ _ hx (by simp), e.stayNone hf (by rw [hx]; simp)⟩
    show R.wp ys _ _ _
    rw [hg] at q
    cases hys : ys with
    | ok as =>
      rw [hys] at q
      have q1 : match gb as with
        | .ok es => ∀ us Hf' H', Ste [o] Hf H Hf' H' → H' o = some (.ins D dx (ns.zip us)) → ns.length = us.length → IsL K mg Hf' es us → Hf' o = none → Q .non H'
        | .ex e => ∀ cls dd Hf' H', Ste [o] Hf H Hf' H' → ExIs K mg Hf' H' e cls dd → E cls dd H'
        | .stuck => False := q
      intro vs2 Hf1 H1 e1 bg1 l1
      obtain ⟨hx1, hf1⟩ := stx e1
      have hlen1 : L ((V.ref o :: vs2).length) := by
        rw [List.length_cons, ← l1.len]
        refine hL as fun z => ?_
        rw [z] at q1
        exact q1
      refine ⟨hlen1, o, D, dx, vs2, Hf1, as, rfl, e1.top, hf1, hx1, cls, na, l1, ?_⟩
      cases hgb : gb as with
      | ok es =>
        rw [hgb] at q1
        exact fun us Hf' H' e2 => q1 us Hf' H' (e1.wide.trans e2)
      | ex ee =>
        rw [hgb] at q1
        exact fun cls dd Hf' H' e2 xi => q1 cls dd Hf' H' (e1.wide.trans e2) xi
      | stuck => rw [hgb] at q1; exact q1
    | ex ee =>
      rw [hys] at q
      have q1 : ∀ cls dd Hf' H', Ste [o] Hf H Hf' H' → ExIs K mg Hf' H' ee cls dd → E cls dd H' := q
      exact fun cls dd Hf' H' st xi => q1 cls dd Hf' H' st.ste xi
    | stuck =>
      rw [hys] at q
      exact q
  · obtain ⟨v, H', J', rv, q'⟩ := h
    exact wpAt_of_wpAny (wpAny_execs_nil ⟨.non, H', J'.os, J'.bare, J'.base, J'.hok, rfl, q'⟩)
end
end DL
/-! ### self.a, x, .. = e; objects of classes whose __init__ says super().__init__(..) -/
namespace DL
open PySem PySem.Spec PyProof.Rows L2
inductive FT where
  | nm (i : Nat)
  | fl (f : Str)
def stepT (i0 : Nat) (t : FT) (d : D) (G : List Sl) : List Sl := match t with
  | .nm i => G.set i (.im d)
  | .fl f => match G[i0]? with
    | some (.ob ns ds) => G.set i0 (.ob (ns ++ [f]) (ds ++ [d]))
    | _ => G
def setT (i0 : Nat) : List FT → Nat → List D → List Sl → List Sl
  | [], _, _, G => G
  | t :: ts, k, c, G => setT i0 ts (k + 1) c (stepT i0 t (c.getD k .non) G)
def gT (K : PySem.W.Frag) (i0 : Nat) : List FT → TGs
  | [] => gNil
  | .nm i :: ts => gCons (gName i) (gT K i0 ts)
  | .fl f :: ts => gCons (gFld K (tVar i0) f) (gT K i0 ts)
section
variable {X : Cx} {fx : Fx} {i0 : Nat} {self : Str}
/-- names and fields of the object that is made, as targets -/
inductive TgF (X : Cx) (fx : Fx) (i0 : Nat) (self : Str) : List Expr → List FT → List Str → Prop
  | nil {ns : List Str} : TgF X fx i0 self [] [] ns
  | nm {n : Str} {p : Pos} {es : List Expr} {ts : List FT} {ns : List Str} (i : Nat) (r : TgF X fx i0 self es ts ns) (hi : X.N[i]? = some n := by rfl) (hx : Loc X.env.scope n := by first | exact Or.inl rfl | exact Or.inr rfl) (hf : X.fn n = true ∨ X.env.scope.names.lookup n = some .local := by first | exact .inl rfl | exact .inr rfl) (hne : i ≠ i0 := by decide) : TgF X fx i0 self (.Name n p :: es) (.nm i :: ts) ns
  | fl {np pos' : Pos} {es : List Expr} {ts : List FT} {ns : List Str} {f : Str} (r : TgF X fx i0 self es ts (ns ++ [f])) (hf : f ∉ ns := by decide +kernel) (hm : f ∈ fx.nas := by decide +kernel) (hz : ns.length < 1000 := by decide) : TgF X fx i0 self (.Attribute (.Name self np) f pos' :: es) (.fl f :: ts) ns
theorem tgf_pgs (nd : X.N.Nodup) (hN : X.N[i0]? = some self) (hv : Vis X.env.scope self) (hd : (self == ("__debug__" : Str)) = false) (hcd : (self == ("__classdict__" : Str)) = false) {es : List Expr} {ts : List FT} {ns : List Str} (h : TgF X fx i0 self es ts ns) : PGs X es (gT X.K i0 ts) := by
  induction h with
  | nil => exact pgs_nil
  | nm i r hi hx hf hne ih => exact pgs_cons (pg_name nd hi hx hf) ih
  | fl r hf hm hz ih => exact pgs_cons (pg_fld (pe_var hN hv hd hcd)) ih
theorem gt_read {Hf : Hp} {s : S} {Q : L2.St → Hp → Prop} {es : List Expr} {ts : List FT} {ns : List Str} (h : TgF X fx i0 self es ts ns) : ∀ (k : Nat) (c ds es0 : List D) (vs : List V) {σ : L2.St} {H : Hp} {G : List Sl}, StS X.K X.mg fx Hf H σ G s → G[i0]? = some (.ob ns es0) → IsL X.K X.mg Hf ds vs → c.drop k = ds → ds.length = ts.length →
    (∀ σ' H', StS X.K X.mg fx Hf H' σ' (setT i0 ts k c G) s → Q σ' H') → gT X.K i0 ts vs σ H Q := by
  induction h with
  | nil =>
    intro k c ds es0 vs σ H G st hG l e hl q
    cases ds with
    | nil => cases l; exact ⟨rfl, q σ H st⟩
    | cons d ds => simp at hl
  | nm i r hi hx hf hne ih =>
    intro k c ds es0 vs σ H G st hG l e hl q
    cases ds with
    | nil => simp at hl
    | cons d ds =>
      obtain ⟨v, rr, rfl, iv, l'⟩ := l
      have hk : c.getD k .non = d := by
        have : c[k]? = some d := by
          have := congrArg (fun z => z[0]?) e
          simpa using this
        simp [List.getD, this]
      refine ⟨v, rr, rfl, ?_⟩
      refine ih (k + 1) c ds es0 rr (st.set (i := i) iv) (by rw [List.getElem?_set_ne hne]; exact hG) l' ?_ (by simpa using hl) fun σ' H' st' => q σ' H' ?_
      · have := congrArg (List.drop 1) e
        simpa [List.drop_drop, Nat.add_comm] using this
      · show StS X.K X.mg fx Hf H' σ' (setT i0 _ (k + 1) c (stepT i0 (.nm i) (c.getD k .non) G)) s
        rw [hk]; exact st'
  | @fl np pos' es ts ns f r hf hm hz ih =>
    intro k c ds es0 vs σ H G st hG l e hl q
    cases ds with
    | nil => simp at hl
    | cons d ds =>
      obtain ⟨v, rr, rfl, iv, l'⟩ := l
      have hk : c.getD k .non = d := by
        have : c[k]? = some d := by
          have := congrArg (fun z => z[0]?) e
          simpa using this
        simp [List.getD, this]
      obtain ⟨p, C, dx, us, ep, hp, hf', h0, nb, ⟨cc, na⟩, hll, ll⟩ := st.sl i0 _ hG
      refine ⟨v, rr, rfl, .ref p, ep, p, C, dx, ns.zip us, rfl, hp, cc, na _ hm, ?_, ?_⟩
      · rw [List.length_zip, ← hll, Nat.min_self]; exact hz
      · have st2 : StS X.K X.mg fx Hf (upd H p (.ins C dx (putF f v (ns.zip us)))) σ (G.set i0 (.ob (ns ++ [f]) (es0 ++ [d]))) s := by
          refine st.updAt hG rfl ep rfl ⟨p, C, dx, us ++ [v], rfl, ?_, hf', h0, nb, ⟨cc, na⟩, by simp [hll], ll.app (.cons iv .nil)⟩
          rw [upd_same, putF_new hll hf]
        have hi0 : i0 < G.length := (List.getElem?_eq_some_iff.mp hG).1
        refine ih (k + 1) c ds (es0 ++ [d]) rr st2 (List.getElem?_set_self hi0) l' ?_ (by simpa using hl) fun σ' H' st' => q σ' H' ?_
        · have := congrArg (List.drop 1) e
          simpa [List.drop_drop, Nat.add_comm] using this
        · show StS X.K X.mg fx Hf H' σ' (setT i0 _ (k + 1) c (stepT i0 (.fl f) (c.getD k .non) G)) s
          have : stepT i0 (.fl f) (c.getD k .non) G = G.set i0 (.ob (ns ++ [f]) (es0 ++ [d])) := by
            show (match G[i0]? with | some (.ob ns ds) => _ | _ => G) = _
            rw [hG, hk]
          rw [this]; exact st'
end
section
variable {X : Cx} {fx : Fx} {m : Type → Type} [Mo m] {G : List Sl} {α β : Type} {kk : Nat} {e : Expr} {rest : List Stmt} {ex : α → List Sl} {exb : β → List Sl} {pos : Pos} {x : m D}
/-- self.a, y, .. = e -/
theorem dss_unpF {es : List Expr} {kt : Nat} {pt : Pos} {k : List D → m (Fl α β)} {self : Str} {ns : List Str} {es0 : List D} (C : Cok X fx kk) (i0 n : Nat) (ts : List FT) (ht : TgF X fx i0 self es ts ns) (he : PE X e (tE X.K X.mg fx G x)) (hr : ∀ c, PSs X rest (tS X.K X.mg fx (setT i0 ts 0 c G) ex exb (k c)))
    (hG : G[i0]? = some (.ob ns es0) := by rfl) (hn : ts.length = n := by rfl) (hN : X.N[i0]? = some self := by rfl) (hv : Vis X.env.scope self := by first | exact Or.inl rfl | exact Or.inr (Or.inl rfl) | exact Or.inr (Or.inr rfl)) (hd : (self == ("__debug__" : Str)) = false := by decide) (hcd : (self == ("__classdict__" : Str)) = false := by decide)
    (hl : (assignEach es X.env).length = n := by rfl) (hst : (assignEach es X.env).findIdx? (·.1) = none := by rfl)
    (hs : swapsWithSole [.Tuple es kt pt] e pos.line X.env = pure false := by rfl) (hw : swappedStores [.Tuple es kt pt] e X.env = pure none := by rfl) (h1 : (assignEach [.Tuple es kt pt] X.env).map (·.2) = [assign (.Tuple es kt pt) X.env] := by rfl)
    (hgx : GxOk fx G := by first | exact True.intro | repeat' (first | exact True.intro | exact Or.inl rfl | exact Or.inr rfl | refine And.intro ?_ ?_)) :
    PSs X (.Assign [.Tuple es kt pt] e pos :: rest) (tS X.K X.mg fx G ex exb (do let d ← x; let c ← DL.ask (unN n d); k c)) := pssI (pss_cons (ps_asg he (pg_tup C.calm (tgf_pgs C.nd hN hv hd hcd ht) hl hst) hs hw h1) (pss_ex hr)) fun De σ H ⟨Hf, s, h⟩ =>
  ((h.bind hgx).mono fun v H1 ⟨d, Hf1, s1, sb, r, h1⟩ => by
    have w1 := Mo.wp_lift (Mo.wp_bind h1.2)
    cases hu : unN n d with
    | none => rw [hu] at w1; exact w1.elim
    | some c =>
      rw [hu] at w1
      cases d with
      | tup ds =>
        obtain ⟨hz, a, vs, rfl, t, l⟩ := r
        have e' : (if ds.length = n then some ds else none) = some c := hu
        by_cases hd : ds.length = n
        · rw [if_pos hd] at e'
          cases e'
          exact ⟨a, vs, rfl, h1.1.top.sqt t, l.len.symm.trans hd, gt_read ht 0 c c es0 vs h1.1 hG l rfl (hd.trans hn.symm) fun σ' H' st' => ⟨c, Hf1, s1, st', w1⟩⟩
        · rw [if_neg hd] at e'; cases e'
      | _ => cases hu).to
end
section
variable {X : Cx} {fx : Fx} {m : Type → Type} [Mo m] {G : List Sl} {es : List Expr} {pos p : Pos} {ys : m (List D)} {kk j : Nat} {c : Str} {C fI : Addr} {ns : List Str} {g : List D → R (List D)}
/-- C(e, ..), C's __init__ being super().__init__(..) -/
theorem de_makeS {L : Nat → Prop} (Ck : Cok X fx kk) (cn : ClsN X.K X.mg c C) (na : ∀ f ∈ ns, NoAttr X.K C f) (M : Mk X.K C fI) (F : FnP X.prog X.w X.K X.mg X.base j fI [] (spIS X.K X.mg C ns L g)) (ha : PA X es (tA X.K X.mg fx G ys)) (hn : ∀ ds : List D, g ds ≠ .stuck → L (ds.length + 1))
    (hj : j + 1 ≤ kk := by decide) (hg : Gl X c := by rfl) (hdb : (c == ("__debug__" : Str)) = false := by decide)
    (he : ArgHd X.env es := by first | exact True.intro | exact rfl)
    (hpl : ((backTo pos (starEach es X.env)).any (·.1) || (backToKw pos (keywordEach [] X.env)).any (·.1.isNone)) = false := by rfl) :
    PE X (.Call (.Name c p) es [] pos) (tE X.K X.mg fx G (do let ds ← ys; let es ← Mo.lift (g ds); pure (.ins c ns es))) := by
  refine ⟨fun pins s σ H Q I ⟨Hf, s0, h⟩ => ?_⟩
  refine wpAny_Call_Name_kw (ld_glob I hg cn.mg ?_ hdb)
  refine args_run (ks := []) (tk := tNil) M.kp ha pk_nil I ?_ he rfl rfl hpl
  refine (h.bind.mono fun vs H1 ⟨ds, Hf1, s1, sb, r, h1⟩ => ?_).to
  refine ⟨rfl, fun s2 us ws I2 hw rv => ?_⟩
  rw [List.append_nil] at rv
  have hlen : L (ds.length + 1) := hn ds fun z => by
    have w := Mo.wp_lift (Mo.wp_bind h1.2)
    rw [z] at w
    exact w
  exact run_makeP (E := WE fx.W) M F Ck.gd (Ck.rm.mono hj) (passAt Ck.tk σ) I2 hw rv fun x dx hx hdx hne => ⟨make_core cn na hlen r h1 hx hdx hne, x, vs, dx, rfl, upd_same⟩
end
end DL
/-! ### list(zip(a, b)) of two tuples -/
namespace DL
open PySem PySem.Spec PyProof.Rows PySem.Calls L2 RZ
section
variable {prog : Program} {w : World} {A : Around} {E : Value → Shared → Prop} {s : Shared}
/-- a zip of two tuples, k of its pairs given out, all of them still held -/
structure ZpSt (h : Heap) (z TI TO i1 i2 l1 l2 S : Addr) (xs ys : Array Value) (k : Nat) : Prop where
  ti : IsPair h TI (.ref i1) (.ref i2)
  a1 : h.IsTupleIter i1 l1 k
  a2 : h.IsTupleIter i2 l2 k
  b1 : h.IsTuple l1 xs
  b2 : h.IsTuple l2 ys
  st : (IsZip h z TI TO .none ∧ IsPair h TO .none .none) ∨ ∃ T f oT, IsZipHeld h z TI TO T f ∧ h.get? T = some oT ∧ T ≠ z ∧ T ≠ i1 ∧ T ≠ i2 ∧ T ≠ S
structure ZpOff (z TI TO i1 i2 l1 l2 S : Addr) : Prop where
  z : z ≠ S
  TI : TI ≠ S
  TO : TO ≠ S
  i1 : i1 ≠ S
  i2 : i2 ≠ S
  l1 : l1 ≠ S
  l2 : l2 ≠ S
theorem ZpSt.keep {h h' : Heap} {z TI TO i1 i2 l1 l2 S : Addr} {xs ys : Array Value} {k : Nat} (o : ZpOff z TI TO i1 i2 l1 l2 S) (a : ZpSt h z TI TO i1 i2 l1 l2 S xs ys k) (hk : ∀ b o, b ≠ S → h.get? b = some o → h'.get? b = some o) : ZpSt h' z TI TO i1 i2 l1 l2 S xs ys k :=
  ⟨hk _ _ o.TI a.ti, a.a1.at fun u e => hk _ u o.i1 e, a.a2.at fun u e => hk _ u o.i2 e, a.b1.at fun u e => hk _ u o.l1 e, a.b2.at fun u e => hk _ u o.l2 e, by
    rcases a.st with ⟨h1, h2⟩ | ⟨T, f, oT, h1, h2, n1, n2, n3, n4⟩
    · exact .inl ⟨hk _ _ o.z h1, hk _ _ o.TO h2⟩
    · exact .inr ⟨T, f, oT, hk _ _ o.z h1, hk _ _ n4 h2, n1, n2, n3, n4⟩⟩
end
/-- the addresses as hold the pairs ps, in order, above lo -/
structure ZpG (ps : List (Value × Value)) (lo : Addr) (h : Heap) (as : List Addr) : Prop where
  rise : as.Pairwise (· < ·)
  above : ∀ a ∈ as, lo < a
  pairs : ∀ (j : Nat) (a : Addr), as[j]? = some a → ∃ p, ps[j]? = some p ∧ h.get? a = some { cls := .type "tuple", data := .seq #[p.1, p.2] }
theorem ZpG.there {ps : List (Value × Value)} {lo : Addr} {h : Heap} {as : List Addr} (g : ZpG ps lo h as) {a : Addr} (ha : a ∈ as) : a < h.objs.size := by
  obtain ⟨j, hj⟩ := List.mem_iff_getElem?.mp ha
  obtain ⟨_, _, e⟩ := g.pairs j a hj
  exact Heap.lt_size e
/-! the tracked heap -/
end DL
/-! ### text.count, text.find; a field set again; what is never reached -/
namespace DL
open PySem PySem.Spec PyProof.Rows L2
section
variable {X : Cx} {fx : Fx} {m : Type → Type} [Mo m] {G : List Sl} {o e : Expr} {pos apos : Pos} {x y : m D}
theorem de_count (ho : PE X o (tE X.K X.mg fx G x)) (he : PE X e (tE X.K X.mg fx G y)) (hs : starEach [e] X.env = [(false, eval e X.env)] := by rfl) (hbase : attributeBase o "count" X.env (eval o X.env) = eval o X.env := by rfl) (hline : (apos.endLine == pos.line) = true := by rfl) :
    PE X (.Call (.Attribute o "count" apos) [e] [] pos) (tE X.K X.mg fx G (do let u ← x; let _ ← DL.ask (strOf u); let v ← y; DL.ask (strM (fun a b => .int (Txt.count ⟨a.toArray⟩ ⟨b.toArray⟩)) u v))) :=
  peI (pe_m1 PySem.F.slot_str_count PySem.F.type_str_count mt_count ho he hs hbase hline) fun σ H Q ⟨Hf, s, h⟩ =>
  (h.bind.mono fun v1 H1 ⟨d1, Hf1, s1, sb1, r1, h1⟩ => by
    have k := Mo.wp_lift (Mo.wp_bind h1.2)
    cases d1 with
    | str S =>
      obtain ⟨rfl, hz1⟩ := r1
      refine ⟨⟨_, rfl⟩, ?_⟩
      have h2 : tX X.K X.mg fx G (fun H d v => Is X.K X.mg H d v) (do let v ← y; DL.ask (strM (fun a b => .int (Txt.count ⟨a.toArray⟩ ⟨b.toArray⟩)) (.str S) v) : m D) Hf1 s1 σ H1 Q := ⟨h1.1, k⟩
      refine (h2.bind.mono fun v2 H2 ⟨d2, Hf2, s2, sb2, r2, h3⟩ => ?_).to
      obtain ⟨d, e, q⟩ := h3.ask
      cases d2 with
      | str T =>
        cases e
        obtain ⟨rfl, _⟩ := r2
        exact ⟨_, _, rfl, rfl, q _ Hf2 H2 (.refl h3.1.top) (is_int _)⟩
      | _ => cases e
    | _ => exact k.elim).to
end
/-! calls of defs with keywords and defaults -/
/-! the facts of an __init__ that is super().__init__ -/
section
variable {P : Program} {K : PySem.W.Frag} {mg : Str → Option Value}
theorem supFun_mk {x qual : Str} {st : Stmt} {f fb D cda cc : Addr} {oc : Value} {od an : Option Addr} {osl : Array (Option Value)} {kV doc pm ct : Value} {ccl : Value} {cdd : Option Addr} {vs : Array Value} {ccs : Array (Option Value)} {file : Str} {tf : Tok} {cl : Value} {cld : Option Addr} {csl : Array (Option Value)} {ob : Value} {db : Option Addr} {fdb : FuncData} {sb : Array (Option Value)}
    (l : K.lookup f = some ⟨oc, od, .func (PySem.W.fnX x qual (defArgs st) (defBody st) (defScope st) [("__class__", cc)] .none kV doc pm an (.ref cda) ct), osl⟩) (c : PySem.W.codeIn K (.ref cda) qual = true) (lc : K.lookup cda = some ⟨ccl, cdd, .fields vs, ccs⟩) (hv : vs[2]? = some (.str file tf)) (hf : ((P.main.file : Str) == file) = true)
    (hcc : K.lookup cc = some ⟨cl, cld, .cell (some (.ref D)), csl⟩) (hcls : PySem.W.isClsIn K D = true) (mro : PySem.W.mroIn K D (.ref D) = some true) (sup : mg "super" = none) (top : (P.main.scope.names.lookup ("super" : Str)).isSome = false) (init : PySem.W.ks_superIn K D D "__init__" = some (some (.ref fb))) (ty : PySem.W.typeIn K (.ref fb) = some (.type "function"))
    (lb : K.lookup fb = some ⟨ob, db, .func fdb, sb⟩) (tp : PySem.W.nsIn K cStatics "thirdparty.any" = some none) :
    SupFun P K mg x qual st f fb D (PySem.W.fnX x qual (defArgs st) (defBody st) (defScope st) [("__class__", cc)] .none kV doc pm an (.ref cda) ct) :=
  ⟨⟨oc, od, kV, doc, pm, an, cda, cc, ct, osl, ccl, cdd, vs, ccs, file, tf, cl, cld, csl, rfl, l, c, lc, hv, hf, hcc⟩, Option.isSome_iff_exists.mp hcls, mro, sup, top, init, ty, by unfold PySem.W.fnIn; rw [lb], tp⟩
end
end DL
namespace DL
open PySem PySem.Spec PyProof.Rows L2
/-! an __init__ without defaults, called by names -/
/-! text.lstrip(signs) -/
end DL
/-! ### list.index of a list of texts -/
namespace DL
open PySem PySem.Spec PyProof.Rows L2
def indexLD (a b : D) : Option D := match a, b with
  | .lst ds, .str z => match strsOf ds with
    | some ps => if z ∈ ps then some (.int ((ps.idxOf z : Nat) : Int)) else none
    | none => none
  | _, _ => none
section
variable {X : Cx} {fx : Fx} {m : Type → Type} [Mo m] {G : List Sl} {o e : Expr} {apos pos : Pos} {x y : m D}
theorem eqV_str (a b : List Nat) : eqV (.str ⟨a.toArray⟩) (.str ⟨b.toArray⟩) = decide (a = b) := by
  show ((⟨a.toArray⟩ : Str) == ⟨b.toArray⟩) = _
  by_cases h : a = b
  · subst h; simp
  · have : (⟨a.toArray⟩ : Str) ≠ ⟨b.toArray⟩ := fun e => h (by
      have := congrArg (fun s => s.cps.toList) e
      simpa using this)
    simp [h, this]
theorem de_indexL (ho : PE X o (tE X.K X.mg fx G x)) (he : PE X e (tE X.K X.mg fx G y)) (hs : starEach [e] X.env = (false, eval e X.env) :: starEach [] X.env := by rfl) (hbase : attributeBase o "index" X.env (eval o X.env) = eval o X.env := by rfl) (hline : (apos.endLine == pos.line) = true := by rfl)
    (hfew : ((backTo pos (starEach [e] X.env)).all (fun x => !x.1) && (backToKw pos (keywordEach [] X.env)).all (fun x => x.1.isSome)
      && decide ([e].length + ([] : List Keyword).length + (if ([] : List Keyword).isEmpty then 0 else 1) < 30)) = true := by rfl) (hplain : (backTo pos (starEach [] X.env)).any (·.1) = false := by rfl) :
    PE X (.Call (.Attribute o "index" apos) [e] [] pos) (tE X.K X.mg fx G (do let u ← x; let _ ← ask (lstOf u); let v ← y; ask (indexLD u v))) :=
  peI (pe_bm PySem.F.plainAttrs_list PySem.F.slot_list_index PySem.F.type_list_index mt_index ho (pa_cons he pa_nil hs) hbase hfew hline hs hplain) fun σ H Q ⟨Hf, s, h⟩ =>
  (h.bind.mono fun v1 H1 ⟨d1, Hf1, s1, sb1, r1, h1⟩ => by
    have k := Mo.wp_lift (Mo.wp_bind h1.2)
    cases d1 with
    | lst ds =>
      obtain ⟨hz1, a, vs, rfl, t1, l1⟩ := r1
      refine ⟨?_, ?_⟩
      · exact .inl ⟨rfl, vs, .inl (.inl (h1.1.top _ _ t1))⟩
      have h2 : tX X.K X.mg fx G (fun H d v => Is X.K X.mg H d v) (do let v ← y; ask (indexLD (.lst ds) v) : m D) Hf1 s1 σ H1 Q := ⟨h1.1, k⟩
      refine (h2.bind.mono fun v2 H2 ⟨d2, Hf2, s2, sb2, r2, h3⟩ => ?_).to
      obtain ⟨d, e, q⟩ := h3.ask
      cases d2 with
      | str z =>
        obtain ⟨rfl, _⟩ := r2
        have e' : (match strsOf ds with
          | some ps => if z ∈ ps then some (D.int ((ps.idxOf z : Nat) : Int)) else none
          | none => none) = some d := e
        cases hp : strsOf ds with
        | none => rw [hp] at e'; cases e'
        | some ps =>
          rw [hp] at e'
          by_cases hm : z ∈ ps
          · have e2 : (if z ∈ ps then some (D.int ((ps.idxOf z : Nat) : Int)) else none) = some d := e'
            rw [if_pos hm] at e2
            cases e2
            have hv := isL_strs (l1.mono sb2) hp
            have hj : ps.idxOf z < ps.length := List.idxOf_lt_length_iff.mpr hm
            refine ⟨a, vs, _, ps.idxOf z, .str ⟨z.toArray⟩, rfl, rfl, .inl (.inl (h3.1.top _ _ (sb2 _ _ t1))), rfl, ?_, ?_, ?_, ?_, q _ Hf2 H2 (.refl h3.1.top) (is_int _)⟩
            · rw [hv, List.all_eq_true]
              intro v m
              obtain ⟨p, _, rfl⟩ := List.mem_map.mp m
              rfl
            · rw [hv, List.getElem?_map, List.getElem?_eq_getElem hj, List.getElem_idxOf]
              rfl
            · rw [eqV_str]; simp
            · intro i z' hi hz'
              rw [hv, List.getElem?_map, List.getElem?_eq_getElem (Nat.lt_trans hi hj)] at hz'
              cases hz'
              rw [eqV_str]
              have := List.not_of_lt_findIdx (p := (· == z)) hi
              simpa using this
          · have e2 : (if z ∈ ps then some (D.int ((ps.idxOf z : Nat) : Int)) else none) = some d := e'
            rw [if_neg hm] at e2
            cases e2
      | _ => cases e
    | _ => exact k.elim).to
end
end DL
/-! ### patterns and rules: mirrors, texts, draws -/
namespace FN
open DL
def c_GAP : D := (.str [42, 42])
def c_HOST : D := (.str [104, 111, 115, 116])
def c_HOST_LIMITS : D := (.tup [(.int (1)), (.int (4)), (.int (3)), (.int (2))])
def c_LONGEST_TEXT : D := (.int (8))
def c_PATH : D := (.str [112, 97, 116, 104])
def c_PATH_LIMITS : D := (.tup [(.int (0)), (.int (3)), (.int (2)), (.int (2))])
def b_is_label_text_206f (a0 : D) : R (Fl Unit Empty) := (do let t22 ← (DL.orM (DL.notM (do let x2 ← (do let x1 ← (pure a0); DL.ask (isiD "str" x1)); DL.ask (truD x2))) (DL.orM (DL.notM (do let x6 ← (chainM leD leD (pure (.int 1)) (do let r5 ← (do let x3 ← (pure a0); let r4 ← pure []; pure (x3 :: r4)); DL.ask (lenD r5)) (pure c_LONGEST_TEXT)); DL.ask (bOf x6))) (do let x9 ← (do let x7 ← (pure a0); let _ ← DL.ask (strOf x7); let y8 ← (pure (.str [42])); DL.ask (strM (fun a b => .int (PySem.Txt.count ⟨a.toArray⟩ ⟨b.toArray⟩)) x7 y8)); let y10 ← (pure (.int 1)); DL.ask ((gtD x9 y10).bind bOf)))); seqF (if t22 = true then (do let v12 ← (pure (.bl false)); pure (.rt v12)) else (pure (.nx ()))) fun (q11 : Unit) => (do let v21 ← (notV (mkL (do let r20 ← (do let r13 ← (pure a0); DL.ask (itD r13)); lcF (fun d => some d) (fun (c15 : D) => (DL.andM (do let x16 ← (pure c15); let y17 ← (pure (.str [42])); DL.ask ((neD x16 y17).bind bOf)) (do let x18 ← (pure c15); let y19 ← (pure c_CHARACTERS); DL.ask ((notInD x18 y19).bind bOf)))) (fun (c15 : D) => (pure c15)) r20))); pure (.rt v21)))
theorem e_is_label_text_206f (a0 : D) : b_is_label_text_206f a0 = (do let t22 ← (DL.orM (DL.notM (do let x2 ← (DL.ask (isiD "str" a0)); DL.ask (truD x2))) (DL.orM (DL.notM (do let x6 ← (chainM leD leD (pure (.int 1)) (DL.ask (lenD [a0])) (pure c_LONGEST_TEXT)); DL.ask (bOf x6))) (do let _ ← DL.ask (strOf a0); let x9 ← (DL.ask (strM (fun a b => .int (PySem.Txt.count ⟨a.toArray⟩ ⟨b.toArray⟩)) a0 (.str [42]))); DL.ask ((gtD x9 (.int 1)).bind bOf)))); seqF (if t22 = true then (pure (.rt (.bl false))) else (pure (.nx ()))) fun (q11 : Unit) => (do let v21 ← (notV (mkL (do let r20 ← (DL.ask (itD a0)); lcF (fun d => some d) (fun (c15 : D) => (DL.andM (DL.ask ((neD c15 (.str [42])).bind bOf)) (DL.ask ((notInD c15 c_CHARACTERS).bind bOf)))) (fun (c15 : D) => (pure c15)) r20))); pure (.rt v21))) := by
  unfold b_is_label_text_206f; simp only [pure_bind, bind_assoc, mkL]
def m_is_label_text_206f : List D → R D := apR1 fun a0 => (runR false (b_is_label_text_206f a0))
theorem n_is_label_text_206f : ∀ ds : List D, m_is_label_text_206f ds ≠ .stuck → ds.length = 1 := apR1_len _
def b_Pattern_init_4a0d (a1 a2 a3 : D) : R (Fl (List D) Empty) := (do let t9 ← (do let x1 ← (pure a3); let y2 ← (pure .non); DL.ask ((isD x1 y2).bind bOf)); seqF (if t9 = true then (do let v4 ← (pure a1); raiseX "BadPattern" "pattern" v4) else (pure (.nx ()))) fun (q3 : Unit) => (do let v5 ← (pure a1); (do let v6 ← (pure a2); (do let v7 ← (pure a3); let c8 ← DL.ask (unN 3 v7); (pure (.nx [v5, v6, (c8.getD 0 .non), (c8.getD 1 .non), (c8.getD 2 .non)]))))))
def m_Pattern_init_4a0d : List D → R (List D) := apI3 fun a1 a2 a3 => runI (b_Pattern_init_4a0d a1 a2 a3)
theorem n_Pattern_init_4a0d : ∀ ds : List D, m_Pattern_init_4a0d ds ≠ .stuck → ds.length = 3 := apI3_len _
def b_shape_of_items_2081 (a0 a1 : D) : R (Fl Unit Empty) := (do let v1 ← (pure a1); let c2 ← DL.ask ((unN 4) v1); (do let v3 ← mkL (do let r11 ← (do let r6 ← (do let x4 ← (pure a0); let r5 ← pure []; pure (x4 :: r5)); DL.ask (enumOf r6)); lcF un2 (fun (c8 : D × D) => (do let x9 ← (pure c8.2); let y10 ← (pure c_GAP); DL.ask ((eqD x9 y10).bind bOf))) (fun (c8 : D × D) => (pure c8.1)) r11); (do let t94 ← (DL.orM (do let x15 ← (do let r14 ← (do let x12 ← (pure v3); let r13 ← pure []; pure (x12 :: r13)); DL.ask (lenD r14)); let y16 ← (pure (.int 1)); DL.ask ((gtD x15 y16).bind bOf)) (do let x27 ← (mkL (do let r26 ← (do let r17 ← (pure a0); DL.ask (itD r17)); lcF (fun d => some d) (fun (c19 : D) => (DL.andM (do let x20 ← (pure c19); let y21 ← (pure c_GAP); DL.ask ((neD x20 y21).bind bOf)) (DL.notM (do let x25 ← (do let r24 ← (do let x22 ← (pure c19); let r23 ← pure []; pure (x22 :: r23)); Mo.lift (m_is_label_text_206f r24)); DL.ask (truD x25))))) (fun (c19 : D) => (pure c19)) r26)); DL.ask (truD x27))); seqF (if t94 = true then (do let v29 ← (pure .non); pure (.rt v29)) else (pure (.nx ()))) fun (q28 : Unit) => (do let t93 ← (DL.notM (do let x30 ← (pure v3); DL.ask (truD x30))); seqF (if t93 = true then (do let v49 ← (iteM (do let x35 ← (chainM leD leD (pure (c2.getD 0 .non)) (do let r34 ← (do let x32 ← (pure a0); let r33 ← pure []; pure (x32 :: r33)); DL.ask (lenD r34)) (pure (c2.getD 1 .non))); DL.ask (bOf x35)) (do let r47 ← (do let x45 ← (do let r38 ← (do let x36 ← (pure a0); let r37 ← pure []; pure (x36 :: r37)); DL.ask (tupleD r38)); let r46 ← (do let x43 ← (do let r39 ← pure []; let r40 ← DL.ask (szL r39); pure (.tup r40)); let r44 ← (do let x41 ← (pure (.bl false)); let r42 ← pure []; pure (x41 :: r42)); pure (x43 :: r44)); pure (x45 :: r46)); let r48 ← DL.ask (szL r47); pure (.tup r48)) (pure .non)); pure (.rt v49)) else (pure (.nx ()))) fun (q31 : Unit) => (do let v50 ← (do let r61 ← (do let x59 ← (do let x56 ← (pure a0); let l57 ← (pure none); let u58 ← (do let x54 ← (do let x52 ← (pure v3); let y53 ← (pure (.int 0)); DL.ask (ixD x52 y53)); let i55 ← DL.ask (intOf x54); pure (some i55)); DL.ask (sliceD x56 l57 u58)); let r60 ← pure []; pure (x59 :: r60)); DL.ask (tupleD r61)); let v51 ← (do let r73 ← (do let x71 ← (do let x68 ← (pure a0); let l69 ← (do let x66 ← (do let x64 ← (do let x62 ← (pure v3); let y63 ← (pure (.int 0)); DL.ask (ixD x62 y63)); let y65 ← (pure (.int 1)); DL.ask (addD x64 y65)); let i67 ← DL.ask (intOf x66); pure (some i67)); let u70 ← (pure none); DL.ask (sliceD x68 l69 u70)); let r72 ← pure []; pure (x71 :: r72)); DL.ask (tupleD r73)); (do let v92 ← (iteM (DL.andM (do let x77 ← (do let r76 ← (do let x74 ← (pure v50); let r75 ← pure []; pure (x74 :: r75)); DL.ask (lenD r76)); let y78 ← (pure (c2.getD 2 .non)); DL.ask ((leD x77 y78).bind bOf)) (do let x82 ← (do let r81 ← (do let x79 ← (pure v51); let r80 ← pure []; pure (x79 :: r80)); DL.ask (lenD r81)); let y83 ← (pure (c2.getD 3 .non)); DL.ask ((leD x82 y83).bind bOf))) (do let r90 ← (do let x88 ← (pure v50); let r89 ← (do let x86 ← (pure v51); let r87 ← (do let x84 ← (pure (.bl true)); let r85 ← pure []; pure (x84 :: r85)); pure (x86 :: r87)); pure (x88 :: r89)); let r91 ← DL.ask (szL r90); pure (.tup r91)) (pure .non)); pure (.rt v92)))))))
theorem e_shape_of_items_2081 (a0 a1 : D) : b_shape_of_items_2081 a0 a1 = (do let c2 ← DL.ask ((unN 4) a1); let r11 ← (DL.ask (enumOf [a0])); let v3 ← (lcF un2 (fun (c8 : D × D) => (DL.ask ((eqD c8.2 c_GAP).bind bOf))) (fun (c8 : D × D) => (pure c8.1)) r11); let t94 ← (DL.orM (do let x15 ← (DL.ask (lenD [(.lst v3)])); DL.ask ((gtD x15 (.int 1)).bind bOf)) (do let r26 ← (DL.ask (itD a0)); let x27 ← (lcF (fun d => some d) (fun (c19 : D) => (DL.andM (DL.ask ((neD c19 c_GAP).bind bOf)) (DL.notM (do let x25 ← (Mo.lift (m_is_label_text_206f [c19])); DL.ask (truD x25))))) (fun (c19 : D) => (pure c19)) r26); DL.ask (truD (.lst x27)))); seqF (if t94 = true then (pure (.rt .non)) else (pure (.nx ()))) fun (q28 : Unit) => (do let t93 ← (DL.notM (DL.ask (truD (.lst v3)))); seqF (if t93 = true then (do let v49 ← (iteM (do let x35 ← (chainM leD leD (pure (c2.getD 0 .non)) (DL.ask (lenD [a0])) (pure (c2.getD 1 .non))); DL.ask (bOf x35)) (do let x45 ← (DL.ask (tupleD [a0])); let r40 ← DL.ask (szL []); let r48 ← DL.ask (szL [x45, (.tup r40), (.bl false)]); pure (.tup r48)) (pure .non)); pure (.rt v49)) else (pure (.nx ()))) fun (q31 : Unit) => (do let x54 ← (DL.ask (ixD (.lst v3) (.int 0))); let i55 ← DL.ask (intOf x54); let x59 ← (DL.ask (sliceD a0 none (some i55))); let v50 ← (DL.ask (tupleD [x59])); let x64 ← (DL.ask (ixD (.lst v3) (.int 0))); let x66 ← (DL.ask (addD x64 (.int 1))); let i67 ← DL.ask (intOf x66); let x71 ← (DL.ask (sliceD a0 (some i67) none)); let v51 ← (DL.ask (tupleD [x71])); let v92 ← (iteM (DL.andM (do let x77 ← (DL.ask (lenD [v50])); DL.ask ((leD x77 (c2.getD 2 .non)).bind bOf)) (do let x82 ← (DL.ask (lenD [v51])); DL.ask ((leD x82 (c2.getD 3 .non)).bind bOf))) (do let r91 ← DL.ask (szL [v50, v51, (.bl true)]); pure (.tup r91)) (pure .non)); pure (.rt v92)))) := by
  unfold b_shape_of_items_2081; simp only [pure_bind, bind_assoc, mkL]
def m_shape_of_items_2081 : List D → R D := apR2 fun a0 a1 => (runR false (b_shape_of_items_2081 a0 a1))
theorem n_shape_of_items_2081 : ∀ ds : List D, m_shape_of_items_2081 ds ≠ .stuck → ds.length = 2 := apR2_len _
def b_host_shape_b82b (a0 : D) : R (Fl Unit Empty) := (do let t14 ← (DL.notM (do let x2 ← (do let x1 ← (pure a0); DL.ask (isiD "str" x1)); DL.ask (truD x2))); seqF (if t14 = true then (do let v4 ← (pure .non); pure (.rt v4)) else (pure (.nx ()))) fun (q3 : Unit) => (do let v13 ← (do let r12 ← (do let x10 ← (do let x7 ← (mkL (do let x5 ← (pure a0); let _ ← DL.ask (strOf x5); let y6 ← (pure (.str [46])); DL.ask (splitD x5 y6))); DL.ask (revD x7)); let r11 ← (do let x8 ← (pure c_HOST_LIMITS); let r9 ← pure []; pure (x8 :: r9)); pure (x10 :: r11)); Mo.lift (m_shape_of_items_2081 r12)); pure (.rt v13)))
theorem e_host_shape_b82b (a0 : D) : b_host_shape_b82b a0 = (do let t14 ← (DL.notM (do let x2 ← (DL.ask (isiD "str" a0)); DL.ask (truD x2))); seqF (if t14 = true then (pure (.rt .non)) else (pure (.nx ()))) fun (q3 : Unit) => (do let _ ← DL.ask (strOf a0); let x7 ← (DL.ask (splitD a0 (.str [46]))); let x10 ← (DL.ask (revD (.lst x7))); let v13 ← (Mo.lift (m_shape_of_items_2081 [x10, c_HOST_LIMITS])); pure (.rt v13))) := by
  unfold b_host_shape_b82b; simp only [pure_bind, bind_assoc, mkL]
def m_host_shape_b82b : List D → R D := apR1 fun a0 => (runR false (b_host_shape_b82b a0))
theorem n_host_shape_b82b : ∀ ds : List D, m_host_shape_b82b ds ≠ .stuck → ds.length = 1 := apR1_len _
def b_path_shape_25b3 (a0 : D) : R (Fl Unit Empty) := (do let t24 ← (DL.orM (DL.notM (do let x2 ← (do let x1 ← (pure a0); DL.ask (isiD "str" x1)); DL.ask (truD x2))) (DL.notM (do let x5 ← (do let x3 ← (pure a0); let _ ← DL.ask (strOf x3); let y4 ← (pure (.str [47])); DL.ask (strM (fun a b => .bl (PySem.Txt.startswith ⟨a.toArray⟩ ⟨b.toArray⟩)) x3 y4)); DL.ask (truD x5)))); seqF (if t24 = true then (do let v7 ← (pure .non); pure (.rt v7)) else (pure (.nx ()))) fun (q6 : Unit) => (do let v23 ← (do let r22 ← (do let x20 ← (iteM (do let x8 ← (pure a0); let y9 ← (pure (.str [47])); DL.ask ((neD x8 y9).bind bOf)) (mkL (do let x15 ← (do let x12 ← (pure a0); let l13 ← (do let x10 ← (pure (.int 1)); let i11 ← DL.ask (intOf x10); pure (some i11)); let u14 ← (pure none); DL.ask (sliceD x12 l13 u14)); let _ ← DL.ask (strOf x15); let y16 ← (pure (.str [47])); DL.ask (splitD x15 y16))) (mkL (do let r17 ← pure []; DL.ask (szL r17)))); let r21 ← (do let x18 ← (pure c_PATH_LIMITS); let r19 ← pure []; pure (x18 :: r19)); pure (x20 :: r21)); Mo.lift (m_shape_of_items_2081 r22)); pure (.rt v23)))
theorem e_path_shape_25b3 (a0 : D) : b_path_shape_25b3 a0 = (do let t24 ← (DL.orM (DL.notM (do let x2 ← (DL.ask (isiD "str" a0)); DL.ask (truD x2))) (DL.notM (do let _ ← DL.ask (strOf a0); let x5 ← (DL.ask (strM (fun a b => .bl (PySem.Txt.startswith ⟨a.toArray⟩ ⟨b.toArray⟩)) a0 (.str [47]))); DL.ask (truD x5)))); seqF (if t24 = true then (pure (.rt .non)) else (pure (.nx ()))) fun (q6 : Unit) => (do let x20 ← (iteM (DL.ask ((neD a0 (.str [47])).bind bOf)) (mkL (do let i11 ← DL.ask (intOf (.int 1)); let x15 ← (DL.ask (sliceD a0 (some i11) none)); let _ ← DL.ask (strOf x15); DL.ask (splitD x15 (.str [47])))) (mkL (DL.ask (szL [])))); let v23 ← (Mo.lift (m_shape_of_items_2081 [x20, c_PATH_LIMITS])); pure (.rt v23))) := by
  unfold b_path_shape_25b3; simp only [pure_bind, bind_assoc, mkL]
def m_path_shape_25b3 : List D → R D := apR1 fun a0 => (runR false (b_path_shape_25b3 a0))
theorem n_path_shape_25b3 : ∀ ds : List D, m_path_shape_25b3 ds ≠ .stuck → ds.length = 1 := apR1_len _
def m_HostPattern_init_23dd : List D → R (List D) := apI1 fun a1 => (do let z10 ← (do let x8 ← (pure a1); let r9 ← (do let x6 ← (pure c_HOST); let r7 ← (do let x4 ← (do let r3 ← (do let x1 ← (pure a1); let r2 ← pure []; pure (x1 :: r2)); Mo.lift (m_host_shape_b82b r3)); let r5 ← pure []; pure (x4 :: r5)); pure (x6 :: r7)); pure (x8 :: r9)); m_Pattern_init_4a0d z10)
theorem n_HostPattern_init_23dd : ∀ ds : List D, m_HostPattern_init_23dd ds ≠ .stuck → ds.length = 1 := apI1_len _
def m_PathPattern_init_28de : List D → R (List D) := apI1 fun a1 => (do let z10 ← (do let x8 ← (pure a1); let r9 ← (do let x6 ← (pure c_PATH); let r7 ← (do let x4 ← (do let r3 ← (do let x1 ← (pure a1); let r2 ← pure []; pure (x1 :: r2)); Mo.lift (m_path_shape_25b3 r3)); let r5 ← pure []; pure (x4 :: r5)); pure (x6 :: r7)); pure (x8 :: r9)); m_Pattern_init_4a0d z10)
theorem n_PathPattern_init_28de : ∀ ds : List D, m_PathPattern_init_28de ds ≠ .stuck → ds.length = 1 := apI1_len _
end FN
namespace FN
open DL PySem PySem.W
/-! ### texts of patterns -/
theorem parts_len (x : Str) (w : Nat) : ∀ (cuts : List Nat) (a : Nat), (StrLaws.partsFrom x w a cuts).length = cuts.length + 1
  | [], a => rfl
  | c :: r, a => by
    show (StrLaws.partsFrom x w (c + w) r).length + 1 = _
    rw [parts_len x w r]
    rfl
theorem spl_count {c : Nat} : ∀ (z acc : List Nat), (TL.spl [c] 0 acc z).length = z.count c + 1
  | [], acc => by rw [TL.spl_nil]; rfl
  | x :: r, acc => by
    by_cases h : x = c
    · subst h
      have hp : TL.pre [x] (x :: r) = true := by simp [TL.pre]
      rw [TL.spl_hit hp]
      show (TL.spl [x] 0 [] r).length + 1 = _
      rw [spl_count r, List.count_cons_self]
    · have hp : TL.pre [c] (x :: r) = false := TL.pre_of_head [] r h
      rw [TL.spl_miss hp, spl_count r, List.count_cons_of_ne h]
theorem count_one (a : List Nat) (c : Nat) : Txt.count ⟨a.toArray⟩ ⟨[c].toArray⟩ = (a.count c : Int) := by
  have hy : TL.tl (⟨[c].toArray⟩ : Str) ≠ [] := by simp [TL.tl]
  obtain ⟨f, g, hn⟩ := StrLaws.occ_tight ⟨a.toArray⟩ ⟨[c].toArray⟩ (TL.len1 hy)
  have key := congrArg List.length (TL.parts_spl hy _ 0 f (Nat.zero_le _) g hn)
  rw [List.length_map, parts_len, List.drop_zero] at key
  have e : TL.tl (⟨[c].toArray⟩ : Str) = [c] := rfl
  have e2 : TL.tl (⟨a.toArray⟩ : Str) = a := by simp [TL.tl]
  rw [e, e2, spl_count] at key
  unfold Txt.count
  omega
/-- an item of a pattern, not the gap -/
def isIt (z : List Nat) : Bool := decide (1 ≤ z.length) && decide (z.length ≤ 8) && decide (z.count 42 ≤ 1) && z.all fun c => decide (c = 42) || decide (c ∈ CH)
theorem item_ok (z : List Nat) : m_is_label_text_206f [.str z] = .ok (.bl (isIt z)) := by
  have is1 : isiD "str" (.str z) = some (.bl true) := rfl
  have hl : lenD [.str z] = some (.int z.length) := rfl
  have hc : strM (fun a b => .int (PySem.Txt.count ⟨a.toArray⟩ ⟨b.toArray⟩)) (.str z) (.str [42]) = some (.int (z.count 42 : Int)) := by
    show some (D.int (PySem.Txt.count ⟨z.toArray⟩ ⟨[42].toArray⟩)) = _
    rw [count_one]
  have hcm : (chainM leD leD (pure (.int 1)) (DL.ask (lenD [.str z])) (pure c_LONGEST_TEXT) : R D) = .ok (.bl (decide (1 ≤ (z.length : Int)) && decide ((z.length : Int) ≤ 8))) := by
    rw [hl]
    unfold chainM
    simp only [le_l, askR, pure_bind, Option.bind_some, bOf_bl, c_LONGEST_TEXT]
    cases decide (1 ≤ (z.length : Int)) <;> rfl
  have gt : (gtD (.int (z.count 42 : Int)) (.int 1)).bind bOf = some (decide ((1 : Int) < (z.count 42 : Int))) := rfl
  have ewalk : (lcF (fun d => some d) (fun (c15 : D) => (DL.andM (DL.ask ((neD c15 (.str [42])).bind bOf)) (DL.ask ((notInD c15 c_CHARACTERS).bind bOf)))) (fun (c15 : D) => (pure c15)) (chrs z) : R (List D)) = .ok ((chrs z).filter fun d => !(decide (sgn d = 42) || decide (sgn d ∈ CH))) := by
    refine (lcR (u := fun d => some d) (xe := fun c15 : D => (pure c15 : R D)) (c := fun d => d) (p := fun d => !(decide (sgn d = 42) || decide (sgn d ∈ CH))) (f := fun d => d) (chrs z) (fun _ _ => rfl) (fun d m => ?_) (fun _ _ _ => rfl)).trans ?_
    rotate_left
    · rw [List.map_id']
    · obtain ⟨c, _, rfl⟩ := chrs_mem m
      have e1 : (neD (.str [c]) (.str [42])).bind bOf = some (!decide ([c] = [42])) := by rw [ne_ss]; rfl
      have e2 : (notInD (.str [c]) c_CHARACTERS).bind bOf = some (!decide (c ∈ CH)) := notin_sign
      have e3 : decide ([c] = [42]) = decide (c = 42) := by simp
      have e4 : sgn (.str [c]) = c := rfl
      simp only [DL.andM, e1, e2, e3, e4, askR, pure_bind]
      cases decide (c = 42) <;> rfl
  unfold m_is_label_text_206f apR1
  simp only [e_is_label_text_206f, is1, DL.notM, DL.orM, askR, pure_bind, tru_bl, Bool.not_true, Bool.false_eq_true, if_false, hcm, okpR, bOf_bl, str_of, hc, gt, it_str, ewalk]
  unfold isIt
  by_cases h1 : 1 ≤ z.length
  · by_cases h2 : z.length ≤ 8
    · by_cases h3 : z.count 42 ≤ 1
      · have e1 : decide ((1 : Int) ≤ (z.length : Int)) = true := decide_eq_true (by omega)
        have e2 : decide ((z.length : Int) ≤ 8) = true := decide_eq_true (by omega)
        have e3 : decide ((1 : Int) < (z.count 42 : Int)) = false := decide_eq_false (by omega)
        simp only [e1, e2, e3, Bool.and_self, Bool.not_true, Bool.false_eq_true, if_false, decide_eq_true h1, decide_eq_true h2, decide_eq_true h3, Bool.true_and]
        rw [filter_chrs (fun c => !(decide (c = 42) || decide (c ∈ CH)))]
        have ef := filter_none (z := z) (p := fun c => decide (c = 42) || decide (c ∈ CH))
        show R.ok (D.bl (!(!(chrs (List.filter (fun c => !(decide (c = 42) || decide (c ∈ CH))) z)).isEmpty))) = _
        rw [chrs_empty, ef, Bool.not_not]
        rfl
      · have e1 : decide ((1 : Int) ≤ (z.length : Int)) = true := decide_eq_true (by omega)
        have e2 : decide ((z.length : Int) ≤ 8) = true := decide_eq_true (by omega)
        have e3 : decide ((1 : Int) < (z.count 42 : Int)) = true := decide_eq_true (by omega)
        simp only [e1, e2, e3, Bool.and_self, Bool.not_true, Bool.false_eq_true, if_false, if_true, decide_eq_false h3, Bool.and_false, Bool.false_and]
        rfl
    · have e1 : decide ((1 : Int) ≤ (z.length : Int)) = true := decide_eq_true (by omega)
      have e2 : decide ((z.length : Int) ≤ 8) = false := decide_eq_false (by omega)
      simp only [e1, e2, Bool.and_false, Bool.not_false, if_true, decide_eq_false h2, Bool.and_false, Bool.false_and]
      rfl
  · have e1 : decide ((1 : Int) ≤ (z.length : Int)) = false := decide_eq_false (by omega)
    simp only [e1, Bool.false_and, Bool.not_false, if_true, decide_eq_false h1, Bool.false_and]
    rfl
def gp : List Nat := [42, 42]
def gapIx : List (List Nat) → Nat → List D
  | [], _ => []
  | z :: r, k => if z = gp then .int (k : Int) :: gapIx r (k + 1) else gapIx r (k + 1)
def enumK (I : List (List Nat)) (k : Nat) : List D := match I with
  | [] => []
  | z :: r => .tup [.int (k : Int), .str z] :: enumK r (k + 1)
theorem enumK_eq : ∀ (I : List (List Nat)) (k : Nat), (I.map D.str).mapIdx (fun i d => D.tup [.int ((i + k : Nat) : Int), d]) = enumK I k
  | [], _ => rfl
  | z :: r, k => by
    rw [List.map_cons, List.mapIdx_cons]
    show _ :: _ = _ :: enumK r (k + 1)
    rw [← enumK_eq r (k + 1)]
    simp only [Nat.zero_add]
    congr 1
    congr 1
    funext i d
    rw [show i + 1 + k = i + (k + 1) by omega]
theorem enumL_strs (I : List (List Nat)) : enumL (I.map D.str) = enumK I 0 := by
  rw [← enumK_eq]
  rfl
def sndZ : D → Bool
  | .tup [_, .str z] => decide (z = gp)
  | _ => false
def fstZ : D → D
  | .tup [a, _] => a
  | d => d
def pairZ : D → D × D
  | .tup [a, b] => (a, b)
  | d => (d, d)
theorem enumK_mem : ∀ {I : List (List Nat)} {k : Nat} {d : D}, d ∈ enumK I k → ∃ (i : Int) (z : List Nat), d = .tup [.int i, .str z]
  | [], _, _, h => by cases h
  | z :: r, k, d, h => by
    have h' : d ∈ (D.tup [.int (k : Int), .str z] :: enumK r (k + 1)) := h
    rcases List.mem_cons.mp h' with rfl | h'
    · exact ⟨_, _, rfl⟩
    · exact enumK_mem h'
theorem enumK_filter : ∀ (I : List (List Nat)) (k : Nat), ((enumK I k).filter sndZ).map fstZ = gapIx I k
  | [], _ => rfl
  | z :: r, k => by
    show (List.filter sndZ (D.tup [.int (k : Int), .str z] :: enumK r (k + 1))).map fstZ = gapIx (z :: r) k
    have ih := enumK_filter r (k + 1)
    by_cases h : z = gp
    · have e : sndZ (D.tup [.int (k : Int), .str z]) = true := decide_eq_true h
      rw [List.filter_cons_of_pos e, List.map_cons, ih]
      show _ = (if z = gp then _ else _)
      rw [if_pos h]
      rfl
    · have e : ¬ sndZ (D.tup [.int (k : Int), .str z]) = true := by
        show ¬ decide (z = gp) = true
        simpa using h
      rw [List.filter_cons_of_neg e, ih]
      show _ = (if z = gp then _ else _)
      rw [if_neg h]
theorem gaps_ok (I : List (List Nat)) : (lcF un2 (fun (c8 : D × D) => (DL.ask ((eqD c8.2 c_GAP).bind bOf))) (fun (c8 : D × D) => (pure c8.1)) (enumK I 0) : R (List D)) = .ok (gapIx I 0) := by
  refine (lcR (u := un2) (xe := fun c8 : D × D => (pure c8.1 : R D)) (c := pairZ) (p := sndZ) (f := fstZ) (enumK I 0) (fun d m => ?_) (fun d m => ?_) (fun d m _ => ?_)).trans ?_
  · obtain ⟨i, z, rfl⟩ := enumK_mem m
    rfl
  · obtain ⟨i, z, rfl⟩ := enumK_mem m
    show (DL.ask ((eqD (.str z) (.str [42, 42])).bind bOf) : R Bool) = .ok (decide (z = gp))
    rw [eq_ss]
    rfl
  · obtain ⟨i, z, rfl⟩ := enumK_mem m
    rfl
  · rw [enumK_filter]
theorem gap_none : ∀ {I : List (List Nat)} {k : Nat}, gp ∉ I → gapIx I k = []
  | [], _, _ => rfl
  | z :: r, k, h => by
    show (if z = gp then _ else _) = _
    rw [if_neg fun e => h (by rw [e]; exact .head _)]
    exact gap_none fun m => h (.tail _ m)
theorem gap_one : ∀ {A B : List (List Nat)} {k : Nat}, gp ∉ A → gp ∉ B → gapIx (A ++ gp :: B) k = [.int ((k + A.length : Nat) : Int)]
  | [], B, k, _, hB => by
    show (if gp = gp then _ else _) = _
    rw [if_pos rfl, gap_none hB]
    rfl
  | z :: r, B, k, hA, hB => by
    show (if z = gp then D.int (k : Int) :: gapIx (r ++ gp :: B) (k + 1) else gapIx (r ++ gp :: B) (k + 1)) = _
    rw [if_neg fun e => hA (by rw [e]; exact .head _), gap_one (k := k + 1) (fun m => hA (.tail _ m)) hB, List.length_cons, show k + 1 + r.length = k + (r.length + 1) by omega]
theorem it_gap {z : List Nat} (h : isIt z = true) : z ≠ gp := by
  rintro rfl
  revert h
  decide
/-- the items that are no items -/
theorem bad_ok (I : List (List Nat)) (h : ∀ z ∈ I, z = gp ∨ isIt z = true) : (lcF (fun d => some d) (fun (c19 : D) => (DL.andM (DL.ask ((neD c19 c_GAP).bind bOf)) (DL.notM (do let x25 ← (Mo.lift (m_is_label_text_206f [c19])); DL.ask (truD x25))))) (fun (c19 : D) => (pure c19)) (I.map D.str) : R (List D)) = .ok [] := by
  refine (lcR (u := fun d => some d) (xe := fun c19 : D => (pure c19 : R D)) (c := fun d => d) (p := fun _ => false) (f := fun d => d) (I.map D.str) (fun _ _ => rfl) (fun d m => ?_) (fun _ _ q => by cases q)).trans ?_
  · obtain ⟨z, hz, rfl⟩ := List.mem_map.mp m
    have e1 : (neD (.str z) c_GAP).bind bOf = some (!decide (z = gp)) := by
      show (neD (.str z) (.str [42, 42])).bind bOf = _
      rw [ne_ss]
      rfl
    simp only [DL.andM, e1, askR, pure_bind, DL.notM, item_ok, lift_pR, okpR, tru_bl]
    rcases h z hz with rfl | hi
    · rfl
    · rw [hi, decide_eq_false (it_gap hi)]
      rfl
  · rw [show (I.map D.str).filter (fun _ => false) = [] from List.filter_eq_nil_iff.mpr fun _ _ => by simp]
    rfl
theorem cut_toD {z : List D} {n : Nat} : cutL z none (some (n : Int)) = z.take n := by rw [cut_hi (by omega)]; rfl
theorem cut_fromD {z : List D} {n : Nat} : cutL z (some ((n : Int) + 1)) none = z.drop (n + 1) := by
  have := cut_lo (z := z) (i := (n : Int) + 1) (by omega)
  rw [this]
  congr 1
def limD (a b c d : Nat) : D := .tup [.int (a : Int), .int (b : Int), .int (c : Int), .int (d : Int)]
theorem shape_plain {I : List (List Nat)} {l0 l1 mh mt : Nat} (h : ∀ z ∈ I, isIt z = true) (h0 : l0 ≤ I.length) (h1 : I.length ≤ l1) : m_shape_of_items_2081 [.lst (I.map .str), limD l0 l1 mh mt] = .ok (.tup [.tup (I.map .str), .tup [], .bl false]) := by
  have ng : gp ∉ I := fun m => it_gap (h _ m) rfl
  have e1 : enumOf [.lst (I.map D.str)] = some (enumK I 0) := congrArg some (enumL_strs I)
  have e2 : unN 4 (limD l0 l1 mh mt) = some [.int (l0 : Int), .int (l1 : Int), .int (mh : Int), .int (mt : Int)] := rfl
  have eg := gaps_ok I
  rw [gap_none ng] at eg
  have eb := bad_ok I fun z m => .inr (h z m)
  have l0' : lenD [.lst ([] : List D)] = some (.int 0) := rfl
  have g0 : (gtD (.int 0) (.int 1)).bind bOf = some false := rfl
  have hl : lenD [.lst (I.map D.str)] = some (.int (I.length : Int)) := by
    show some (D.int ((I.map D.str).length : Int)) = _
    rw [List.length_map]
  have t0 : truD (.lst ([] : List D)) = some false := rfl
  have s0 : szL [] = some [] := sz_ok (by simp)
  have ch : (chainM leD leD (pure (.int (l0 : Int))) (pure (.int (I.length : Int))) (pure (.int (l1 : Int))) : R D) = .ok (.bl true) := by
    unfold chainM
    simp only [le_l, askR, pure_bind, Option.bind_some, bOf_bl, decide_eq_true (show (l0 : Int) ≤ (I.length : Int) by omega), if_true, decide_eq_true (show (I.length : Int) ≤ (l1 : Int) by omega)]
    rfl
  unfold m_shape_of_items_2081 apR2
  simp only [e_shape_of_items_2081, e2, e1, askR, pure_bind, eg, okpR, l0', g0, DL.orM, Bool.false_eq_true, if_false, it_lst, eb, t0]
  simp only [askR, pure_bind, okpR, t0, Bool.false_eq_true, if_false, DL.notM, Bool.not_false, sqp, if_true, iteM, List.getD_cons_zero, List.getD_cons_succ, hl, ch, bOf_bl, tup_lst, s0, sz3]
  rfl
theorem shape_gap {A B : List (List Nat)} {l0 l1 mh mt : Nat} (hA : ∀ z ∈ A, isIt z = true) (hB : ∀ z ∈ B, isIt z = true) (h0 : A.length ≤ mh) (h1 : B.length ≤ mt) : m_shape_of_items_2081 [.lst ((A ++ gp :: B).map .str), limD l0 l1 mh mt] = .ok (.tup [.tup (A.map .str), .tup (B.map .str), .bl true]) := by
  have na : gp ∉ A := fun m => it_gap (hA _ m) rfl
  have nb : gp ∉ B := fun m => it_gap (hB _ m) rfl
  have e1 : enumOf [.lst ((A ++ gp :: B).map D.str)] = some (enumK (A ++ gp :: B) 0) := congrArg some (enumL_strs _)
  have e2 : unN 4 (limD l0 l1 mh mt) = some [.int (l0 : Int), .int (l1 : Int), .int (mh : Int), .int (mt : Int)] := rfl
  have eg := gaps_ok (A ++ gp :: B)
  rw [gap_one na nb, Nat.zero_add] at eg
  have eb := bad_ok (A ++ gp :: B) fun z m => by
    rcases List.mem_append.mp m with m | m
    · exact .inr (hA z m)
    · rcases List.mem_cons.mp m with m | m
      · exact .inl m
      · exact .inr (hB z m)
  have l1' : lenD [.lst [D.int (A.length : Int)]] = some (.int 1) := rfl
  have g0 : (gtD (.int 1) (.int 1)).bind bOf = some false := rfl
  have t0 : truD (.lst ([] : List D)) = some false := rfl
  have t1 : truD (.lst [D.int (A.length : Int)]) = some true := rfl
  have x0 : ixD (.lst [D.int (A.length : Int)]) (.int 0) = some (.int (A.length : Int)) := rfl
  have i0 : ∀ i : Int, intOf (.int i) = some i := fun _ => rfl
  have c1 : cutL ((A ++ gp :: B).map D.str) none (some (A.length : Int)) = A.map D.str := by
    rw [show (A ++ gp :: B).map D.str = A.map D.str ++ (gp :: B).map D.str by simp]
    have : cutL (A.map D.str ++ (gp :: B).map D.str) none (some (A.length : Int)) = (A.map D.str ++ (gp :: B).map D.str).take A.length := cut_toD
    rw [this, List.take_left' (by simp)]
  have c2 : cutL ((A ++ gp :: B).map D.str) (some ((A.length : Int) + 1)) none = B.map D.str := by
    have : cutL ((A ++ gp :: B).map D.str) (some ((A.length : Int) + 1)) none = ((A ++ gp :: B).map D.str).drop (A.length + 1) := cut_fromD
    rw [this, show (A ++ gp :: B).map D.str = (A.map D.str ++ [D.str gp]) ++ B.map D.str by simp, List.drop_left' (by simp)]
  have ll : ∀ xs : List D, lenD [.tup xs] = some (.int (xs.length : Int)) := fun _ => rfl
  have q1 : (leD (.int ((A.map D.str).length : Int)) (.int (mh : Int))).bind bOf = some true := by
    rw [le_l]
    show some (decide _) = _
    rw [decide_eq_true (by simpa using h0)]
  have q2 : (leD (.int ((B.map D.str).length : Int)) (.int (mt : Int))).bind bOf = some true := by
    rw [le_l]
    show some (decide _) = _
    rw [decide_eq_true (by simpa using h1)]
  unfold m_shape_of_items_2081 apR2
  simp only [e_shape_of_items_2081, e2, e1, askR, pure_bind, eg, okpR, l1', g0, DL.orM, Bool.false_eq_true, if_false, it_lst, eb, t0]
  simp only [askR, pure_bind, okpR, Bool.false_eq_true, if_false, t0, t1, DL.notM, Bool.not_true, sqp, x0, i0, add_ii, slice_l, c1, c2, tup_lst, ll, List.getD_cons_zero, List.getD_cons_succ, DL.andM, q1, q2, if_true, iteM, sz3]
  rfl
/-- items of a pattern: its head, its tail, whether a gap is between them -/
def PatI (l0 l1 mh mt : Nat) (I h t : List (List Nat)) (g : Bool) : Prop := (∀ z ∈ h ++ t, isIt z = true) ∧ ((g = false ∧ I = h ∧ t = [] ∧ l0 ≤ h.length ∧ h.length ≤ l1) ∨ (g = true ∧ I = h ++ gp :: t ∧ h.length ≤ mh ∧ t.length ≤ mt))
theorem pat_mem {l0 l1 mh mt : Nat} {I h t : List (List Nat)} {g : Bool} (p : PatI l0 l1 mh mt I h t g) : ∀ z ∈ I, z = gp ∨ isIt z = true := by
  obtain ⟨hz, ⟨rfl, rfl, rfl, h0, h1⟩ | ⟨rfl, rfl, h0, h1⟩⟩ := p
  · exact fun z m => .inr (hz z (by simpa using m))
  · intro z m
    rcases List.mem_append.mp m with m | m
    · exact .inr (hz z (List.mem_append_left _ m))
    · rcases List.mem_cons.mp m with m | m
      · exact .inl m
      · exact .inr (hz z (List.mem_append_right _ m))
theorem it_len {z : List Nat} (h : z = gp ∨ isIt z = true) : z.length ≤ 8 := by
  rcases h with rfl | h
  · decide
  · unfold isIt at h
    simp only [Bool.and_eq_true, decide_eq_true_eq] at h
    exact h.1.1.2
theorem join_len {s : Nat} : ∀ {I : List (List Nat)}, (∀ z ∈ I, z.length ≤ 8) → (joinN [s] I).length ≤ 9 * I.length
  | [], _ => Nat.zero_le _
  | [p], h => by
    show p.length ≤ 9 * 1
    have := h p (.head _)
    omega
  | p :: q :: r, h => by
    show (p ++ ([s] ++ joinN [s] (q :: r))).length ≤ _
    have ih := join_len (s := s) (I := q :: r) fun z m => h z (.tail _ m)
    have := h p (.head _)
    simp only [List.length_append, List.length_cons, List.length_nil] at ih ⊢
    omega
/-! ### rules of all pages: their ports -/
def PNs : List Str := ["text", "level", "head", "tail", "gap"]
def ptF (x : List Nat) (lv : D) (h t : List (List Nat)) (g : Bool) : List D := [.str x, lv, .tup (h.map .str), .tup (t.map .str), .bl g]
theorem pat_init {x lv : D} {h t : List (List Nat)} {g : Bool} : m_Pattern_init_4a0d [x, lv, .tup [.tup (h.map .str), .tup (t.map .str), .bl g]] = .ok [x, lv, .tup (h.map .str), .tup (t.map .str), .bl g] := rfl
/-- a rule's host part: its name, near, host -/
inductive NmK : List Nat → D → D → Prop
  | near {A : List (List Nat)} (h0 : A ≠ []) (hl : A.length ≤ 4) (hA : ∀ z ∈ A, isLab 20 z = true) : NmK (126 :: joinN [46] A) (.tup (A.map .str)) .non
  | host {I h t : List (List Nat)} {g : Bool} (p : PatI 1 4 3 2 I.reverse h t g) (h0 : I ≠ []) (hl : I.length ≤ 10) : NmK (joinN [46] I) .non (.ins "HostPattern" PNs (ptF (joinN [46] I) c_HOST h t g))
theorem nm_len {nm : List Nat} {n h : D} (k : NmK nm n h) : nm.length ≤ 1000 := by
  cases k with
  | near h0 hl hA =>
    have hr : okRow _ = true := row_of (by omega) hA
    have e : ∀ {A : List (List Nat)}, (∀ z ∈ A, z.length ≤ 20) → (joinN [46] A).length ≤ 21 * A.length := by
      intro A
      induction A with
      | nil => intro _; exact Nat.zero_le _
      | cons z r ih =>
        intro h
        cases r with
        | nil =>
          show z.length ≤ 21 * 1
          have := h z (.head _)
          omega
        | cons q r =>
          show (z ++ ([46] ++ joinN [46] (q :: r))).length ≤ _
          have := ih fun z m => h z (.tail _ m)
          have := h z (.head _)
          simp only [List.length_append, List.length_cons, List.length_nil] at *
          omega
    have := e fun z m => (lab_tx (hA z m)).1
    simp only [List.length_cons]
    have hl' := hl
    omega
  | host p h0 hl =>
    have := join_len (s := 46) fun z m => it_len (pat_mem p z (by simpa using m))
    omega
theorem all2_P {P : List Nat → Prop} : ∀ {ds rs : List D}, All2 (fun _ r => ∃ z, r = D.str z ∧ P z) ds rs → ∃ A : List (List Nat), rs = A.map .str ∧ A.length = ds.length ∧ ∀ z ∈ A, P z
  | [], [], _ => ⟨[], rfl, rfl, by simp⟩
  | [], _ :: _, h => by cases h
  | _ :: _, [], h => by cases h
  | d :: ds, r :: rs, h => by
    cases h with
    | cons h1 h2 =>
      obtain ⟨z, rfl, hz⟩ := h1
      obtain ⟨A, rfl, hl, hA⟩ := all2_P h2
      exact ⟨z :: A, rfl, by simp [hl], fun x m => by
        rcases List.mem_cons.mp m with rfl | m
        · exact hz
        · exact hA x m⟩
/-- what is drawn of hosts -/
inductive HpD : D → List Nat → D → D → Prop
  | near {A : List (List Nat)} (h0 : A ≠ []) (hl : A.length ≤ 4) (hA : ∀ z ∈ A, isLab 20 z = true) : HpD (.tup [.str [126], .tup (A.map .str)]) (126 :: joinN [46] A) (.tup (A.map .str)) .non
  | host {I h t : List (List Nat)} {g : Bool} (p : PatI 1 4 3 2 I.reverse h t g) (h0 : I ≠ []) (hl : I.length ≤ 10) : HpD (.tup [.str [], .lst (I.map .str)]) (joinN [46] I) .non (.ins "HostPattern" PNs (ptF (joinN [46] I) c_HOST h t g))
theorem HpD.nm {d : D} {nm : List Nat} {n h : D} (k : HpD d nm n h) : NmK nm n h := by
  cases k with
  | near h0 hl hA => exact .near h0 hl hA
  | host p h0 hl => exact .host p h0 hl
theorem sum_le8 {I : List (List Nat)} {k : Nat} (h : ∀ z ∈ I, z.length ≤ k) (hl : I.length ≤ 1000) (hk : k ≤ 100) : (I.map (·.length)).sum + I.length * 1 ≤ 16777216 := by
  have := sum_le h
  have : I.length * k ≤ 1000 * 100 := Nat.mul_le_mul hl hk
  omega
theorem HpD.join {d : D} {nm : List Nat} {n h : D} (k : HpD d nm n h) : ∃ p x r j, d = .tup [.str p, x] ∧ listD [x] = some r ∧ szL r = some r ∧ joinD (.str [46]) (.lst r) = some (.str j) ∧ nm = p ++ j ∧ p.length ≤ 1 ∧ j.length ≤ 1000 := by
  have hn := nm_len k.nm
  cases k with
  | @near A h0 hl hA =>
    refine ⟨[126], .tup (A.map .str), A.map .str, joinN [46] A, rfl, rfl, sz_ok (by rw [List.length_map]; omega), join_ok (sum_le8 (k := 20) (fun z m => (isLab_iff.mp (hA z m)).2.1) (by omega) (by omega)), rfl, by simp, ?_⟩
    simp only [List.length_cons] at hn
    omega
  | @host I h t g p h0 hl =>
    exact ⟨[], .lst (I.map .str), I.map .str, joinN [46] I, rfl, rfl, sz_ok (by rw [List.length_map]; omega), join_ok (sum_le8 (k := 8) (fun z m => it_len (pat_mem p z (by simpa using m))) (by omega) (by omega)), rfl, by simp, hn⟩
end FN
/-! ### own list += list; methods called with keywords; isinstance of two types -/
namespace DL
open PySem PySem.Spec PyProof.Rows L2
section
variable {X : Cx} {fx : Fx} {m : Type → Type} [Mo m] {G : List Sl} {α β : Type} {ss : List Stmt} {ex : α → List Sl} {exb : β → List Sl}
/-- a block whose mirror has a name -/
theorem pss_k {k k' : m (Fl α β)} (e : k = k') (h : PSs X ss (tS X.K X.mg fx G ex exb k')) : PSs X ss (tS X.K X.mg fx G ex exb k) := by
  rw [e]
  exact h
end
end DL
/-! ### enumerate of a tuple -/
namespace DL
open PySem PySem.Spec PyProof.Rows L2
end DL
/-! ### rules and rows: mirrors, what fits (k40, k42, k43) -/
namespace FN
open DL PySem PySem.W
/-! ### labels and rows that patterns match -/
theorem beq_eq (a b : List Nat) : (a == b) = decide (a = b) := by
  rw [Bool.eq_iff_iff]
  simp
theorem starts_eq (a b : List Nat) : PySem.Txt.startswith ⟨a.toArray⟩ ⟨b.toArray⟩ = (decide (b.length ≤ a.length) && decide (a.take b.length = b)) := by
  unfold PySem.Txt.startswith
  rw [StrLaws.subAt_eq]
  simp [Str.length]
  rw [beq_eq]
theorem strs_map : ∀ A : List (List Nat), strsOf (A.map D.str) = some A
  | [] => rfl
  | z :: r => by
    show (strsOf (r.map D.str)).map (z :: ·) = _
    rw [strs_map r]
    rfl
/-! ### hosts, backwards -/
end FN
/-! ### tables and groups: mirrors (k40, k42) -/
namespace FN
open DL PySem PySem.W
end FN
/-! ### tables: what the site of a host is -/
namespace FN
open DL PySem PySem.W
/-! rows -/
/-! the size of an ending -/
end FN
/-! ### groups: where a host is moved; tables and groups made -/
namespace FN
open DL PySem PySem.W
abbrev Hst := List (List Nat)
def hD (h : Hst) : D := .tup (h.map .str)
/-! tables made -/
/-! groups made -/
end FN
/-! ### which rule matches which page, with a table and groups -/
namespace FN
open DL PySem PySem.W
end FN
/-! ### == and != of rows of own objects -/
namespace DL
open PySem PySem.Spec PyProof.Rows L2 PySem.SeqAt PySem.MeetsSeq PySem.MeetsSeq2 PySem.MeetsSeq3 PySem.SeqRoads2
section
variable {prog : Program} {w : World} {A : Around} {R : Result → Shared → Prop}
/-- the pairs are compared, one by one, while J stays -/
inductive Eqs (prog : Program) (w : World) (A : Around) (J : Shared → Prop) : List (Value × Value) → List Bool → Prop where
  | nil : Eqs prog w A J [] []
  | cons {y x : Value} {r : Bool} {l : List (Value × Value)} {rs : List Bool} (h : ∀ (t : Shared) (E : Value → Shared → Prop) (Q : Bool → Shared → Prop), J t → (∀ t', J t' → Q r t') → wpAny (model prog w) A.in1 (eqBool y x) Q E t)
    (tl : Eqs prog w A J l rs) : Eqs prog w A J ((y, x) :: l) (r :: rs)
theorem Eqs.get {J : Shared → Prop} : ∀ {l : List (Value × Value)} {rs : List Bool} {i : Nat} {y x : Value}, Eqs prog w A J l rs → l[i]? = some (y, x) →
    ∃ r, rs[i]? = some r ∧ ∀ (t : Shared) (E : Value → Shared → Prop) (Q : Bool → Shared → Prop), J t → (∀ t', J t' → Q r t') → wpAny (model prog w) A.in1 (eqBool y x) Q E t
  | _, _, _, _, _, .nil, e => by simp at e
  | _, _, 0, _, _, .cons h _, e => by
    simp at e
    obtain ⟨rfl, rfl⟩ := e
    exact ⟨_, rfl, h⟩
  | _, _, i + 1, _, _, .cons _ tl, e => by
    obtain ⟨r, h1, h2⟩ := tl.get (i := i) (by simpa using e)
    exact ⟨r, by simpa using h1, h2⟩
end
end DL
/-! ### == and != of rows of own objects: the mirrors and their rules -/
namespace DL
open PySem PySem.Spec PyProof.Rows L2
end DL
/-! ### __init__ with a star and keyword-only parameters -/
namespace DL
open PySem PySem.Spec PyProof.Rows L2 StX
section
variable {K : PySem.W.Frag} {mg : Str → Option Value}
/-- the defaults are looked up in the def's own namespace of them -/
def KwRun {α : Type} (D : Addr) : List (Str × Value) → Sem α → Sem α → Prop
  | [], t, r => t = r
  | q :: l, t, r => ∃ (β γ : Type) (k1 : Option Value → Sem β) (k2 : β → Sem γ) (k3 : γ → Sem α) (a : β), t = ((nsGet D q.1 >>= k1) >>= k2) >>= k3 ∧ k1 (some q.2) = pure a ∧ KwRun D l (k2 a >>= k3) r
theorem KwRun.run {α : Type} {M : Model} {A : Around} {D : Addr} {Q : α → Shared → Prop} {E : Value → Shared → Prop} {s : Shared} (X : K.In s.heap) : ∀ {l : List (Str × Value)} {t r : Sem α}, (∀ q ∈ l, PySem.W.nsIn K D q.1 = some (some q.2)) → KwRun D l t r → wpAny M A r Q E s → wpAny M A t Q E s
  | [], _, _, _, e, h => by rw [show _ = _ from e]; exact h
  | q :: l, t, r, hl, e, h => by
    obtain ⟨β, γ, k1, k2, k3, a, rfl, e2, e3⟩ := e
    have flat : ((nsGet D q.1 >>= k1) >>= k2) >>= k3 = nsGet D q.1 >>= fun o => k1 o >>= fun b => k2 b >>= k3 := by simp only [bind_assoc]
    rw [flat]
    refine wpAny_bind ((PySem.W.looks_nsIn X (hl q (.head _))).at ?_)
    rw [e2, pure_bind]
    exact KwRun.run X (fun q hq => hl q (.tail _ hq)) e3 h
end
end DL
/-! ### the head by one run in the kernel: a Hook that tells Bools of a part of the heap, and the defs' texts -/
namespace DL
open PySem PySem.Spec PyProof.Rows L2
/-! a function object, looked at -/
abbrev FnV : Type := Option (Str × Str × Arguments × FuncBody × Scope × Addr × List Str × Addr)
def fnV (K : PySem.W.Frag) (a : Addr) : FnV := match K.lookup a with
  | some ⟨_, _, .func fd, _⟩ => some (fd.name, fd.qualname, fd.params, fd.body, fd.scope, fd.globals, fd.closure.map (·.1), fd.builtins)
  | _ => none
abbrev fnT (x qual : Str) (st : Stmt) (cl : List Str) : FnV := some (x, qual, defArgs st, .stmts (defBody st), defScope st, mainGlobals, cl, builtinsNs)
def isNoneV : Value → Bool
  | .none => true
  | _ => false
theorem isNoneV_ok {v : Value} (h : isNoneV v = true) : v = .none := by cases v <;> first | rfl | cases h
/-- no defaults; its code has this name -/
def codB (K : PySem.W.Frag) (a : Addr) (q : Str) : Bool := match K.lookup a with
  | some ⟨_, _, .func fd, _⟩ => PySem.W.codeIn K fd.code q && isNoneV fd.defaults
  | _ => false
section
variable {K : PySem.W.Frag}
theorem fun_of {a : Addr} {x qual : Str} {pa : Arguments} {bo : List Stmt} {sc : Scope} (e : fnV K a = some (x, qual, pa, .stmts bo, sc, mainGlobals, [], builtinsNs)) (c : codB K a qual = true) : ∃ oc od kV doc pm an cd ct sl,
    K.lookup a = some ⟨oc, od, .func (PySem.W.fnOf x qual pa bo sc .none kV doc pm an cd ct), sl⟩ ∧ PySem.W.codeIn K cd qual = true := by
  unfold fnV at e
  unfold codB at c
  cases q : K.lookup a with
  | none => rw [q] at c; cases c
  | some o =>
    obtain ⟨oc, od, dt, osl⟩ := o
    rw [q] at c e
    cases dt with
    | func fd =>
      obtain ⟨n1, n2, n3, n4, n5, n6, n7, n8, n9, n10, n11, n12, n13, n14, n15⟩ := fd
      have e2 : (some (n1, n2, n3, n4, n5, n6, n7.map (·.1), n15) : FnV) = some (x, qual, pa, .stmts bo, sc, mainGlobals, [], builtinsNs) := e
      simp only [Option.some.injEq, Prod.mk.injEq, List.map_eq_nil_iff] at e2
      obtain ⟨h1, h2, h3, h4, h5, h6, h7, h8⟩ := e2
      subst h1 h2 h3 h4 h5 h6 h7 h8
      have c2 : (PySem.W.codeIn K n13 n2 && isNoneV n8) = true := c
      rw [Bool.and_eq_true] at c2
      have h9 := isNoneV_ok c2.2
      subst h9
      exact ⟨oc, od, n9, n10, n11, n12, n13, n14, osl, rfl, c2.1⟩
    | _ => cases c
/-- the cell __class__ of a def that says super() -/
def ccA (K : PySem.W.Frag) (a : Addr) : Addr := match K.lookup a with
  | some ⟨_, _, .func fd, _⟩ => (match fd.closure with
    | [q] => q.2
    | _ => 0)
  | _ => 0
def supB (K : PySem.W.Frag) (a C : Addr) (file : Str) : Bool := match K.lookup a with
  | some ⟨_, _, .func fd, _⟩ => (match fd.code with
    | .ref c => (match K.lookup c with
      | some ⟨_, _, .fields vs, _⟩ => (match (vs[2]? : Option Value) with
        | some (.str f _) => file == f
        | _ => false)
      | _ => false)
    | _ => false) && (match K.lookup (ccA K a) with
    | some ⟨_, _, .cell (some (.ref D)), _⟩ => D == C
    | _ => false)
  | _ => false
theorem funX_of {a C : Addr} {x qual file : Str} {st : Stmt} (e : fnV K a = fnT x qual st ["__class__"]) (c : codB K a qual = true) (s : supB K a C file = true) : ∃ (oc : Value) (od : Option Addr) (kV doc pm : Value) (an : Option Addr) (cda : Addr) (ct : Value) (sl : Array (Option Value)) (cc : Addr) (ccl : Value) (cdd : Option Addr) (vs : Array Value) (ccs : Array (Option Value)) (f : Str) (tf : Tok) (cl : Value) (cld : Option Addr) (csl : Array (Option Value)),
    K.lookup a = some ⟨oc, od, .func (PySem.W.fnX x qual (defArgs st) (defBody st) (defScope st) [("__class__", cc)] .none kV doc pm an (.ref cda) ct), sl⟩ ∧ PySem.W.codeIn K (.ref cda) qual = true ∧
    K.lookup cda = some ⟨ccl, cdd, .fields vs, ccs⟩ ∧ vs[2]? = some (.str f tf) ∧ (file == f) = true ∧ K.lookup cc = some ⟨cl, cld, .cell (some (.ref C)), csl⟩ := by
  unfold fnV at e
  unfold codB at c
  unfold supB at s
  cases q : K.lookup a with
  | none => rw [q] at c; cases c
  | some o =>
    obtain ⟨oc, od, dt, osl⟩ := o
    rw [q] at c e s
    cases dt with
    | func fd =>
      obtain ⟨n1, n2, n3, n4, n5, n6, n7, n8, n9, n10, n11, n12, n13, n14, n15⟩ := fd
      have e2 : (some (n1, n2, n3, n4, n5, n6, n7.map (·.1), n15) : FnV) = fnT x qual st ["__class__"] := e
      simp only [Option.some.injEq, Prod.mk.injEq] at e2
      obtain ⟨h1, h2, h3, h4, h5, h6, h7, h8⟩ := e2
      subst h1 h2 h3 h4 h5 h6 h8
      have c2 : (PySem.W.codeIn K n13 n2 && isNoneV n8) = true := c
      rw [Bool.and_eq_true] at c2
      have h9 := isNoneV_ok c2.2
      subst h9
      match n7, h7 with
      | [], h => exact absurd (congrArg List.length h) (by simp)
      | _ :: _ :: _, h => exact absurd (congrArg List.length h) (by simp)
      | [(nm, cc)], h =>
        have en : nm = "__class__" := (List.cons.inj h).1
        subst en
        have ea : ccA K a = cc := by
          unfold ccA
          rw [q]
        have s2 := s
        rw [ea] at s2
        rw [Bool.and_eq_true] at s2
        obtain ⟨s3, s4⟩ := s2
        cases n13 with
        | ref cda =>
          have s3' : (match K.lookup cda with
            | some ⟨_, _, .fields vs, _⟩ => (match (vs[2]? : Option Value) with
              | some (.str f _) => file == f
              | _ => false)
            | _ => false) = true := s3
          cases qc : K.lookup cda with
          | none => rw [qc] at s3'; cases s3'
          | some oc2 =>
            obtain ⟨ccl, cdd, dt2, ccs⟩ := oc2
            rw [qc] at s3'
            cases dt2 with
            | fields vs =>
              have s5 : (match (vs[2]? : Option Value) with
                | some (.str f _) => file == f
                | _ => false) = true := s3'
              cases qv : vs[2]? with
              | none => rw [qv] at s5; cases s5
              | some v =>
                rw [qv] at s5
                cases v with
                | str f tf =>
                  cases qk : K.lookup cc with
                  | none => rw [qk] at s4; cases s4
                  | some o3 =>
                    obtain ⟨cl, cld, dt3, csl⟩ := o3
                    rw [qk] at s4
                    cases dt3 with
                    | cell v3 =>
                      cases v3 with
                      | none => cases s4
                      | some v3 =>
                        cases v3 with
                        | ref D =>
                          have eD : D = C := beq_iff_eq.mp s4
                          subst eD
                          exact ⟨oc, od, n9, n10, n11, n12, cda, n14, osl, cc, ccl, cdd, vs, ccs, f, tf, cl, cld, csl, rfl, c2.1, qc, qv, s5, qk⟩
                        | _ => cases s4
                    | _ => cases s4
                | _ => cases s5
            | _ => cases s3'
        | _ => cases s3
    | _ => cases c
/-! own error classes -/
def xcB (K : PySem.W.Frag) (C : Addr) (b : PySem.OwnX.XB) : Bool := match K.lookup C with
  | some ⟨.type "type", _, .cls cd, sl⟩ => (match cd.mro, sl.toList with
    | .ref C' :: bm, [_, _, _, _, some (.builtin n), _] => (C' == C && n == b.nw) && (!cd.hasDel && (cd.hasDict && PySem.OwnX.overB b bm))
    | _, _ => false)
  | _ => false
theorem xc_of {C : Addr} {b : PySem.OwnX.XB} (h : xcB K C b = true) : ∃ (b : PySem.OwnX.XB) (nm q : Str) (N : Addr) (bs bm : List Value) (sn : List Str) (sub : List Value) (ab : Bool) (col : Option Bool) (dd : Option Addr) (k0 k1 k2 k3 k5 : Option Value),
    K.lookup C = some (excClassObj nm q C N bs bm true sn sub ab col dd k0 k1 k2 k3 k5 b.nw) ∧ PySem.OwnX.overB b bm = true := by
  unfold xcB at h
  split at h
  · rename_i dd cd sl ho
    split at h
    · rename_i C' bm k0 k1 k2 k3 n k5 hm hs
      simp only [Bool.and_eq_true, Bool.not_eq_true', beq_iff_eq] at h
      obtain ⟨⟨rfl, rfl⟩, hd, hh, hb⟩ := h
      obtain ⟨a1, a2, a3, a4, a5, a6, a7, a8, a9, a10, a11⟩ := cd
      simp only at hm hd hh
      subst hm hd hh
      have es : sl = #[k0, k1, k2, k3, some (.builtin b.nw), k5] := by
        have := congrArg List.toArray hs
        simpa using this
      subst es
      exact ⟨b, _, _, _, _, bm, _, _, _, _, dd, k0, k1, k2, k3, k5, ho, hb⟩
    · cases h
  · cases h
def kwN (K : PySem.W.Frag) (a : Addr) : Bool := match K.lookup a with
  | some ⟨_, _, .func fd, _⟩ => isNoneV fd.kwdefaults
  | _ => false
/-- a def without any defaults -/
theorem funN_of {a : Addr} {x qual : Str} {pa : Arguments} {bo : List Stmt} {sc : Scope} (e : fnV K a = some (x, qual, pa, .stmts bo, sc, mainGlobals, [], builtinsNs)) (c : codB K a qual = true) (n : kwN K a = true) : ∃ oc od doc pm an cd ct sl,
    K.lookup a = some ⟨oc, od, .func (PySem.W.fnOf x qual pa bo sc .none .none doc pm an cd ct), sl⟩ ∧ PySem.W.codeIn K cd qual = true := by
  obtain ⟨oc, od, kV, doc, pm, an, cd, ct, sl, l, q⟩ := fun_of e c
  have e1 : kV = .none := by
    unfold kwN at n
    rw [l] at n
    exact isNoneV_ok n
  subst e1
  exact ⟨oc, od, doc, pm, an, cd, ct, sl, l, q⟩
/-- a tuple of texts and ints -/
def tupVB (K : PySem.W.Frag) (a : Addr) (vs : List V) : Bool := match K.lookup a with
  | some ⟨.type "tuple", _, .seq its _, _⟩ => He.relAll vs its.toList
  | _ => false
theorem tupVB_is {mg : Str → Option Value} {a : Addr} {ds : List D} {vs : List V} (h : tupVB K a vs = true) (hs : IsL K mg (fun _ => none) ds vs) (hz : ds.length ≤ 1000) : Is K mg (fun _ => none) (.tup ds) (.ref a) := by
  unfold tupVB at h
  split at h
  · rename_i dd its n sl ho
    exact is_tupK (its := its.toList) (by rw [ho, Array.toArray_toList]) hs (He.relAll_ok h) hz
  · cases h
/-! descriptors -/
def strB (o : Option (Option Value)) (z : Str) : Bool := match o with
  | some (some (.str y _)) => decide (y = z)
  | _ => false
theorem strB_ok {o : Option (Option Value)} {z : Str} (h : strB o z = true) : ∃ t, o = some (some (.str z t)) := by
  unfold strB at h
  split at h
  · exact ⟨_, by rw [of_decide_eq_true h]⟩
  · cases h
def intB (o : Option (Option Value)) (z : Int) : Bool := match o with
  | some (some (.int y _)) => decide (y = z)
  | _ => false
theorem intB_ok {o : Option (Option Value)} {z : Int} (h : intB o z = true) : ∃ t, o = some (some (.int z t)) := by
  unfold intB at h
  split at h
  · exact ⟨_, by rw [of_decide_eq_true h]⟩
  · cases h
end
/-! ### the Hook -/
def isClsO (o : Obj) : Bool := match o.data with
  | .cls _ => true
  | _ => false
def refsF (o : Obj) : List Addr := match o.data with
  | .func fd => He.refV fd.code ++ (He.refV fd.kwdefaults ++ fd.closure.map (·.2))
  | .cls cd => cd.ns :: cd.mro.tail.flatMap He.refV
  | .dict es _ => es.toList.flatMap fun e => He.refV e.val
  | .fields vs => (match o.cls with
    | .type "code" => []
    | _ => vs.toList.flatMap He.refV)
  | _ => []
def nxF (g : Addr → Option Obj) (as : List Addr) : List Addr := as.flatMap fun a => match g a with
  | some o => refsF o
  | none => []
def clF (g : Addr → Option Obj) (b : Bool) (as : List Addr) : List Addr := as.filter fun a => match g a with
  | some o => isClsO o == b
  | none => false
/-- a list with its numbers worked out -/
def frA {α : Type} : List Addr → (List Addr → α) → α
  | [], k => k []
  | a :: r, k => HandSHeadRun.frNat a fun a => frA r fun r => k (a :: r)
theorem frA_eq {α : Type} : ∀ (as : List Addr) (k : List Addr → α), frA as k = k as
  | [], _ => rfl
  | a :: r, k => by
    show HandSHeadRun.frNat a (fun a => frA r fun r => k (a :: r)) = _
    rw [HandSHeadRun.frNat_eq, frA_eq r]
def frK {α : Type} (g : Addr → Option Obj) : List Addr → (PySem.W.Frag → α) → α
  | [], k => k []
  | a :: r, k => HandSHeadRun.frNat a fun a => match g a with
    | some o => frK g r fun K => k ((a, o) :: K)
    | none => frK g r k
theorem frK_eq {α : Type} (g : Addr → Option Obj) : ∀ (as : List Addr) (k : PySem.W.Frag → α), frK g as k = k (He.frG g as)
  | [], _ => rfl
  | a :: r, k => by
    show HandSHeadRun.frNat a (fun a => match g a with
      | some o => frK g r fun K => k ((a, o) :: K)
      | none => frK g r k) = _
    rw [HandSHeadRun.frNat_eq]
    unfold He.frG
    rw [List.filterMap_cons]
    cases h : g a with
    | none => exact frK_eq g r k
    | some o => exact frK_eq g r fun K => k ((a, o) :: K)
/-- what the module's names reach: classes and what is theirs first -/
def asF {α : Type} (g : Addr → Option Obj) (k : List Addr → α) : α :=
  frA (nxF g [mainGlobals]) fun l1 => frA (clF g true l1) fun lc => frA (clF g false l1) fun lf => frA (nxF g lc) fun ln => frA (nxF g ln) fun lm => frA (nxF g lm) fun lx => frA (nxF g lf) fun lk => frA (nxF g lx) fun ly =>
    k (mainGlobals :: cStatics :: (lc ++ (ln ++ (lm ++ (lf ++ (lx ++ (lk ++ ly)))))))
def asL (g : Addr → Option Obj) : List Addr := asF g fun as => as
theorem asF_eq {α : Type} (g : Addr → Option Obj) (k : List Addr → α) : asF g k = k (asL g) := by
  unfold asL asF
  simp only [frA_eq]
/-- a look at the part of the heap -/
def obF {β : Type} (f : PySem.W.Frag → β) (g : Addr → Option Obj) : β := asF g fun as => frK g as f
theorem obF_eq {β : Type} (f : PySem.W.Frag → β) (g : Addr → Option Obj) : obF f g = f (He.frG g (asL g)) := by
  unfold obF
  rw [asF_eq, frK_eq]
abbrev AlH : Type := Bool × List FnV
def hookH (ex : PySem.W.Frag → Bool) (fs : PySem.W.Frag → List FnV) (vs : List FnV) : PySem.W.Hook where
  α := AlH
  obs := fun s => (ex (He.frG s.heap.get? (asL s.heap.get?)), fs (He.frG s.heap.get? (asL s.heap.get?)))
  val := fun _ => (true, vs)
  says := fun _ h => ∃ K : PySem.W.Frag, K.In h ∧ ex K = true ∧ fs K = vs
  of := fun _ _ e => ⟨_, He.frG_in, congrArg (fun z : AlH => z.1) e, congrArg (fun z : AlH => z.2) e⟩
  keeps := fun _ _ _ ⟨K, hK, c⟩ k => ⟨K, PySem.W.Frag.In.keeps hK k, c⟩
def obH (ex : PySem.W.Frag → Bool) (fs : PySem.W.Frag → List FnV) (s : PySem.W.SharedT) : AlH := (obF ex (HandSHeadRun.getT s), obF fs (HandSHeadRun.getT s))
theorem obH_eq {ex : PySem.W.Frag → Bool} {fs : PySem.W.Frag → List FnV} {vs : List FnV} (s : PySem.W.SharedT) : obH ex fs s = (hookH ex fs vs).obs s.abs := by
  have e : HandSHeadRun.getT s = s.abs.heap.get? := funext (HandSHeadRun.getT_eq s)
  unfold obH
  rw [obF_eq, obF_eq, e]
  rfl
/-! the run's equation, in parts -/
open HandSHeadRun in
def PartEq (r : PySem.W.OpenRow) (M : Nat) (w : World) {β : Type} (f : PySem.W.SharedT → β) (v : β) : Prop := ∀ os : OsState, (endF (stepQ (denQ tabQ) r.prog w) M r.prog w os).map f = some v
section
variable {r : PySem.W.OpenRow} {M : Nat} {w : World}
theorem PartEq.pair {β γ : Type} {f : PySem.W.SharedT → β} {g : PySem.W.SharedT → γ} {v : β} {u : γ} (a : PartEq r M w f v) (b : PartEq r M w g u) : PartEq r M w (fun s => (f s, g s)) (v, u) := fun os => by
  have h1 := a os
  have h2 := b os
  cases e : HandSHeadRun.endF (HandSHeadRun.stepQ (HandSHeadRun.denQ HandSHeadRun.tabQ) r.prog w) M r.prog w os with
  | none => rw [e] at h1; cases h1
  | some s =>
    rw [e] at h1 h2
    have e1 := Option.some.inj h1
    have e2 := Option.some.inj h2
    show some (f s, g s) = some (v, u)
    rw [e1, e2]
open PySem.W PySem.Calls PyProof.Rows in
theorem PartEq.run {q : Program} {loose : List PySem.Str} {ex : PySem.W.Frag → Bool} {fs : PySem.W.Frag → List FnV} {vs : List FnV}
    (a : PartEq r M w (fun s => (HandSHeadRun.looksF r.prog (boot_heap w.params) s.abs, HandSHeadRun.seenQ q loose (importedModules r.prog.main.body) (fun s => xlAt q [] s && recOk r.toRowW.records s) s.abs)) (true, openGood q loose))
    (b : PartEq r M w (fun s => obF ex (HandSHeadRun.getT s)) true) (c : PartEq r M w (fun s => obF fs (HandSHeadRun.getT s)) vs) : HandSHeadRun.RunEq r q (hookH ex fs vs) (obH ex fs) M loose w := fun os => by
  have h := (a.pair (b.pair c)) os
  cases e : HandSHeadRun.endF (HandSHeadRun.stepQ (HandSHeadRun.denQ HandSHeadRun.tabQ) r.prog w) M r.prog w os with
  | none => rw [e] at h; cases h
  | some s =>
    rw [e] at h
    have h1 := Option.some.inj h
    simp only [Prod.mk.injEq] at h1
    obtain ⟨⟨a1, a2⟩, b1, c1⟩ := h1
    exact congrArg some (Prod.ext a1 (Prod.ext a2 (Prod.ext b1 c1)))
end
/-- the end, where the head tells some part of the heap -/
theorem walk_gE {l : PySem.W.OpenLaw} {n k : Nat} {q : Program} {loose : List Str} {XP : (Str → Option Value) → Heap → Prop} {YP : World → Heap → Prop} {d : DefRec} {x : Str} {g : List D → R D}
    (hn : l.most = some n) (hn2 : n ≤ sizeLine) (hdf : d.params.defaults = []) (hr : Room k callerA)
    (F : ∀ (w : World) (mg : Str → Option Value) (fa : Addr) (h : Heap), YP w h → h.Ns mainGlobals mg → mg d.name = some (.ref fa) →
      ∃ (K : PySem.W.Frag) (fd : FuncData), K.In h ∧ (∀ (s : Shared) (u : Value), BindsTo s fd ⟨[u], []⟩ [(x, u)]) ∧ ∀ base : Heap, K.In base → base.Ns mainGlobals mg → FnG l.prog w K mg base k fa fd [x] (spR K mg false 1 g))
    (hg : ∀ ns : List Int, ns.length ≤ n → g [.scr ns] = .ok (.bl true)) :
    PySem.W.WalkO q loose XP YP l.row.toRowW d [] (fun f vs => PySem.call f vs) := by
  refine Att.attach_call hn hdf fun w s0 s1 mg mb fa o pm cd doc a vs ns G Y ho hd hcd hmg hobj hints hlen hgn => ?_
  obtain ⟨K, fd, KX, hb, hF⟩ := F w mg fa _ Y G.T.g hmg
  exact law_callG KX G.T.g G.T.b G.T.builtins G.T.nolimit hgn hobj hints (Nat.le_trans hlen hn2) hr hF hb (hg ns hlen)
end DL
/-! ### two fresh lists unpacked into names (where a comprehension captures one of them) -/
namespace DL
open PySem L2
end DL
/-! ### rules drawn and made (the laws of books) -/
namespace FN
open DL PySem PySem.W
end FN
/-! ### isinstance of the caught error: own classes, tuples of them -/
namespace DL
open PySem PySem.Spec PyProof.Rows L2
section
variable {X : Cx} {m : Type → Type} [Mo m] {fx : Fx} {G : List Sl} {C a dd : Addr} {f : Str} {oe : Obj} {pn : List (Addr × Obj)} {d : D} {n c1 c2 c3 : Str} {C1 C2 C3 : Addr} {b b1 b2 b3 : Bool} {p p1 p2 p3 p4 pt pos : Pos} {k : Nat}
theorem de_isiXO (E : ExcC X.K C) (hz : Zc (.ref C) (some dd) oe) (hf : ∃ vs, oe.data = .fields vs) (i : Nat) (hk : PySem.W.kitOne X.K (.ref C) (.ref C1) = some b)
    (hm1 : X.mg c1 = some (.ref C1)) (hg : Gl X "isinstance") (hm : X.mg "isinstance" = none) (hg1 : Gl X c1) (hG : G[i]? = some (.im (.xc a dd f d)) := by rfl)
    (hN : X.N[i]? = some n := by rfl) (hv : Vis X.env.scope n := by first | exact Or.inl rfl | exact Or.inr (Or.inl rfl) | exact Or.inr (Or.inr rfl)) (hd : (n == ("__debug__" : Str)) = false := by decide) (hcd : (n == ("__classdict__" : Str)) = false := by decide)
    (hdb : (c1 == ("__debug__" : Str)) = false := by decide)
    (hs : starEach [.Name n p1, .Name c1 p2] X.env = (false, eval (.Name n p1) X.env) :: starEach [.Name c1 p2] X.env := by rfl) (hs2 : starEach [.Name c1 p2] X.env = (false, eval (.Name c1 p2) X.env) :: starEach [] X.env := by rfl) (hpl : (backTo pos (starEach [.Name c1 p2] X.env)).any (·.1) = false := by rfl) :
    PE (X.suite a ((a, oe) :: pn)) (.Call (.Name "isinstance" p) [.Name n p1, .Name c1 p2] [] pos) (tE (X.suite a ((a, oe) :: pn)).K (X.suite a ((a, oe) :: pn)).mg fx G (pure (.bl b) : m D)) :=
  peI (pe_callB (X := X.suite a ((a, oe) :: pn)) (call_isX (f := f) E hz hf) hg hm rfl (pa_cons (pe_var (X := X.suite a ((a, oe) :: pn)) hN hv hd hcd) (pa_cons (pe_own (X := X.suite a ((a, oe) :: pn)) hm1 hg1 hdb) pa_nil hs2) hs) (by decide) (by decide) hs hpl) fun σ H Q ⟨Hf, s, h⟩ => by
    obtain ⟨v, ev, e, u, hu, iu⟩ := h.1.sl i _ hG
    subst e
    exact ⟨.ref a, ev, .ref C1, u, _, b, rfl, .own C1, h.1.top _ _ hu, hk, h.pure (is_bl _)⟩
end
end DL
/-! ### list.count of a list of texts -/
namespace DL
open PySem PySem.Spec PyProof.Rows L2
def rCount (K : PySem.W.Frag) : V → List V → Hp → VK → Prop := fun x xs H Q => ∃ (a : Addr) (ys : List V) (y : V), x = V.ref a ∧ xs = [y] ∧ SqL K H a ys ∧ flatV y = true ∧ ys.all flatV = true ∧ Q (.int ((ys.countP fun z => eqV z y : Nat) : Int)) H
theorem count_rel {y : V} : ∀ {ys : List V} {us : List Value}, Vals ys us → ys.all flatV = true → us.countP (eqU y) = ys.countP fun z => eqV z y
  | _, _, .nil, _ => rfl
  | _, _, .cons r t, f => by
    rw [List.all_cons, Bool.and_eq_true] at f
    rw [List.countP_cons, List.countP_cons, count_rel t f.2, eqU_of r f.1]
section
variable {X : Cx}
section
variable {X : Cx}
/-- a list, as it lies -/
theorem list_lies {pins : List (Addr × Obj)} {s : Shared} {σ : L2.St} {H : Hp} {a : Addr} {ys : List V} (I : L2.Inv X pins σ H s) (seq : SqL X.K H a ys) :
    ∃ (its : List Value) (n : Nat) (dd : Option Addr) (sl : Array (Option Value)), Vals ys its ∧ s.heap.get? a = some { cls := .type "list", dict := dd, data := .seq its.toArray n, slots := sl } := by
  obtain ⟨its, vals, ⟨⟨c, dd, dt, sl⟩, n, lies, ec, -, ed⟩, -⟩ := I.list seq
  have ec' : c = .type "list" := ec
  have ed' : dt = .seq its.toArray n := ed
  exact ⟨its, n, dd, sl, vals, ec' ▸ ed' ▸ lies⟩
theorem mt_count : MtR X "list.count" (rCount X.K) := fun pins s σ H x xs v us Q I rx rxs ⟨a, ys, y, ex, exs, seq, fy, fys, q⟩ => by
  subst ex exs
  cases rx
  obtain ⟨u, rfl, ry⟩ := vals1 rxs
  obtain ⟨its, n, dd, sl, vals, lies⟩ := list_lies I seq
  refine call_meets PySem.F.slot_list_count ⟨_, lies, rfl⟩ PySem.F.entry_list_count (PySem.F.args_list_count_2 _ _) (SeqAt.list_countAt a its.toArray n dd sl u (eqU y)) ⟨lies, fun z hz => mem_eqAt ry fy vals fys z (by simpa using hz), ?_⟩
  have count : its.toArray.toList.countP (eqU y) = ys.countP fun z => eqV z y := count_rel vals fys
  rw [count]
  exact ⟨.int ((ys.countP fun z => eqV z y : Nat) : Int), H, I.tok _, ⟨_, rfl⟩, q⟩
end
end
def countLD (a b : D) : Option D := match a, b with
  | .lst ds, .str z => match strsOf ds with
    | some ps => some (.int ((ps.count z : Nat) : Int))
    | none => none
  | _, _ => none
section
variable {X : Cx} {fx : Fx} {m : Type → Type} [Mo m] {G : List Sl} {o e : Expr} {apos pos : Pos} {x y : m D}
theorem count_strs {ps : List (List Nat)} {z : List Nat} : (ps.map fun p => V.str ⟨p.toArray⟩).countP (fun v => eqV v (.str ⟨z.toArray⟩)) = ps.count z := by
  induction ps with
  | nil => rfl
  | cons p ps ih =>
    rw [List.map_cons, List.countP_cons, List.count_cons, ih, eqV_str]
    by_cases c : p = z <;> simp [c]
theorem de_countL (ho : PE X o (tE X.K X.mg fx G x)) (he : PE X e (tE X.K X.mg fx G y)) (hs : starEach [e] X.env = (false, eval e X.env) :: starEach [] X.env := by rfl) (hbase : attributeBase o "count" X.env (eval o X.env) = eval o X.env := by rfl) (hline : (apos.endLine == pos.line) = true := by rfl)
    (hfew : ((backTo pos (starEach [e] X.env)).all (fun x => !x.1) && (backToKw pos (keywordEach [] X.env)).all (fun x => x.1.isSome)
      && decide ([e].length + ([] : List Keyword).length + (if ([] : List Keyword).isEmpty then 0 else 1) < 30)) = true := by rfl) (hplain : (backTo pos (starEach [] X.env)).any (·.1) = false := by rfl) :
    PE X (.Call (.Attribute o "count" apos) [e] [] pos) (tE X.K X.mg fx G (do let u ← x; let _ ← ask (lstOf u); let v ← y; ask (countLD u v))) :=
  peI (pe_bm PySem.F.plainAttrs_list PySem.F.slot_list_count PySem.F.type_list_count mt_count ho (pa_cons he pa_nil hs) hbase hfew hline hs hplain) fun σ H Q ⟨Hf, s, h⟩ =>
  (h.bind.mono fun v1 H1 ⟨d1, Hf1, s1, sb1, r1, h1⟩ => by
    have k := Mo.wp_lift (Mo.wp_bind h1.2)
    cases d1 with
    | lst ds =>
      obtain ⟨hz1, a, vs, rfl, t1, l1⟩ := r1
      refine ⟨?_, ?_⟩
      · exact .inl ⟨rfl, vs, .inl (.inl (h1.1.top _ _ t1))⟩
      have h2 : tX X.K X.mg fx G (fun H d v => Is X.K X.mg H d v) (do let v ← y; ask (countLD (.lst ds) v) : m D) Hf1 s1 σ H1 Q := ⟨h1.1, k⟩
      refine (h2.bind.mono fun v2 H2 ⟨d2, Hf2, s2, sb2, r2, h3⟩ => ?_).to
      obtain ⟨d, e, q⟩ := h3.ask
      cases d2 with
      | str z =>
        obtain ⟨rfl, _⟩ := r2
        have e' : (match strsOf ds with
          | some ps => some (D.int ((ps.count z : Nat) : Int))
          | none => none) = some d := e
        cases hp : strsOf ds with
        | none => rw [hp] at e'; cases e'
        | some ps =>
          rw [hp] at e'
          cases e'
          have hv := isL_strs (l1.mono sb2) hp
          refine ⟨a, vs, .str ⟨z.toArray⟩, rfl, rfl, .inl (.inl (h3.1.top _ _ (sb2 _ _ t1))), rfl, ?_, ?_⟩
          · rw [hv, List.all_eq_true]
            intro v m
            obtain ⟨p, _, rfl⟩ := List.mem_map.mp m
            rfl
          · rw [hv, count_strs]
            exact q _ Hf2 H2 (.refl h3.1.top) (is_int _)
      | _ => cases e
    | _ => exact k.elim).to
end
end DL
/-! ### tuple(text) -/
namespace DL
open PySem PySem.Spec PyProof.Rows L2
section
variable {prog : Program} {w : World} {A : Around} {E : Value → Shared → Prop} {s : Shared}
section
variable {prog : Program} {w : World} {A : Around} {E : Value → Shared → Prop} {s : Shared}
/-- what «tuple» makes of a text -/
def TupOfText (Q : Value → Shared → Prop) (x : Str) (s : Shared) : Prop :=
  ∀ (s' : Shared) (acc : Array Value), (∀ b o, s.heap.get? b = some o → s'.heap.get? b = some o) → s'.gens = s.gens → s'.drawn = s.drawn → s'.os = s.os → ItemsOf (SignAt x) acc x.cps.size → Q (.ref s'.heap.objs.size) { s' with heap := s'.heap.push { cls := .type "tuple", data := .seq acc } }
theorem tuple_new_text {Q : Value → Shared → Prop} {x : Str} {t : Tok} (hh : A.handled = none) (hn : x.cps.size ≤ sizeLine) (got : TupOfText Q x s) :
    codeAny (model prog w) A (.call (.builtin "tuple.__new__") ⟨[.type "tuple", .str x t], []⟩) (wants Q E) s := by
  refine codeAny_of_tree (wpAny_bind (m := checkBuiltinCall "tuple.__new__" _) (wpAny_of_eq (F.newCall_tuple_1 (.str x t)) (wpAny_pure ⟨plainId_quiet F.plain_tuple_new _, codeAny_builtin F.entry_tuple_new ?_⟩)))
  rw [Around.under_plainId F.plain_tuple_new _]
  have lookups := And.intro sub_tuple_self (And.intro init_tuple_lookup madeHere_tuple)
  obtain ⟨sub, ini, made⟩ := lookups
  have text : s.TypeIs (.str x t) "str" := typeIs_str s x t
  wp_walk using wpAny_typeOf text, wpAny_collect_str (A := A.in1) (hn := hn) (show A.in1.handled = none from hh) x t
  intro s' acc k1 k2 k3 k4 items
  have size : acc.toList.toArray.size ≤ sizeLine := by rw [Array.toArray_toList, items.1]; exact hn
  refine wpAny_bind (m := Builtin.Tuple.tupleExact _) (wpAny_newObj_type (wpAny_pure ?_) size)
  rw [Array.toArray_toList]
  exact got s' acc k1 k2 k3 k4 items
/-- tuple(x), x a text: its signs -/
theorem call_tuple_str {Q : Value → Shared → Prop} (hh : A.handled = none) (x : Str) (t : Tok) (hn : x.cps.size ≤ sizeLine) (hQ : TupOfText Q x s) : wpAny (model prog w) A (call (.type "tuple") [.str x t]) Q E s :=
  callType_codes (Q₁ := fun v s1 => s1.TypeIs v "tuple" ∧ Q v s1) F.called_tuple (F.typeCall_tuple_1 _) F.entry_object_init (tuple_new_text (A := A.in1) hh hn fun s' acc k1 k2 k3 k4 items => ⟨⟨_, Heap.get?_push_size _ rfl, rfl⟩, hQ s' acc k1 k2 k3 k4 items⟩)
    fun v s1 ⟨is, q⟩ => ⟨is, F.args_object_init_2 v _, object_init_meets F.called_tuple.init.lookup F.called_tuple.made (by decide) prog w A.in1 _ s1 ⟨is, rfl, q⟩⟩
end
section
variable {X : Cx}
theorem call_tuple_chrs (hc : X.calm = true) : CallR X (.type "tuple") (fun xs H Q => ∃ z : List Nat, xs = [.str ⟨z.toArray⟩] ∧ z.length ≤ sizeLine ∧ ∀ q, H q = none → Q (.ref q) (upd H q (.tup (z.map fun c => .str ⟨#[c]⟩)))) := by
  intro pins s σ H xs us Q I r h
  obtain ⟨z, rfl, hz, q⟩ := h
  obtain ⟨u, rfl, rx⟩ := vals1 r
  obtain ⟨t, rfl⟩ := rx
  have hz' : (⟨z.toArray⟩ : Str).cps.size ≤ sizeLine := by
    show z.toArray.size ≤ sizeLine
    simpa using hz
  refine call_tuple_str (I.ok.hd hc) _ t hz' fun ⟨h', g', d', tk, o'⟩ acc hk eg ed eo hacc => ?_
  obtain rfl : g' = s.gens := eg
  obtain rfl : d' = s.drawn := ed
  obtain rfl : o' = s.os := eo
  have el : acc.toList.length = z.length := by
    have := hacc.1
    simpa using this
  have rv : Vals (z.map fun c => V.str ⟨#[c]⟩) acc.toList := by
    refine vals_of_at (by rw [List.length_map, el]) fun j x w h1 h2 => ?_
    obtain ⟨c, u, hc', ew⟩ := hacc.2 j w (by rw [← Array.getElem?_toList]; exact h2)
    subst ew
    have hc2 : z[j]? = some c := by
      have : z.toArray[j]? = some c := hc'
      rwa [List.getElem?_toArray] at this
    rw [List.getElem?_map, hc2] at h1
    cases h1
    exact ⟨u, rfl⟩
  have I1 : L2.Inv X pins σ H { s with heap := h', toks := tk } := I.kept (t' := tk) hk
  have I2 : L2.Inv X pins σ (upd H h'.objs.size (.tup (z.map fun c => V.str ⟨#[c]⟩))) { s with heap := h'.push { cls := .type "tuple", data := .seq acc }, toks := tk } :=
    I1.laid (t' := tk) (fun b o e => Heap.get?_push_of_some _ e) (Nat.le_refl _) (show ObjOk X.prog X.w _ _ _ (.tup (z.map fun c => V.str ⟨#[c]⟩)) from ⟨by simpa using hz, acc.toList, rv, by rw [Array.toArray_toList]; exact IsTup.new _ _⟩)
  exact ⟨.ref h'.objs.size, _, I2, rfl, q _ (I1.hok.fresh (Nat.le_refl _))⟩
end
end
section
variable {X : Cx}
def tupleXD : List D → Option D
  | [.str z] => some (.tup (chrs z))
  | ds => tupleD ds
theorem oc_tupleX (hc : X.calm = true) : CallR X (.type "tuple") (rDs X.K X.mg tupleXD) := by
  intro pins s σ H xs us Q I r h
  obtain ⟨Hf, ds, d, sb, l, e, q⟩ := h
  unfold tupleXD at e
  split at e
  · cases e
    obtain ⟨v, r1, rfl, ⟨rfl, hz⟩, rfl⟩ := l
    refine call_tuple_chrs hc pins s σ H _ us Q I r ⟨_, rfl, hz, fun p hp => q _ _ _ (.new sb hp) ?_⟩
    exact ⟨by unfold chrs; rw [List.length_map]; exact hz, p, _, rfl, .inl (.inl upd_same), isL_chrs _⟩
  · exact oc_tuple pins s σ H _ us Q I r ⟨Hf, _, d, sb, l, e, q⟩
end
end DL
namespace FN
open DL
def c_LABEL : D := (.str [108, 97, 98, 101, 108])
def k_label_shape_c600_0 (c2 : D × D × D) : R (Fl (Unit) (Empty)) := (do let v21 ← (do let r19 ← (do let x17 ← (do let r7 ← (do let x5 ← (pure c2.1); let r6 ← pure []; pure (x5 :: r6)); DL.ask (tupleXD r7)); let r18 ← (do let x15 ← (do let r10 ← (do let x8 ← (pure c2.2.2); let r9 ← pure []; pure (x8 :: r9)); DL.ask (tupleXD r10)); let r16 ← (do let x13 ← (do let x11 ← (pure c2.2.1); let y12 ← (pure (.str [42])); DL.ask (eqD x11 y12)); let r14 ← pure []; pure (x13 :: r14)); pure (x15 :: r16)); pure (x17 :: r18)); let r20 ← DL.ask (szL r19); pure (.tup r20)); pure (.rt v21))
theorem l_label_shape_c600_0 (c2 : D × D × D) : k_label_shape_c600_0 c2 = (do let v21 ← (do let r19 ← (do let x17 ← (do let r7 ← (do let x5 ← (pure c2.1); let r6 ← pure []; pure (x5 :: r6)); DL.ask (tupleXD r7)); let r18 ← (do let x15 ← (do let r10 ← (do let x8 ← (pure c2.2.2); let r9 ← pure []; pure (x8 :: r9)); DL.ask (tupleXD r10)); let r16 ← (do let x13 ← (do let x11 ← (pure c2.2.1); let y12 ← (pure (.str [42])); DL.ask (eqD x11 y12)); let r14 ← pure []; pure (x13 :: r14)); pure (x15 :: r16)); pure (x17 :: r18)); let r20 ← DL.ask (szL r19); pure (.tup r20)); pure (.rt v21)) := rfl
def b_label_shape_c600 (a0 : D) : R (Fl Unit Empty) := (do let v1 ← (do let x3 ← (pure a0); let _ ← DL.ask (strOf x3); let y4 ← (pure (.str [42])); DL.ask (partD x3 y4)); let c2 ← DL.ask (un3 v1); (k_label_shape_c600_0 c2))
theorem e_label_shape_c600 (a0 : D) : b_label_shape_c600 a0 = (do let _ ← DL.ask (strOf a0); let v1 ← (DL.ask (partD a0 (.str [42]))); let c2 ← DL.ask (un3 v1); let x17 ← (DL.ask (tupleXD [c2.1])); let x15 ← (DL.ask (tupleXD [c2.2.2])); let x13 ← (DL.ask (eqD c2.2.1 (.str [42]))); let r20 ← DL.ask (szL [x17, x15, x13]); pure (.rt (.tup r20))) := by
  unfold b_label_shape_c600; simp only [l_label_shape_c600_0, pure_bind, bind_assoc, mkL]
def m_label_shape_c600 : List D → R D := apR1 fun a0 => (runR false (b_label_shape_c600 a0))
theorem n_label_shape_c600 : ∀ ds : List D, m_label_shape_c600 ds ≠ .stuck → ds.length = 1 := apR1_len _
def k__law_is_glob_a031_0 (a0 : D) (v1 : D) : R (Fl (Unit) (Empty)) := (do let v22 ← (andV (chainM leD leD (pure (.int 1)) (do let r8 ← (do let x6 ← (pure a0); let r7 ← pure []; pure (x6 :: r7)); DL.ask (lenD r8)) (pure (.int 8))) (andV (do let x11 ← (do let x9 ← (pure a0); let _ ← DL.ask (strOf x9); let y10 ← (pure (.str [42])); DL.ask (strM (fun a b => .int (PySem.Txt.count ⟨a.toArray⟩ ⟨b.toArray⟩)) x9 y10)); let y12 ← (pure (.int 2)); DL.ask (ltD x11 y12)) (do let r21 ← (do let x19 ← (mkL (do let r18 ← (do let r13 ← (pure a0); DL.ask (itD r13)); lcF (fun d => some d) (fun (c15 : D) => pure true) (fun (c15 : D) => (do let x16 ← (pure c15); let y17 ← (pure v1); DL.ask (inD x16 y17))) r18)); let r20 ← pure []; pure (x19 :: r20)); DL.ask (allD r21)))); pure (.rt v22))
theorem l__law_is_glob_a031_0 (a0 : D) (v1 : D) : k__law_is_glob_a031_0 a0 v1 = (do let v22 ← (andV (chainM leD leD (pure (.int 1)) (do let r8 ← (do let x6 ← (pure a0); let r7 ← pure []; pure (x6 :: r7)); DL.ask (lenD r8)) (pure (.int 8))) (andV (do let x11 ← (do let x9 ← (pure a0); let _ ← DL.ask (strOf x9); let y10 ← (pure (.str [42])); DL.ask (strM (fun a b => .int (PySem.Txt.count ⟨a.toArray⟩ ⟨b.toArray⟩)) x9 y10)); let y12 ← (pure (.int 2)); DL.ask (ltD x11 y12)) (do let r21 ← (do let x19 ← (mkL (do let r18 ← (do let r13 ← (pure a0); DL.ask (itD r13)); lcF (fun d => some d) (fun (c15 : D) => pure true) (fun (c15 : D) => (do let x16 ← (pure c15); let y17 ← (pure v1); DL.ask (inD x16 y17))) r18)); let r20 ← pure []; pure (x19 :: r20)); DL.ask (allD r21)))); pure (.rt v22)) := rfl
def b__law_is_glob_a031 (a0 : D) : R (Fl Unit Empty) := (do let v1 ← (mkL (do let r4 ← (do let x2 ← (pure (.str [48, 49, 50, 51, 52, 53, 54, 55, 56, 57, 97, 98, 99, 100, 101, 102, 103, 104, 105, 106, 107, 108, 109, 110, 111, 112, 113, 114, 115, 116, 117, 118, 119, 120, 121, 122, 42])); let r3 ← pure []; pure (x2 :: r3)); let r5 ← DL.ask (listD r4); DL.ask (szL r5))); (k__law_is_glob_a031_0 a0 v1))
theorem e__law_is_glob_a031 (a0 : D) : b__law_is_glob_a031 a0 = (do let r5 ← DL.ask (listD [(.str [48, 49, 50, 51, 52, 53, 54, 55, 56, 57, 97, 98, 99, 100, 101, 102, 103, 104, 105, 106, 107, 108, 109, 110, 111, 112, 113, 114, 115, 116, 117, 118, 119, 120, 121, 122, 42])]); let v1 ← (DL.ask (szL r5)); let v22 ← (andV (chainM leD leD (pure (.int 1)) (DL.ask (lenD [a0])) (pure (.int 8))) (andV (do let _ ← DL.ask (strOf a0); let x11 ← (DL.ask (strM (fun a b => .int (PySem.Txt.count ⟨a.toArray⟩ ⟨b.toArray⟩)) a0 (.str [42]))); DL.ask (ltD x11 (.int 2))) (do let r18 ← (DL.ask (itD a0)); let x19 ← (lcF (fun d => some d) (fun (c15 : D) => pure true) (fun (c15 : D) => (DL.ask (inD c15 (.lst v1)))) r18); DL.ask (allD [(.lst x19)])))); pure (.rt v22)) := by
  unfold b__law_is_glob_a031; simp only [l__law_is_glob_a031_0, pure_bind, bind_assoc, mkL]
def m__law_is_glob_a031 : List D → R D := apR1 fun a0 => (runR false (b__law_is_glob_a031 a0))
theorem n__law_is_glob_a031 : ∀ ds : List D, m__law_is_glob_a031 ds ≠ .stuck → ds.length = 1 := apR1_len _
def k__law_are_items_cbe6_0 (a0 : D) (a3 : D) (a4 : D) : R (Fl (Unit) (Empty)) := (do let v42 ← (andV (do let x29 ← (do let x27 ← (pure a0); let _ ← DL.ask (lstOf x27); let y28 ← (pure (.str [42, 42])); DL.ask (indexLD x27 y28)); let y30 ← (pure a3); DL.ask (leD x29 y30)) (do let x40 ← (do let x38 ← (do let x36 ← (do let r33 ← (do let x31 ← (pure a0); let r32 ← pure []; pure (x31 :: r32)); DL.ask (lenD r33)); let y37 ← (do let x34 ← (pure a0); let _ ← DL.ask (lstOf x34); let y35 ← (pure (.str [42, 42])); DL.ask (indexLD x34 y35)); DL.ask (subD x36 y37)); let y39 ← (pure (.int 1)); DL.ask (subD x38 y39)); let y41 ← (pure a4); DL.ask (leD x40 y41))); pure (.rt v42))
theorem l__law_are_items_cbe6_0 (a0 : D) (a3 : D) (a4 : D) : k__law_are_items_cbe6_0 a0 a3 a4 = (do let v42 ← (andV (do let x29 ← (do let x27 ← (pure a0); let _ ← DL.ask (lstOf x27); let y28 ← (pure (.str [42, 42])); DL.ask (indexLD x27 y28)); let y30 ← (pure a3); DL.ask (leD x29 y30)) (do let x40 ← (do let x38 ← (do let x36 ← (do let r33 ← (do let x31 ← (pure a0); let r32 ← pure []; pure (x31 :: r32)); DL.ask (lenD r33)); let y37 ← (do let x34 ← (pure a0); let _ ← DL.ask (lstOf x34); let y35 ← (pure (.str [42, 42])); DL.ask (indexLD x34 y35)); DL.ask (subD x36 y37)); let y39 ← (pure (.int 1)); DL.ask (subD x38 y39)); let y41 ← (pure a4); DL.ask (leD x40 y41))); pure (.rt v42)) := rfl
def k__law_are_items_cbe6_1 (a0 : D) (a1 : D) (a2 : D) (a3 : D) (a4 : D) : R (Fl (Unit) (Empty)) := (do let t43 ← (do let x20 ← (pure (.str [42, 42])); let y21 ← (pure a0); DL.ask ((notInD x20 y21).bind bOf)); seqF (if t43 = true then (do let v26 ← (chainM leD leD (pure a1) (do let r25 ← (do let x23 ← (pure a0); let r24 ← pure []; pure (x23 :: r24)); DL.ask (lenD r25)) (pure a2)); pure (.rt v26)) else (pure (.nx ()))) fun (q22 : Unit) => (k__law_are_items_cbe6_0 a0 a3 a4))
theorem l__law_are_items_cbe6_1 (a0 : D) (a1 : D) (a2 : D) (a3 : D) (a4 : D) : k__law_are_items_cbe6_1 a0 a1 a2 a3 a4 = (do let t43 ← (do let x20 ← (pure (.str [42, 42])); let y21 ← (pure a0); DL.ask ((notInD x20 y21).bind bOf)); seqF (if t43 = true then (do let v26 ← (chainM leD leD (pure a1) (do let r25 ← (do let x23 ← (pure a0); let r24 ← pure []; pure (x23 :: r24)); DL.ask (lenD r25)) (pure a2)); pure (.rt v26)) else (pure (.nx ()))) fun (q22 : Unit) => (k__law_are_items_cbe6_0 a0 a3 a4)) := rfl
def k__law_are_items_cbe6_2 (a0 : D) (a1 : D) (a2 : D) (a3 : D) (a4 : D) : R (Fl (Unit) (Empty)) := (do let t44 ← (DL.orM (do let x3 ← (do let x1 ← (pure a0); let _ ← DL.ask (lstOf x1); let y2 ← (pure (.str [42, 42])); DL.ask (countLD x1 y2)); let y4 ← (pure (.int 1)); DL.ask ((gtD x3 y4).bind bOf)) (DL.notM (do let x17 ← (do let r16 ← (do let x14 ← (mkL (do let r13 ← (do let r5 ← (pure a0); DL.ask (itD r5)); lcF (fun d => some d) (fun (c7 : D) => pure true) (fun (c7 : D) => (orV (do let x8 ← (pure c7); let y9 ← (pure (.str [42, 42])); DL.ask (eqD x8 y9)) (do let r12 ← (do let x10 ← (pure c7); let r11 ← pure []; pure (x10 :: r11)); Mo.lift (m__law_is_glob_a031 r12)))) r13)); let r15 ← pure []; pure (x14 :: r15)); DL.ask (allD r16)); DL.ask (truD x17)))); seqF (if t44 = true then (do let v19 ← (pure (.bl false)); pure (.rt v19)) else (pure (.nx ()))) fun (q18 : Unit) => (k__law_are_items_cbe6_1 a0 a1 a2 a3 a4))
theorem l__law_are_items_cbe6_2 (a0 : D) (a1 : D) (a2 : D) (a3 : D) (a4 : D) : k__law_are_items_cbe6_2 a0 a1 a2 a3 a4 = (do let t44 ← (DL.orM (do let x3 ← (do let x1 ← (pure a0); let _ ← DL.ask (lstOf x1); let y2 ← (pure (.str [42, 42])); DL.ask (countLD x1 y2)); let y4 ← (pure (.int 1)); DL.ask ((gtD x3 y4).bind bOf)) (DL.notM (do let x17 ← (do let r16 ← (do let x14 ← (mkL (do let r13 ← (do let r5 ← (pure a0); DL.ask (itD r5)); lcF (fun d => some d) (fun (c7 : D) => pure true) (fun (c7 : D) => (orV (do let x8 ← (pure c7); let y9 ← (pure (.str [42, 42])); DL.ask (eqD x8 y9)) (do let r12 ← (do let x10 ← (pure c7); let r11 ← pure []; pure (x10 :: r11)); Mo.lift (m__law_is_glob_a031 r12)))) r13)); let r15 ← pure []; pure (x14 :: r15)); DL.ask (allD r16)); DL.ask (truD x17)))); seqF (if t44 = true then (do let v19 ← (pure (.bl false)); pure (.rt v19)) else (pure (.nx ()))) fun (q18 : Unit) => (k__law_are_items_cbe6_1 a0 a1 a2 a3 a4)) := rfl
def b__law_are_items_cbe6 (a0 a1 a2 a3 a4 : D) : R (Fl Unit Empty) := (k__law_are_items_cbe6_2 a0 a1 a2 a3 a4)
theorem e__law_are_items_cbe6 (a0 a1 a2 a3 a4 : D) : b__law_are_items_cbe6 a0 a1 a2 a3 a4 = (do let t44 ← (DL.orM (do let _ ← DL.ask (lstOf a0); let x3 ← (DL.ask (countLD a0 (.str [42, 42]))); DL.ask ((gtD x3 (.int 1)).bind bOf)) (DL.notM (do let r13 ← (DL.ask (itD a0)); let x14 ← (lcF (fun d => some d) (fun (c7 : D) => pure true) (fun (c7 : D) => (orV (DL.ask (eqD c7 (.str [42, 42]))) (Mo.lift (m__law_is_glob_a031 [c7])))) r13); let x17 ← (DL.ask (allD [(.lst x14)])); DL.ask (truD x17)))); seqF (if t44 = true then (pure (.rt (.bl false))) else (pure (.nx ()))) fun (q18 : Unit) => (do let t43 ← (DL.ask ((notInD (.str [42, 42]) a0).bind bOf)); seqF (if t43 = true then (do let v26 ← (chainM leD leD (pure a1) (DL.ask (lenD [a0])) (pure a2)); pure (.rt v26)) else (pure (.nx ()))) fun (q22 : Unit) => (do let v42 ← (andV (do let _ ← DL.ask (lstOf a0); let x29 ← (DL.ask (indexLD a0 (.str [42, 42]))); DL.ask (leD x29 a3)) (do let x36 ← (DL.ask (lenD [a0])); let _ ← DL.ask (lstOf a0); let y37 ← (DL.ask (indexLD a0 (.str [42, 42]))); let x38 ← (DL.ask (subD x36 y37)); let x40 ← (DL.ask (subD x38 (.int 1))); DL.ask (leD x40 a4))); pure (.rt v42)))) := by
  unfold b__law_are_items_cbe6; simp only [l__law_are_items_cbe6_0, l__law_are_items_cbe6_1, l__law_are_items_cbe6_2, pure_bind, bind_assoc, mkL]
def m__law_are_items_cbe6 : List D → R D := apR5 fun a0 a1 a2 a3 a4 => (runR false (b__law_are_items_cbe6 a0 a1 a2 a3 a4))
theorem n__law_are_items_cbe6 : ∀ ds : List D, m__law_are_items_cbe6 ds ≠ .stuck → ds.length = 5 := apR5_len _
def m_LabelPattern_init_02ae : List D → R (List D) := apI1 fun a1 => (do let z14 ← (do let x12 ← (pure a1); let r13 ← (do let x10 ← (pure c_LABEL); let r11 ← (do let x8 ← (iteM (do let x4 ← (do let r3 ← (do let x1 ← (pure a1); let r2 ← pure []; pure (x1 :: r2)); Mo.lift (m_is_label_text_206f r3)); DL.ask (truD x4)) (do let r7 ← (do let x5 ← (pure a1); let r6 ← pure []; pure (x5 :: r6)); Mo.lift (m_label_shape_c600 r7)) (pure .non)); let r9 ← pure []; pure (x8 :: r9)); pure (x10 :: r11)); pure (x12 :: r13)); m_Pattern_init_4a0d z14)
theorem n_LabelPattern_init_02ae : ∀ ds : List D, m_LabelPattern_init_02ae ds ≠ .stuck → ds.length = 1 := apI1_len _
def k__law_glob_3319_0 (v9 : D) (v26 : D) (a1 : D) : M (Fl (Unit) (Empty)) := (do let v58 ← (do let x55 ← (do let x51 ← (do let x46 ← (pure v9); let y47 ← (pure v26); DL.ask (addD x46 y47)); let y52 ← (do let r50 ← (do let x48 ← (pure a1); let r49 ← pure []; pure (x48 :: r49)); m__law_of_bf28 r50); DL.ask (addD x51 y52)); let l56 ← (pure none); let u57 ← (do let x53 ← (pure (.int 8)); let i54 ← DL.ask (intOf x53); pure (some i54)); DL.ask (sliceD x55 l56 u57)); pure (.rt v58))
theorem l__law_glob_3319_0 (v9 : D) (v26 : D) (a1 : D) : k__law_glob_3319_0 v9 v26 a1 = (do let v58 ← (do let x55 ← (do let x51 ← (do let x46 ← (pure v9); let y47 ← (pure v26); DL.ask (addD x46 y47)); let y52 ← (do let r50 ← (do let x48 ← (pure a1); let r49 ← pure []; pure (x48 :: r49)); m__law_of_bf28 r50); DL.ask (addD x51 y52)); let l56 ← (pure none); let u57 ← (do let x53 ← (pure (.int 8)); let i54 ← DL.ask (intOf x53); pure (some i54)); DL.ask (sliceD x55 l56 u57)); pure (.rt v58)) := rfl
def k__law_glob_3319_1 (v1 : D) (v9 : D) (v26 : D) (a1 : D) : M (Fl (Unit) (Empty)) := (do let t64 ← (do let x43 ← (pure v1); let y44 ← (pure (.int 3)); DL.ask ((ltD x43 y44).bind bOf)); seqF (if t64 = true then (k__law_glob_3319_0 v9 v26 a1) else (pure (.nx ()))) fun (q45 : Unit) => (do let v63 ← (do let x61 ← (do let x59 ← (pure v9); let y60 ← (pure (.str [42])); DL.ask (addD x59 y60)); let y62 ← (pure v26); DL.ask (addD x61 y62)); pure (.rt v63)))
theorem l__law_glob_3319_1 (v1 : D) (v9 : D) (v26 : D) (a1 : D) : k__law_glob_3319_1 v1 v9 v26 a1 = (do let t64 ← (do let x43 ← (pure v1); let y44 ← (pure (.int 3)); DL.ask ((ltD x43 y44).bind bOf)); seqF (if t64 = true then (k__law_glob_3319_0 v9 v26 a1) else (pure (.nx ()))) fun (q45 : Unit) => (do let v63 ← (do let x61 ← (do let x59 ← (pure v9); let y60 ← (pure (.str [42])); DL.ask (addD x59 y60)); let y62 ← (pure v26); DL.ask (addD x61 y62)); pure (.rt v63))) := rfl
def k__law_glob_3319_2 (a2 : D) (a1 : D) (v1 : D) (v9 : D) : M (Fl (Unit) (Empty)) := (do let v26 ← (do let x41 ← (pure (.str [])); let _ ← DL.ask (strOf x41); let y42 ← (mkL (do let r40 ← (do let r34 ← (do let x32 ← (do let r31 ← (do let x29 ← (do let x27 ← (pure a2); let y28 ← (pure (.int 1)); DL.ask (addD x27 y28)); let r30 ← pure []; pure (x29 :: r30)); m__law_take_6859 r31); let r33 ← pure []; pure (x32 :: r33)); DL.ask (rng1 r34)); lcF (fun d => some d) (fun (c36 : D) => pure true) (fun (c36 : D) => (do let r39 ← (do let x37 ← (pure a1); let r38 ← pure []; pure (x37 :: r38)); m__law_of_bf28 r39)) r40)); DL.ask (joinD x41 y42)); (k__law_glob_3319_1 v1 v9 v26 a1))
theorem l__law_glob_3319_2 (a2 : D) (a1 : D) (v1 : D) (v9 : D) : k__law_glob_3319_2 a2 a1 v1 v9 = (do let v26 ← (do let x41 ← (pure (.str [])); let _ ← DL.ask (strOf x41); let y42 ← (mkL (do let r40 ← (do let r34 ← (do let x32 ← (do let r31 ← (do let x29 ← (do let x27 ← (pure a2); let y28 ← (pure (.int 1)); DL.ask (addD x27 y28)); let r30 ← pure []; pure (x29 :: r30)); m__law_take_6859 r31); let r33 ← pure []; pure (x32 :: r33)); DL.ask (rng1 r34)); lcF (fun d => some d) (fun (c36 : D) => pure true) (fun (c36 : D) => (do let r39 ← (do let x37 ← (pure a1); let r38 ← pure []; pure (x37 :: r38)); m__law_of_bf28 r39)) r40)); DL.ask (joinD x41 y42)); (k__law_glob_3319_1 v1 v9 v26 a1)) := rfl
def k__law_glob_3319_3 (a2 : D) (a1 : D) (v1 : D) : M (Fl (Unit) (Empty)) := (do let v9 ← (do let x24 ← (pure (.str [])); let _ ← DL.ask (strOf x24); let y25 ← (mkL (do let r23 ← (do let r17 ← (do let x15 ← (do let r14 ← (do let x12 ← (do let x10 ← (pure a2); let y11 ← (pure (.int 1)); DL.ask (addD x10 y11)); let r13 ← pure []; pure (x12 :: r13)); m__law_take_6859 r14); let r16 ← pure []; pure (x15 :: r16)); DL.ask (rng1 r17)); lcF (fun d => some d) (fun (c19 : D) => pure true) (fun (c19 : D) => (do let r22 ← (do let x20 ← (pure a1); let r21 ← pure []; pure (x20 :: r21)); m__law_of_bf28 r22)) r23)); DL.ask (joinD x24 y25)); (k__law_glob_3319_2 a2 a1 v1 v9))
theorem l__law_glob_3319_3 (a2 : D) (a1 : D) (v1 : D) : k__law_glob_3319_3 a2 a1 v1 = (do let v9 ← (do let x24 ← (pure (.str [])); let _ ← DL.ask (strOf x24); let y25 ← (mkL (do let r23 ← (do let r17 ← (do let x15 ← (do let r14 ← (do let x12 ← (do let x10 ← (pure a2); let y11 ← (pure (.int 1)); DL.ask (addD x10 y11)); let r13 ← pure []; pure (x12 :: r13)); m__law_take_6859 r14); let r16 ← pure []; pure (x15 :: r16)); DL.ask (rng1 r17)); lcF (fun d => some d) (fun (c19 : D) => pure true) (fun (c19 : D) => (do let r22 ← (do let x20 ← (pure a1); let r21 ← pure []; pure (x20 :: r21)); m__law_of_bf28 r22)) r23)); DL.ask (joinD x24 y25)); (k__law_glob_3319_2 a2 a1 v1 v9)) := rfl
def k__law_glob_3319_4 (a2 : D) (a1 : D) : M (Fl (Unit) (Empty)) := (do let v1 ← (do let r4 ← (do let x2 ← (pure (.int 6)); let r3 ← pure []; pure (x2 :: r3)); m__law_take_6859 r4); (do let t65 ← (do let x5 ← (pure v1); let y6 ← (pure (.int 0)); DL.ask ((eqD x5 y6).bind bOf)); seqF (if t65 = true then (do let v8 ← (pure (.str [42])); pure (.rt v8)) else (pure (.nx ()))) fun (q7 : Unit) => (k__law_glob_3319_3 a2 a1 v1)))
theorem l__law_glob_3319_4 (a2 : D) (a1 : D) : k__law_glob_3319_4 a2 a1 = (do let v1 ← (do let r4 ← (do let x2 ← (pure (.int 6)); let r3 ← pure []; pure (x2 :: r3)); m__law_take_6859 r4); (do let t65 ← (do let x5 ← (pure v1); let y6 ← (pure (.int 0)); DL.ask ((eqD x5 y6).bind bOf)); seqF (if t65 = true then (do let v8 ← (pure (.str [42])); pure (.rt v8)) else (pure (.nx ()))) fun (q7 : Unit) => (k__law_glob_3319_3 a2 a1 v1))) := rfl
def b__law_glob_3319 (a1 a2 : D) : M (Fl Unit Empty) := (k__law_glob_3319_4 a2 a1)
theorem e__law_glob_3319 (a1 a2 : D) : b__law_glob_3319 a1 a2 = (do let v1 ← (m__law_take_6859 [(.int 6)]); let t65 ← (DL.ask ((eqD v1 (.int 0)).bind bOf)); seqF (if t65 = true then (pure (.rt (.str [42]))) else (pure (.nx ()))) fun (q7 : Unit) => (do let _ ← DL.ask (strOf (.str [])); let x12 ← (DL.ask (addD a2 (.int 1))); let x15 ← (m__law_take_6859 [x12]); let r23 ← (DL.ask (rng1 [x15])); let y25 ← (lcF (fun d => some d) (fun (c19 : D) => pure true) (fun (c19 : D) => (m__law_of_bf28 [a1])) r23); let v9 ← (DL.ask (joinD (.str []) (.lst y25))); let _ ← DL.ask (strOf (.str [])); let x29 ← (DL.ask (addD a2 (.int 1))); let x32 ← (m__law_take_6859 [x29]); let r40 ← (DL.ask (rng1 [x32])); let y42 ← (lcF (fun d => some d) (fun (c36 : D) => pure true) (fun (c36 : D) => (m__law_of_bf28 [a1])) r40); let v26 ← (DL.ask (joinD (.str []) (.lst y42))); let t64 ← (DL.ask ((ltD v1 (.int 3)).bind bOf)); seqF (if t64 = true then (do let x51 ← (DL.ask (addD v9 v26)); let y52 ← (m__law_of_bf28 [a1]); let x55 ← (DL.ask (addD x51 y52)); let i54 ← DL.ask (intOf (.int 8)); let v58 ← (DL.ask (sliceD x55 none (some i54))); pure (.rt v58)) else (pure (.nx ()))) fun (q45 : Unit) => (do let x61 ← (DL.ask (addD v9 (.str [42]))); let v63 ← (DL.ask (addD x61 v26)); pure (.rt v63)))) := by
  unfold b__law_glob_3319; simp only [l__law_glob_3319_0, l__law_glob_3319_1, l__law_glob_3319_2, l__law_glob_3319_3, l__law_glob_3319_4, pure_bind, bind_assoc, mkL]
def m__law_glob_3319 : List D → M D := apM2 fun a1 a2 => (runM false (b__law_glob_3319 a1 a2))
theorem n__law_glob_3319 : ∀ ds s, m__law_glob_3319 ds s ≠ .stuck → ds.length = 2 := apM2_len _
def k__law_due_3125_0 (a1 : D) : R (Fl (Unit) (Empty)) := (do let v25 ← (do let r24 ← (do let x22 ← (do let x13 ← (mkL (do let x11 ← (pure a1); let _ ← DL.ask (strOf x11); let y12 ← (pure (.str [46])); DL.ask (splitD x11 y12))); DL.ask (revD x13)); let r23 ← (do let x20 ← (pure (.int 1)); let r21 ← (do let x18 ← (pure (.int 4)); let r19 ← (do let x16 ← (pure (.int 3)); let r17 ← (do let x14 ← (pure (.int 2)); let r15 ← pure []; pure (x14 :: r15)); pure (x16 :: r17)); pure (x18 :: r19)); pure (x20 :: r21)); pure (x22 :: r23)); Mo.lift (m__law_are_items_cbe6 r24)); pure (.rt v25))
theorem l__law_due_3125_0 (a1 : D) : k__law_due_3125_0 a1 = (do let v25 ← (do let r24 ← (do let x22 ← (do let x13 ← (mkL (do let x11 ← (pure a1); let _ ← DL.ask (strOf x11); let y12 ← (pure (.str [46])); DL.ask (splitD x11 y12))); DL.ask (revD x13)); let r23 ← (do let x20 ← (pure (.int 1)); let r21 ← (do let x18 ← (pure (.int 4)); let r19 ← (do let x16 ← (pure (.int 3)); let r17 ← (do let x14 ← (pure (.int 2)); let r15 ← pure []; pure (x14 :: r15)); pure (x16 :: r17)); pure (x18 :: r19)); pure (x20 :: r21)); pure (x22 :: r23)); Mo.lift (m__law_are_items_cbe6 r24)); pure (.rt v25)) := rfl
def k__law_due_3125_1 (a1 : D) : R (Fl (Unit) (Empty)) := (do let v56 ← (do let r55 ← (do let x53 ← (iteM (do let x35 ← (pure a1); let y36 ← (pure (.str [47])); DL.ask ((neD x35 y36).bind bOf)) (mkL (do let x42 ← (do let x39 ← (pure a1); let l40 ← (do let x37 ← (pure (.int 1)); let i38 ← DL.ask (intOf x37); pure (some i38)); let u41 ← (pure none); DL.ask (sliceD x39 l40 u41)); let _ ← DL.ask (strOf x42); let y43 ← (pure (.str [47])); DL.ask (splitD x42 y43))) (mkL (do let r44 ← pure []; DL.ask (szL r44)))); let r54 ← (do let x51 ← (pure (.int 0)); let r52 ← (do let x49 ← (pure (.int 3)); let r50 ← (do let x47 ← (pure (.int 2)); let r48 ← (do let x45 ← (pure (.int 2)); let r46 ← pure []; pure (x45 :: r46)); pure (x47 :: r48)); pure (x49 :: r50)); pure (x51 :: r52)); pure (x53 :: r54)); Mo.lift (m__law_are_items_cbe6 r55)); pure (.rt v56))
theorem l__law_due_3125_1 (a1 : D) : k__law_due_3125_1 a1 = (do let v56 ← (do let r55 ← (do let x53 ← (iteM (do let x35 ← (pure a1); let y36 ← (pure (.str [47])); DL.ask ((neD x35 y36).bind bOf)) (mkL (do let x42 ← (do let x39 ← (pure a1); let l40 ← (do let x37 ← (pure (.int 1)); let i38 ← DL.ask (intOf x37); pure (some i38)); let u41 ← (pure none); DL.ask (sliceD x39 l40 u41)); let _ ← DL.ask (strOf x42); let y43 ← (pure (.str [47])); DL.ask (splitD x42 y43))) (mkL (do let r44 ← pure []; DL.ask (szL r44)))); let r54 ← (do let x51 ← (pure (.int 0)); let r52 ← (do let x49 ← (pure (.int 3)); let r50 ← (do let x47 ← (pure (.int 2)); let r48 ← (do let x45 ← (pure (.int 2)); let r46 ← pure []; pure (x45 :: r46)); pure (x47 :: r48)); pure (x49 :: r50)); pure (x51 :: r52)); pure (x53 :: r54)); Mo.lift (m__law_are_items_cbe6 r55)); pure (.rt v56)) := rfl
def k__law_due_3125_2 (a1 : D) : R (Fl (Unit) (Empty)) := (do let t57 ← (do let x31 ← (do let x28 ← (pure a1); let l29 ← (pure none); let u30 ← (do let x26 ← (pure (.int 1)); let i27 ← DL.ask (intOf x26); pure (some i27)); DL.ask (sliceD x28 l29 u30)); let y32 ← (pure (.str [47])); DL.ask ((neD x31 y32).bind bOf)); seqF (if t57 = true then (do let v34 ← (pure (.bl false)); pure (.rt v34)) else (pure (.nx ()))) fun (q33 : Unit) => (k__law_due_3125_1 a1))
theorem l__law_due_3125_2 (a1 : D) : k__law_due_3125_2 a1 = (do let t57 ← (do let x31 ← (do let x28 ← (pure a1); let l29 ← (pure none); let u30 ← (do let x26 ← (pure (.int 1)); let i27 ← DL.ask (intOf x26); pure (some i27)); DL.ask (sliceD x28 l29 u30)); let y32 ← (pure (.str [47])); DL.ask ((neD x31 y32).bind bOf)); seqF (if t57 = true then (do let v34 ← (pure (.bl false)); pure (.rt v34)) else (pure (.nx ()))) fun (q33 : Unit) => (k__law_due_3125_1 a1)) := rfl
def k__law_due_3125_3 (a0 : D) (a1 : D) : R (Fl (Unit) (Empty)) := (do let t59 ← (do let x1 ← (pure a0); let y2 ← (pure (.str [108, 97, 98, 101, 108])); DL.ask ((eqD x1 y2).bind bOf)); seqF (if t59 = true then (do let v7 ← (do let r6 ← (do let x4 ← (pure a1); let r5 ← pure []; pure (x4 :: r5)); Mo.lift (m__law_is_glob_a031 r6)); pure (.rt v7)) else (pure (.nx ()))) fun (q3 : Unit) => (do let t58 ← (do let x8 ← (pure a0); let y9 ← (pure (.str [104, 111, 115, 116])); DL.ask ((eqD x8 y9).bind bOf)); seqF (if t58 = true then (k__law_due_3125_0 a1) else (pure (.nx ()))) fun (q10 : Unit) => (k__law_due_3125_2 a1)))
theorem l__law_due_3125_3 (a0 : D) (a1 : D) : k__law_due_3125_3 a0 a1 = (do let t59 ← (do let x1 ← (pure a0); let y2 ← (pure (.str [108, 97, 98, 101, 108])); DL.ask ((eqD x1 y2).bind bOf)); seqF (if t59 = true then (do let v7 ← (do let r6 ← (do let x4 ← (pure a1); let r5 ← pure []; pure (x4 :: r5)); Mo.lift (m__law_is_glob_a031 r6)); pure (.rt v7)) else (pure (.nx ()))) fun (q3 : Unit) => (do let t58 ← (do let x8 ← (pure a0); let y9 ← (pure (.str [104, 111, 115, 116])); DL.ask ((eqD x8 y9).bind bOf)); seqF (if t58 = true then (k__law_due_3125_0 a1) else (pure (.nx ()))) fun (q10 : Unit) => (k__law_due_3125_2 a1))) := rfl
def b__law_due_3125 (a0 a1 : D) : R (Fl Unit Empty) := (k__law_due_3125_3 a0 a1)
theorem e__law_due_3125 (a0 a1 : D) : b__law_due_3125 a0 a1 = (do let t59 ← (DL.ask ((eqD a0 (.str [108, 97, 98, 101, 108])).bind bOf)); seqF (if t59 = true then (do let v7 ← (Mo.lift (m__law_is_glob_a031 [a1])); pure (.rt v7)) else (pure (.nx ()))) fun (q3 : Unit) => (do let t58 ← (DL.ask ((eqD a0 (.str [104, 111, 115, 116])).bind bOf)); seqF (if t58 = true then (do let _ ← DL.ask (strOf a1); let x13 ← (DL.ask (splitD a1 (.str [46]))); let x22 ← (DL.ask (revD (.lst x13))); let v25 ← (Mo.lift (m__law_are_items_cbe6 [x22, (.int 1), (.int 4), (.int 3), (.int 2)])); pure (.rt v25)) else (pure (.nx ()))) fun (q10 : Unit) => (do let i27 ← DL.ask (intOf (.int 1)); let x31 ← (DL.ask (sliceD a1 none (some i27))); let t57 ← (DL.ask ((neD x31 (.str [47])).bind bOf)); seqF (if t57 = true then (pure (.rt (.bl false))) else (pure (.nx ()))) fun (q33 : Unit) => (do let x53 ← (iteM (DL.ask ((neD a1 (.str [47])).bind bOf)) (mkL (do let i38 ← DL.ask (intOf (.int 1)); let x42 ← (DL.ask (sliceD a1 (some i38) none)); let _ ← DL.ask (strOf x42); DL.ask (splitD x42 (.str [47])))) (mkL (DL.ask (szL [])))); let v56 ← (Mo.lift (m__law_are_items_cbe6 [x53, (.int 0), (.int 3), (.int 2), (.int 2)])); pure (.rt v56))))) := by
  unfold b__law_due_3125; simp only [l__law_due_3125_0, l__law_due_3125_1, l__law_due_3125_2, l__law_due_3125_3, pure_bind, bind_assoc, mkL]
def m__law_due_3125 : List D → R D := apR2 fun a0 a1 => (runR false (b__law_due_3125 a0 a1))
theorem n__law_due_3125 : ∀ ds : List D, m__law_due_3125 ds ≠ .stuck → ds.length = 2 := apR2_len _
def k__law_text_5544_0 (v58 : D) (v72 : D) : M (Fl (D) (Empty)) := (do let v81 ← (do let x120 ← (do let x111 ← (do let x84 ← (pure v58); let l85 ← (pure none); let u86 ← (do let x82 ← (pure v72); let i83 ← DL.ask (intOf x82); pure (some i83)); DL.ask (sliceD x84 l85 u86)); let y112 ← (do let r110 ← (do let x108 ← (mkL (do let r107 ← (do let x105 ← (pure (.str [42])); let r106 ← (do let x103 ← (pure (.str [46])); let r104 ← (do let x101 ← (pure (.str [47])); let r102 ← (do let x99 ← (pure (.str [])); let r100 ← (do let x97 ← (pure (.str [45])); let r98 ← (do let x95 ← (pure (.str [65])); let r96 ← (do let x93 ← (pure (.str [32])); let r94 ← (do let x91 ← (pure (.str [63])); let r92 ← (do let x89 ← (pure (.str [10])); let r90 ← (do let x87 ← (pure (.str [126])); let r88 ← pure []; pure (x87 :: r88)); pure (x89 :: r90)); pure (x91 :: r92)); pure (x93 :: r94)); pure (x95 :: r96)); pure (x97 :: r98)); pure (x99 :: r100)); pure (x101 :: r102)); pure (x103 :: r104)); pure (x105 :: r106)); DL.ask (szL r107))); let r109 ← pure []; pure (x108 :: r109)); m__law_of_bf28 r110); DL.ask (addD x111 y112)); let y121 ← (do let x117 ← (pure v58); let l118 ← (do let x115 ← (do let x113 ← (pure v72); let y114 ← (pure (.int 1)); DL.ask (addD x113 y114)); let i116 ← DL.ask (intOf x115); pure (some i116)); let u119 ← (pure none); DL.ask (sliceD x117 l118 u119)); DL.ask (addD x120 y121)); (pure (.nx v81)))
theorem l__law_text_5544_0 (v58 : D) (v72 : D) : k__law_text_5544_0 v58 v72 = (do let v81 ← (do let x120 ← (do let x111 ← (do let x84 ← (pure v58); let l85 ← (pure none); let u86 ← (do let x82 ← (pure v72); let i83 ← DL.ask (intOf x82); pure (some i83)); DL.ask (sliceD x84 l85 u86)); let y112 ← (do let r110 ← (do let x108 ← (mkL (do let r107 ← (do let x105 ← (pure (.str [42])); let r106 ← (do let x103 ← (pure (.str [46])); let r104 ← (do let x101 ← (pure (.str [47])); let r102 ← (do let x99 ← (pure (.str [])); let r100 ← (do let x97 ← (pure (.str [45])); let r98 ← (do let x95 ← (pure (.str [65])); let r96 ← (do let x93 ← (pure (.str [32])); let r94 ← (do let x91 ← (pure (.str [63])); let r92 ← (do let x89 ← (pure (.str [10])); let r90 ← (do let x87 ← (pure (.str [126])); let r88 ← pure []; pure (x87 :: r88)); pure (x89 :: r90)); pure (x91 :: r92)); pure (x93 :: r94)); pure (x95 :: r96)); pure (x97 :: r98)); pure (x99 :: r100)); pure (x101 :: r102)); pure (x103 :: r104)); pure (x105 :: r106)); DL.ask (szL r107))); let r109 ← pure []; pure (x108 :: r109)); m__law_of_bf28 r110); DL.ask (addD x111 y112)); let y121 ← (do let x117 ← (pure v58); let l118 ← (do let x115 ← (do let x113 ← (pure v72); let y114 ← (pure (.int 1)); DL.ask (addD x113 y114)); let i116 ← DL.ask (intOf x115); pure (some i116)); let u119 ← (pure none); DL.ask (sliceD x117 l118 u119)); DL.ask (addD x120 y121)); (pure (.nx v81))) := rfl
def k__law_text_5544_1 (v58 : D) : M (Fl (Unit) (Empty)) := (do let t123 ← (do let x69 ← (do let r68 ← (do let x66 ← (pure (.int 3)); let r67 ← pure []; pure (x66 :: r67)); m__law_take_6859 r68); let y70 ← (pure (.int 0)); DL.ask ((eqD x69 y70).bind bOf)); seqF (if t123 = true then (do let v72 ← (do let r80 ← (do let x78 ← (do let x76 ← (do let r75 ← (do let x73 ← (pure v58); let r74 ← pure []; pure (x73 :: r74)); DL.ask (lenD r75)); let y77 ← (pure (.int 1)); DL.ask (addD x76 y77)); let r79 ← pure []; pure (x78 :: r79)); m__law_take_6859 r80); (k__law_text_5544_0 v58 v72)) else (pure (.nx v58))) fun (q71 : D) => (do let v122 ← (pure q71); pure (.rt v122)))
theorem l__law_text_5544_1 (v58 : D) : k__law_text_5544_1 v58 = (do let t123 ← (do let x69 ← (do let r68 ← (do let x66 ← (pure (.int 3)); let r67 ← pure []; pure (x66 :: r67)); m__law_take_6859 r68); let y70 ← (pure (.int 0)); DL.ask ((eqD x69 y70).bind bOf)); seqF (if t123 = true then (do let v72 ← (do let r80 ← (do let x78 ← (do let x76 ← (do let r75 ← (do let x73 ← (pure v58); let r74 ← pure []; pure (x73 :: r74)); DL.ask (lenD r75)); let y77 ← (pure (.int 1)); DL.ask (addD x76 y77)); let r79 ← pure []; pure (x78 :: r79)); m__law_take_6859 r80); (k__law_text_5544_0 v58 v72)) else (pure (.nx v58))) fun (q71 : D) => (do let v122 ← (pure q71); pure (.rt v122))) := rfl
def k__law_text_5544_2 (v32 : D) : M (Fl (Unit) (Empty)) := (do let v45 ← (do let x56 ← (do let r55 ← (do let x53 ← (mkL (do let r52 ← (do let x50 ← (pure (.str [46])); let r51 ← (do let x48 ← (pure (.str [47])); let r49 ← (do let x46 ← (pure (.str [46])); let r47 ← pure []; pure (x46 :: r47)); pure (x48 :: r49)); pure (x50 :: r51)); DL.ask (szL r52))); let r54 ← pure []; pure (x53 :: r54)); m__law_of_bf28 r55); let _ ← DL.ask (strOf x56); let y57 ← (pure v32); DL.ask (joinD x56 y57)); (do let v58 ← (iteM (do let x62 ← (do let r61 ← (do let x59 ← (pure (.int 2)); let r60 ← pure []; pure (x59 :: r60)); m__law_take_6859 r61); let y63 ← (pure (.int 0)); DL.ask ((eqD x62 y63).bind bOf)) (pure v45) (do let x64 ← (pure (.str [47])); let y65 ← (pure v45); DL.ask (addD x64 y65))); (k__law_text_5544_1 v58)))
theorem l__law_text_5544_2 (v32 : D) : k__law_text_5544_2 v32 = (do let v45 ← (do let x56 ← (do let r55 ← (do let x53 ← (mkL (do let r52 ← (do let x50 ← (pure (.str [46])); let r51 ← (do let x48 ← (pure (.str [47])); let r49 ← (do let x46 ← (pure (.str [46])); let r47 ← pure []; pure (x46 :: r47)); pure (x48 :: r49)); pure (x50 :: r51)); DL.ask (szL r52))); let r54 ← pure []; pure (x53 :: r54)); m__law_of_bf28 r55); let _ ← DL.ask (strOf x56); let y57 ← (pure v32); DL.ask (joinD x56 y57)); (do let v58 ← (iteM (do let x62 ← (do let r61 ← (do let x59 ← (pure (.int 2)); let r60 ← pure []; pure (x59 :: r60)); m__law_take_6859 r61); let y63 ← (pure (.int 0)); DL.ask ((eqD x62 y63).bind bOf)) (pure v45) (do let x64 ← (pure (.str [47])); let y65 ← (pure v45); DL.ask (addD x64 y65))); (k__law_text_5544_1 v58))) := rfl
def k__law_text_5544_3 (v1 : D) : M (Fl (Unit) (Empty)) := (do let v32 ← mkL (do let r44 ← (do let r38 ← (do let x36 ← (do let r35 ← (do let x33 ← (pure (.int 7)); let r34 ← pure []; pure (x33 :: r34)); m__law_take_6859 r35); let r37 ← pure []; pure (x36 :: r37)); DL.ask (rng1 r38)); lcF (fun d => some d) (fun (c40 : D) => pure true) (fun (c40 : D) => (do let r43 ← (do let x41 ← (pure v1); let r42 ← pure []; pure (x41 :: r42)); m__law_of_bf28 r43)) r44); (k__law_text_5544_2 v32))
theorem l__law_text_5544_3 (v1 : D) : k__law_text_5544_3 v1 = (do let v32 ← mkL (do let r44 ← (do let r38 ← (do let x36 ← (do let r35 ← (do let x33 ← (pure (.int 7)); let r34 ← pure []; pure (x33 :: r34)); m__law_take_6859 r35); let r37 ← pure []; pure (x36 :: r37)); DL.ask (rng1 r38)); lcF (fun d => some d) (fun (c40 : D) => pure true) (fun (c40 : D) => (do let r43 ← (do let x41 ← (pure v1); let r42 ← pure []; pure (x41 :: r42)); m__law_of_bf28 r43)) r44); (k__law_text_5544_2 v32)) := rfl
def k__law_text_5544_4 (a1 : D) : M (Fl (Unit) (Empty)) := (do let v1 ← (do let x30 ← (mkL (do let r12 ← (do let r4 ← (do let x2 ← (pure (.int 2)); let r3 ← pure []; pure (x2 :: r3)); DL.ask (rng1 r4)); lcF (fun d => some d) (fun (c6 : D) => pure true) (fun (c6 : D) => (do let r11 ← (do let x9 ← (pure a1); let r10 ← (do let x7 ← (pure (.int 3)); let r8 ← pure []; pure (x7 :: r8)); pure (x9 :: r10)); m__law_glob_3319 r11)) r12)); let y31 ← (mkL (do let r29 ← (do let x27 ← (pure (.str [42])); let r28 ← (do let x25 ← (pure (.str [42, 42])); let r26 ← (do let x23 ← (do let x20 ← (do let r17 ← (do let x15 ← (pure a1); let r16 ← (do let x13 ← (pure (.int 8)); let r14 ← pure []; pure (x13 :: r14)); pure (x15 :: r16)); m__law_label_f2f9 r17); let l21 ← (pure none); let u22 ← (do let x18 ← (pure (.int 9)); let i19 ← DL.ask (intOf x18); pure (some i19)); DL.ask (sliceD x20 l21 u22)); let r24 ← pure []; pure (x23 :: r24)); pure (x25 :: r26)); pure (x27 :: r28)); DL.ask (szL r29))); DL.ask (addD x30 y31)); (k__law_text_5544_3 v1))
theorem l__law_text_5544_4 (a1 : D) : k__law_text_5544_4 a1 = (do let v1 ← (do let x30 ← (mkL (do let r12 ← (do let r4 ← (do let x2 ← (pure (.int 2)); let r3 ← pure []; pure (x2 :: r3)); DL.ask (rng1 r4)); lcF (fun d => some d) (fun (c6 : D) => pure true) (fun (c6 : D) => (do let r11 ← (do let x9 ← (pure a1); let r10 ← (do let x7 ← (pure (.int 3)); let r8 ← pure []; pure (x7 :: r8)); pure (x9 :: r10)); m__law_glob_3319 r11)) r12)); let y31 ← (mkL (do let r29 ← (do let x27 ← (pure (.str [42])); let r28 ← (do let x25 ← (pure (.str [42, 42])); let r26 ← (do let x23 ← (do let x20 ← (do let r17 ← (do let x15 ← (pure a1); let r16 ← (do let x13 ← (pure (.int 8)); let r14 ← pure []; pure (x13 :: r14)); pure (x15 :: r16)); m__law_label_f2f9 r17); let l21 ← (pure none); let u22 ← (do let x18 ← (pure (.int 9)); let i19 ← DL.ask (intOf x18); pure (some i19)); DL.ask (sliceD x20 l21 u22)); let r24 ← pure []; pure (x23 :: r24)); pure (x25 :: r26)); pure (x27 :: r28)); DL.ask (szL r29))); DL.ask (addD x30 y31)); (k__law_text_5544_3 v1)) := rfl
def b__law_text_5544 (a1 : D) : M (Fl Unit Empty) := (k__law_text_5544_4 a1)
theorem e__law_text_5544 (a1 : D) : b__law_text_5544 a1 = (do let r12 ← (DL.ask (rng1 [(.int 2)])); let x30 ← (lcF (fun d => some d) (fun (c6 : D) => pure true) (fun (c6 : D) => (m__law_glob_3319 [a1, (.int 3)])) r12); let x20 ← (m__law_label_f2f9 [a1, (.int 8)]); let i19 ← DL.ask (intOf (.int 9)); let x23 ← (DL.ask (sliceD x20 none (some i19))); let y31 ← (DL.ask (szL [(.str [42]), (.str [42, 42]), x23])); let v1 ← (DL.ask (addD (.lst x30) (.lst y31))); let x36 ← (m__law_take_6859 [(.int 7)]); let r44 ← (DL.ask (rng1 [x36])); let v32 ← (lcF (fun d => some d) (fun (c40 : D) => pure true) (fun (c40 : D) => (m__law_of_bf28 [v1])) r44); let x53 ← (DL.ask (szL [(.str [46]), (.str [47]), (.str [46])])); let x56 ← (m__law_of_bf28 [(.lst x53)]); let _ ← DL.ask (strOf x56); let v45 ← (DL.ask (joinD x56 (.lst v32))); let v58 ← (iteM (do let x62 ← (m__law_take_6859 [(.int 2)]); DL.ask ((eqD x62 (.int 0)).bind bOf)) (pure v45) (DL.ask (addD (.str [47]) v45))); let x69 ← (m__law_take_6859 [(.int 3)]); let t123 ← (DL.ask ((eqD x69 (.int 0)).bind bOf)); seqF (if t123 = true then (do let x76 ← (DL.ask (lenD [v58])); let x78 ← (DL.ask (addD x76 (.int 1))); let v72 ← (m__law_take_6859 [x78]); let i83 ← DL.ask (intOf v72); let x111 ← (DL.ask (sliceD v58 none (some i83))); let x108 ← (DL.ask (szL [(.str [42]), (.str [46]), (.str [47]), (.str []), (.str [45]), (.str [65]), (.str [32]), (.str [63]), (.str [10]), (.str [126])])); let y112 ← (m__law_of_bf28 [(.lst x108)]); let x120 ← (DL.ask (addD x111 y112)); let x115 ← (DL.ask (addD v72 (.int 1))); let i116 ← DL.ask (intOf x115); let y121 ← (DL.ask (sliceD v58 (some i116) none)); let v81 ← (DL.ask (addD x120 y121)); (pure (.nx v81))) else (pure (.nx v58))) fun (q71 : D) => (pure (.rt q71))) := by
  unfold b__law_text_5544; simp only [l__law_text_5544_0, l__law_text_5544_1, l__law_text_5544_2, l__law_text_5544_3, l__law_text_5544_4, pure_bind, bind_assoc, mkL]
def m__law_text_5544 : List D → M D := apM1 fun a1 => (runM false (b__law_text_5544 a1))
theorem n__law_text_5544 : ∀ ds s, m__law_text_5544 ds s ≠ .stuck → ds.length = 1 := apM1_len _
def k__law_asked_f01d_0 (a1 : D) : R (Fl (Unit) (Empty)) := (do let v16 ← (mkL (do let r15 ← (do let x13 ← (pure (.str [109, 97, 100, 101])); let r14 ← (do let x11 ← (do let x10 ← (do let r8 ← (do let x6 ← (pure a1); let r7 ← pure []; pure (x6 :: r7)); let o9 ← Mo.lift (m_LabelPattern_init_02ae r8); pure (D.ins "LabelPattern" ["text", "level", "head", "tail", "gap"] o9)); DL.ask (fldD ["LabelPattern", "HostPattern", "PathPattern"] "text" x10)); let r12 ← pure []; pure (x11 :: r12)); pure (x13 :: r14)); DL.ask (szL r15))); pure (.rt v16))
theorem l__law_asked_f01d_0 (a1 : D) : k__law_asked_f01d_0 a1 = (do let v16 ← (mkL (do let r15 ← (do let x13 ← (pure (.str [109, 97, 100, 101])); let r14 ← (do let x11 ← (do let x10 ← (do let r8 ← (do let x6 ← (pure a1); let r7 ← pure []; pure (x6 :: r7)); let o9 ← Mo.lift (m_LabelPattern_init_02ae r8); pure (D.ins "LabelPattern" ["text", "level", "head", "tail", "gap"] o9)); DL.ask (fldD ["LabelPattern", "HostPattern", "PathPattern"] "text" x10)); let r12 ← pure []; pure (x11 :: r12)); pure (x13 :: r14)); DL.ask (szL r15))); pure (.rt v16)) := rfl
def k__law_asked_f01d_1 (a0 : D) (a1 : D) : R (Fl (Unit) (Empty)) := (do let v34 ← (mkL (do let r33 ← (do let x31 ← (pure (.str [109, 97, 100, 101])); let r32 ← (do let x29 ← (iteM (do let x17 ← (pure a0); let y18 ← (pure (.str [104, 111, 115, 116])); DL.ask ((eqD x17 y18).bind bOf)) (do let x23 ← (do let r21 ← (do let x19 ← (pure a1); let r20 ← pure []; pure (x19 :: r20)); let o22 ← Mo.lift (m_HostPattern_init_23dd r21); pure (D.ins "HostPattern" ["text", "level", "head", "tail", "gap"] o22)); DL.ask (fldD ["LabelPattern", "HostPattern", "PathPattern"] "text" x23)) (do let x28 ← (do let r26 ← (do let x24 ← (pure a1); let r25 ← pure []; pure (x24 :: r25)); let o27 ← Mo.lift (m_PathPattern_init_28de r26); pure (D.ins "PathPattern" ["text", "level", "head", "tail", "gap"] o27)); DL.ask (fldD ["LabelPattern", "HostPattern", "PathPattern"] "text" x28))); let r30 ← pure []; pure (x29 :: r30)); pure (x31 :: r32)); DL.ask (szL r33))); pure (.rt v34))
theorem l__law_asked_f01d_1 (a0 : D) (a1 : D) : k__law_asked_f01d_1 a0 a1 = (do let v34 ← (mkL (do let r33 ← (do let x31 ← (pure (.str [109, 97, 100, 101])); let r32 ← (do let x29 ← (iteM (do let x17 ← (pure a0); let y18 ← (pure (.str [104, 111, 115, 116])); DL.ask ((eqD x17 y18).bind bOf)) (do let x23 ← (do let r21 ← (do let x19 ← (pure a1); let r20 ← pure []; pure (x19 :: r20)); let o22 ← Mo.lift (m_HostPattern_init_23dd r21); pure (D.ins "HostPattern" ["text", "level", "head", "tail", "gap"] o22)); DL.ask (fldD ["LabelPattern", "HostPattern", "PathPattern"] "text" x23)) (do let x28 ← (do let r26 ← (do let x24 ← (pure a1); let r25 ← pure []; pure (x24 :: r25)); let o27 ← Mo.lift (m_PathPattern_init_28de r26); pure (D.ins "PathPattern" ["text", "level", "head", "tail", "gap"] o27)); DL.ask (fldD ["LabelPattern", "HostPattern", "PathPattern"] "text" x28))); let r30 ← pure []; pure (x29 :: r30)); pure (x31 :: r32)); DL.ask (szL r33))); pure (.rt v34)) := rfl
def k__law_asked_f01d_2 (e36 : D) : R (Fl (Unit) (Empty)) := (do let v46 ← (mkL (do let r45 ← (do let x43 ← (pure (.str [114, 101, 102, 117, 115, 101, 100])); let r44 ← (do let x41 ← (pure e36); let r42 ← (do let x39 ← (pure (.bl true)); let r40 ← (do let x37 ← (pure (.bl false)); let r38 ← pure []; pure (x37 :: r38)); pure (x39 :: r40)); pure (x41 :: r42)); pure (x43 :: r44)); DL.ask (szL r45))); pure (.rt v46))
theorem l__law_asked_f01d_2 (e36 : D) : k__law_asked_f01d_2 e36 = (do let v46 ← (mkL (do let r45 ← (do let x43 ← (pure (.str [114, 101, 102, 117, 115, 101, 100])); let r44 ← (do let x41 ← (pure e36); let r42 ← (do let x39 ← (pure (.bl true)); let r40 ← (do let x37 ← (pure (.bl false)); let r38 ← pure []; pure (x37 :: r38)); pure (x39 :: r40)); pure (x41 :: r42)); pure (x43 :: r44)); DL.ask (szL r45))); pure (.rt v46)) := rfl
def k__law_asked_f01d_3 (a0 : D) (a1 : D) : R (Fl (Unit) (Empty)) := (seqF (tryFs [("BadItem", "item"), ("BadPattern", "pattern")] (do let t35 ← (do let x3 ← (pure a0); let y4 ← (pure (.str [108, 97, 98, 101, 108])); DL.ask ((eqD x3 y4).bind bOf)); seqF (if t35 = true then (k__law_asked_f01d_0 a1) else (pure (.nx ()))) fun (q5 : Unit) => (k__law_asked_f01d_1 a0 a1)) [("BadPattern", fun e36 => (k__law_asked_f01d_2 e36))]) fun (q1 : Unit) => (pure (.nx ())))
theorem l__law_asked_f01d_3 (a0 : D) (a1 : D) : k__law_asked_f01d_3 a0 a1 = (seqF (tryFs [("BadItem", "item"), ("BadPattern", "pattern")] (do let t35 ← (do let x3 ← (pure a0); let y4 ← (pure (.str [108, 97, 98, 101, 108])); DL.ask ((eqD x3 y4).bind bOf)); seqF (if t35 = true then (k__law_asked_f01d_0 a1) else (pure (.nx ()))) fun (q5 : Unit) => (k__law_asked_f01d_1 a0 a1)) [("BadPattern", fun e36 => (k__law_asked_f01d_2 e36))]) fun (q1 : Unit) => (pure (.nx ()))) := rfl
def b__law_asked_f01d (a0 a1 : D) : R (Fl Unit Empty) := (k__law_asked_f01d_3 a0 a1)
theorem e__law_asked_f01d (a0 a1 : D) : b__law_asked_f01d a0 a1 = (seqF (tryFs [("BadItem", "item"), ("BadPattern", "pattern")] (do let t35 ← (DL.ask ((eqD a0 (.str [108, 97, 98, 101, 108])).bind bOf)); seqF (if t35 = true then (do let o9 ← Mo.lift (m_LabelPattern_init_02ae [a1]); let x11 ← (DL.ask (fldD ["LabelPattern", "HostPattern", "PathPattern"] "text" (D.ins "LabelPattern" ["text", "level", "head", "tail", "gap"] o9))); let v16 ← (DL.ask (szL [(.str [109, 97, 100, 101]), x11])); pure (.rt (.lst v16))) else (pure (.nx ()))) fun (q5 : Unit) => (do let x29 ← (iteM (DL.ask ((eqD a0 (.str [104, 111, 115, 116])).bind bOf)) (do let o22 ← Mo.lift (m_HostPattern_init_23dd [a1]); DL.ask (fldD ["LabelPattern", "HostPattern", "PathPattern"] "text" (D.ins "HostPattern" ["text", "level", "head", "tail", "gap"] o22))) (do let o27 ← Mo.lift (m_PathPattern_init_28de [a1]); DL.ask (fldD ["LabelPattern", "HostPattern", "PathPattern"] "text" (D.ins "PathPattern" ["text", "level", "head", "tail", "gap"] o27)))); let v34 ← (DL.ask (szL [(.str [109, 97, 100, 101]), x29])); pure (.rt (.lst v34)))) [("BadPattern", fun e36 => (do let v46 ← (DL.ask (szL [(.str [114, 101, 102, 117, 115, 101, 100]), e36, (.bl true), (.bl false)])); pure (.rt (.lst v46))))]) fun (q1 : Unit) => (pure (.nx ()))) := by
  unfold b__law_asked_f01d; simp only [l__law_asked_f01d_0, l__law_asked_f01d_1, l__law_asked_f01d_2, l__law_asked_f01d_3, pure_bind, bind_assoc, mkL]
def m__law_asked_f01d : List D → R D := apR2 fun a0 a1 => (runR false (b__law_asked_f01d a0 a1))
theorem n__law_asked_f01d : ∀ ds : List D, m__law_asked_f01d ds ≠ .stuck → ds.length = 2 := apR2_len _
def k_law_8576_0 (c49 : D) (v36 : D) (v50 : D) : M (Fl (Unit) (Unit)) := (do let t86 ← (do let x82 ← (do let r78 ← (do let x76 ← (do let r75 ← (do let x73 ← (pure c49); let r74 ← (do let x71 ← (pure v36); let r72 ← pure []; pure (x71 :: r72)); pure (x73 :: r74)); Mo.lift (m__law_asked_f01d r75)); let r77 ← pure []; pure (x76 :: r77)); DL.ask (reprD r78)); let y83 ← (do let r81 ← (do let x79 ← (pure v50); let r80 ← pure []; pure (x79 :: r80)); DL.ask (reprD r81)); DL.ask ((neD x82 y83).bind bOf)); seqF (if t86 = true then (do let v85 ← (pure (.bl false)); pure (.rt v85)) else (pure (.nx ()))) fun (q84 : Unit) => (pure (.nx ())))
theorem l_law_8576_0 (c49 : D) (v36 : D) (v50 : D) : k_law_8576_0 c49 v36 v50 = (do let t86 ← (do let x82 ← (do let r78 ← (do let x76 ← (do let r75 ← (do let x73 ← (pure c49); let r74 ← (do let x71 ← (pure v36); let r72 ← pure []; pure (x71 :: r72)); pure (x73 :: r74)); Mo.lift (m__law_asked_f01d r75)); let r77 ← pure []; pure (x76 :: r77)); DL.ask (reprD r78)); let y83 ← (do let r81 ← (do let x79 ← (pure v50); let r80 ← pure []; pure (x79 :: r80)); DL.ask (reprD r81)); DL.ask ((neD x82 y83).bind bOf)); seqF (if t86 = true then (do let v85 ← (pure (.bl false)); pure (.rt v85)) else (pure (.nx ()))) fun (q84 : Unit) => (pure (.nx ()))) := rfl
def k_law_8576_1 (c49 : D) (v36 : D) : M (Fl (Unit) (Unit)) := (do let v50 ← (iteM (do let x56 ← (do let r55 ← (do let x53 ← (pure c49); let r54 ← (do let x51 ← (pure v36); let r52 ← pure []; pure (x51 :: r52)); pure (x53 :: r54)); Mo.lift (m__law_due_3125 r55)); DL.ask (truD x56)) (mkL (do let r61 ← (do let x59 ← (pure (.str [109, 97, 100, 101])); let r60 ← (do let x57 ← (pure v36); let r58 ← pure []; pure (x57 :: r58)); pure (x59 :: r60)); DL.ask (szL r61))) (mkL (do let r70 ← (do let x68 ← (pure (.str [114, 101, 102, 117, 115, 101, 100])); let r69 ← (do let x66 ← (pure v36); let r67 ← (do let x64 ← (pure (.bl true)); let r65 ← (do let x62 ← (pure (.bl false)); let r63 ← pure []; pure (x62 :: r63)); pure (x64 :: r65)); pure (x66 :: r67)); pure (x68 :: r69)); DL.ask (szL r70)))); (k_law_8576_0 c49 v36 v50))
theorem l_law_8576_1 (c49 : D) (v36 : D) : k_law_8576_1 c49 v36 = (do let v50 ← (iteM (do let x56 ← (do let r55 ← (do let x53 ← (pure c49); let r54 ← (do let x51 ← (pure v36); let r52 ← pure []; pure (x51 :: r52)); pure (x53 :: r54)); Mo.lift (m__law_due_3125 r55)); DL.ask (truD x56)) (mkL (do let r61 ← (do let x59 ← (pure (.str [109, 97, 100, 101])); let r60 ← (do let x57 ← (pure v36); let r58 ← pure []; pure (x57 :: r58)); pure (x59 :: r60)); DL.ask (szL r61))) (mkL (do let r70 ← (do let x68 ← (pure (.str [114, 101, 102, 117, 115, 101, 100])); let r69 ← (do let x66 ← (pure v36); let r67 ← (do let x64 ← (pure (.bl true)); let r65 ← (do let x62 ← (pure (.bl false)); let r63 ← pure []; pure (x62 :: r63)); pure (x64 :: r65)); pure (x66 :: r67)); pure (x68 :: r69)); DL.ask (szL r70)))); (k_law_8576_0 c49 v36 v50)) := rfl
def k_law_8576_2 (v36 : D) : M (Fl (Unit) (Unit)) := (do let r88 ← (do let r47 ← (mkL (do let r46 ← (do let x44 ← (pure (.str [108, 97, 98, 101, 108])); let r45 ← (do let x42 ← (pure (.str [104, 111, 115, 116])); let r43 ← (do let x40 ← (pure (.str [112, 97, 116, 104])); let r41 ← pure []; pure (x40 :: r41)); pure (x42 :: r43)); pure (x44 :: r45)); DL.ask (szL r46))); DL.ask (itD r47)); seqF (forF (fun d => some d) (fun (q48 : Unit) (c49 : D) => (k_law_8576_1 c49 v36)) r88 ()) fun (q87 : Unit) => (pure (.nx ())))
theorem l_law_8576_2 (v36 : D) : k_law_8576_2 v36 = (do let r88 ← (do let r47 ← (mkL (do let r46 ← (do let x44 ← (pure (.str [108, 97, 98, 101, 108])); let r45 ← (do let x42 ← (pure (.str [104, 111, 115, 116])); let r43 ← (do let x40 ← (pure (.str [112, 97, 116, 104])); let r41 ← pure []; pure (x40 :: r41)); pure (x42 :: r43)); pure (x44 :: r45)); DL.ask (szL r46))); DL.ask (itD r47)); seqF (forF (fun d => some d) (fun (q48 : Unit) (c49 : D) => (k_law_8576_1 c49 v36)) r88 ()) fun (q87 : Unit) => (pure (.nx ()))) := rfl
def k_law_8576_3 (v27 : D) : M (Fl (Unit) (Unit)) := (do let r90 ← (do let r33 ← (do let x31 ← (pure (.int 6)); let r32 ← pure []; pure (x31 :: r32)); DL.ask (rng1 r33)); seqF (forF (fun d => some d) (fun (q34 : Unit) (c35 : D) => (do let v36 ← (do let r39 ← (do let x37 ← (pure v27); let r38 ← pure []; pure (x37 :: r38)); m__law_text_5544 r39); (k_law_8576_2 v36))) r90 ()) fun (q89 : Unit) => (pure (.nx ())))
theorem l_law_8576_3 (v27 : D) : k_law_8576_3 v27 = (do let r90 ← (do let r33 ← (do let x31 ← (pure (.int 6)); let r32 ← pure []; pure (x31 :: r32)); DL.ask (rng1 r33)); seqF (forF (fun d => some d) (fun (q34 : Unit) (c35 : D) => (do let v36 ← (do let r39 ← (do let x37 ← (pure v27); let r38 ← pure []; pure (x37 :: r38)); m__law_text_5544 r39); (k_law_8576_2 v36))) r90 ()) fun (q89 : Unit) => (pure (.nx ()))) := rfl
def k_law_8576_4 (a0 : D) (c18 : D) : R (Fl (Unit) (Unit)) := (do let v19 ← (do let r24 ← (do let x22 ← (pure a0); let r23 ← (do let x20 ← (pure c18); let r21 ← pure []; pure (x20 :: r21)); pure (x22 :: r23)); let r25 ← Mo.lift (m__law_bag_fbbe r24); DL.ask (lstOf r25)); withBag (.lst v19) (do let v27 ← (do let r30 ← (do let x28 ← (pure (.int 2)); let r29 ← pure []; pure (x28 :: r29)); m__law_signs_3c02 r30); (k_law_8576_3 v27)))
theorem l_law_8576_4 (a0 : D) (c18 : D) : k_law_8576_4 a0 c18 = (do let v19 ← (do let r24 ← (do let x22 ← (pure a0); let r23 ← (do let x20 ← (pure c18); let r21 ← pure []; pure (x20 :: r21)); pure (x22 :: r23)); let r25 ← Mo.lift (m__law_bag_fbbe r24); DL.ask (lstOf r25)); withBag (.lst v19) (do let v27 ← (do let r30 ← (do let x28 ← (pure (.int 2)); let r29 ← pure []; pure (x28 :: r29)); m__law_signs_3c02 r30); (k_law_8576_3 v27))) := rfl
def k_law_8576_5 (c149 : D) (c139 : D) : R (Fl (Unit) (Unit)) := (do let t174 ← (do let x170 ← (do let r157 ← (do let x155 ← (do let r154 ← (do let x152 ← (pure c149); let r153 ← (do let x150 ← (pure c139); let r151 ← pure []; pure (x150 :: r151)); pure (x152 :: r153)); Mo.lift (m__law_asked_f01d r154)); let r156 ← pure []; pure (x155 :: r156)); DL.ask (reprD r157)); let y171 ← (do let r169 ← (do let x167 ← (mkL (do let r166 ← (do let x164 ← (pure (.str [114, 101, 102, 117, 115, 101, 100])); let r165 ← (do let x162 ← (pure c139); let r163 ← (do let x160 ← (pure (.bl true)); let r161 ← (do let x158 ← (pure (.bl false)); let r159 ← pure []; pure (x158 :: r159)); pure (x160 :: r161)); pure (x162 :: r163)); pure (x164 :: r165)); DL.ask (szL r166))); let r168 ← pure []; pure (x167 :: r168)); DL.ask (reprD r169)); DL.ask ((neD x170 y171).bind bOf)); seqF (if t174 = true then (do let v173 ← (pure (.bl false)); pure (.rt v173)) else (pure (.nx ()))) fun (q172 : Unit) => (pure (.nx ())))
theorem l_law_8576_5 (c149 : D) (c139 : D) : k_law_8576_5 c149 c139 = (do let t174 ← (do let x170 ← (do let r157 ← (do let x155 ← (do let r154 ← (do let x152 ← (pure c149); let r153 ← (do let x150 ← (pure c139); let r151 ← pure []; pure (x150 :: r151)); pure (x152 :: r153)); Mo.lift (m__law_asked_f01d r154)); let r156 ← pure []; pure (x155 :: r156)); DL.ask (reprD r157)); let y171 ← (do let r169 ← (do let x167 ← (mkL (do let r166 ← (do let x164 ← (pure (.str [114, 101, 102, 117, 115, 101, 100])); let r165 ← (do let x162 ← (pure c139); let r163 ← (do let x160 ← (pure (.bl true)); let r161 ← (do let x158 ← (pure (.bl false)); let r159 ← pure []; pure (x158 :: r159)); pure (x160 :: r161)); pure (x162 :: r163)); pure (x164 :: r165)); DL.ask (szL r166))); let r168 ← pure []; pure (x167 :: r168)); DL.ask (reprD r169)); DL.ask ((neD x170 y171).bind bOf)); seqF (if t174 = true then (do let v173 ← (pure (.bl false)); pure (.rt v173)) else (pure (.nx ()))) fun (q172 : Unit) => (pure (.nx ()))) := rfl
def k_law_8576_6 (c139 : D) : R (Fl (Unit) (Unit)) := (do let r176 ← (do let r147 ← (mkL (do let r146 ← (do let x144 ← (pure (.str [108, 97, 98, 101, 108])); let r145 ← (do let x142 ← (pure (.str [104, 111, 115, 116])); let r143 ← (do let x140 ← (pure (.str [112, 97, 116, 104])); let r141 ← pure []; pure (x140 :: r141)); pure (x142 :: r143)); pure (x144 :: r145)); DL.ask (szL r146))); DL.ask (itD r147)); seqF (forF (fun d => some d) (fun (q148 : Unit) (c149 : D) => (k_law_8576_5 c149 c139)) r176 ()) fun (q175 : Unit) => (pure (.nx ())))
theorem l_law_8576_6 (c139 : D) : k_law_8576_6 c139 = (do let r176 ← (do let r147 ← (mkL (do let r146 ← (do let x144 ← (pure (.str [108, 97, 98, 101, 108])); let r145 ← (do let x142 ← (pure (.str [104, 111, 115, 116])); let r143 ← (do let x140 ← (pure (.str [112, 97, 116, 104])); let r141 ← pure []; pure (x140 :: r141)); pure (x142 :: r143)); pure (x144 :: r145)); DL.ask (szL r146))); DL.ask (itD r147)); seqF (forF (fun d => some d) (fun (q148 : Unit) (c149 : D) => (k_law_8576_5 c149 c139)) r176 ()) fun (q175 : Unit) => (pure (.nx ()))) := rfl
def k_law_8576_7 : R (Fl (Unit) (Empty)) := (do let v196 ← (andV (do let r182 ← (do let x180 ← (pure (.str [104, 111, 115, 116])); let r181 ← (do let x178 ← (pure (.str [97, 46, 98, 46, 42, 42, 46, 99, 46, 100, 46, 101])); let r179 ← pure []; pure (x178 :: r179)); pure (x180 :: r181)); Mo.lift (m__law_due_3125 r182)) (do let x194 ← (do let x187 ← (do let r185 ← (do let x183 ← (pure (.str [97, 46, 98, 46, 42, 42, 46, 99, 46, 100, 46, 101])); let r184 ← pure []; pure (x183 :: r184)); let o186 ← Mo.lift (m_HostPattern_init_23dd r185); pure (D.ins "HostPattern" ["text", "level", "head", "tail", "gap"] o186)); DL.ask (fldD ["LabelPattern", "HostPattern", "PathPattern"] "tail" x187)); let y195 ← (do let r192 ← (do let x190 ← (pure (.str [98])); let r191 ← (do let x188 ← (pure (.str [97])); let r189 ← pure []; pure (x188 :: r189)); pure (x190 :: r191)); let r193 ← DL.ask (szL r192); pure (.tup r193)); DL.ask (eqD x194 y195))); pure (.rt v196))
theorem l_law_8576_7 : k_law_8576_7 = (do let v196 ← (andV (do let r182 ← (do let x180 ← (pure (.str [104, 111, 115, 116])); let r181 ← (do let x178 ← (pure (.str [97, 46, 98, 46, 42, 42, 46, 99, 46, 100, 46, 101])); let r179 ← pure []; pure (x178 :: r179)); pure (x180 :: r181)); Mo.lift (m__law_due_3125 r182)) (do let x194 ← (do let x187 ← (do let r185 ← (do let x183 ← (pure (.str [97, 46, 98, 46, 42, 42, 46, 99, 46, 100, 46, 101])); let r184 ← pure []; pure (x183 :: r184)); let o186 ← Mo.lift (m_HostPattern_init_23dd r185); pure (D.ins "HostPattern" ["text", "level", "head", "tail", "gap"] o186)); DL.ask (fldD ["LabelPattern", "HostPattern", "PathPattern"] "tail" x187)); let y195 ← (do let r192 ← (do let x190 ← (pure (.str [98])); let r191 ← (do let x188 ← (pure (.str [97])); let r189 ← pure []; pure (x188 :: r189)); pure (x190 :: r191)); let r193 ← DL.ask (szL r192); pure (.tup r193)); DL.ask (eqD x194 y195))); pure (.rt v196)) := rfl
def k_law_8576_8 : R (Fl (Unit) (Empty)) := (do let r197 ← (do let r137 ← (mkL (do let r136 ← (do let x134 ← (pure .non); let r135 ← (do let x132 ← (pure (.bl true)); let r133 ← (do let x130 ← (pure (.int 0)); let r131 ← (do let x128 ← (pure (.int 1)); let r129 ← (do let x126 ← (do let r92 ← pure []; let r93 ← DL.ask (szL r92); pure (.tup r93)); let r127 ← (do let x124 ← (mkL (do let r96 ← (do let x94 ← (pure (.str [97])); let r95 ← pure []; pure (x94 :: r95)); DL.ask (szL r96))); let r125 ← (do let x122 ← (do let r99 ← (do let x97 ← (pure (.str [97])); let r98 ← pure []; pure (x97 :: r98)); let r100 ← DL.ask (szL r99); pure (.tup r100)); let r123 ← (do let x120 ← (mkL (do let r103 ← (do let x101 ← (pure (.str [47])); let r102 ← pure []; pure (x101 :: r102)); DL.ask (szL r103))); let r121 ← (do let x118 ← (do let x104 ← (pure (.int 1)); DL.ask (negD x104)); let r119 ← (do let x116 ← (do let r107 ← (do let x105 ← (pure (.str [47])); let r106 ← pure []; pure (x105 :: r106)); let r108 ← DL.ask (szL r107); pure (.tup r108)); let r117 ← (do let x114 ← (mkL (do let r113 ← (do let x111 ← (do let r109 ← pure []; let r110 ← DL.ask (szL r109); pure (.tup r110)); let r112 ← pure []; pure (x111 :: r112)); DL.ask (szL r113))); let r115 ← pure []; pure (x114 :: r115)); pure (x116 :: r117)); pure (x118 :: r119)); pure (x120 :: r121)); pure (x122 :: r123)); pure (x124 :: r125)); pure (x126 :: r127)); pure (x128 :: r129)); pure (x130 :: r131)); pure (x132 :: r133)); pure (x134 :: r135)); DL.ask (szL r136))); DL.ask (itD r137)); seqF (forF (fun d => some d) (fun (q138 : Unit) (c139 : D) => (k_law_8576_6 c139)) r197 ()) fun (q177 : Unit) => (k_law_8576_7))
theorem l_law_8576_8 : k_law_8576_8 = (do let r197 ← (do let r137 ← (mkL (do let r136 ← (do let x134 ← (pure .non); let r135 ← (do let x132 ← (pure (.bl true)); let r133 ← (do let x130 ← (pure (.int 0)); let r131 ← (do let x128 ← (pure (.int 1)); let r129 ← (do let x126 ← (do let r92 ← pure []; let r93 ← DL.ask (szL r92); pure (.tup r93)); let r127 ← (do let x124 ← (mkL (do let r96 ← (do let x94 ← (pure (.str [97])); let r95 ← pure []; pure (x94 :: r95)); DL.ask (szL r96))); let r125 ← (do let x122 ← (do let r99 ← (do let x97 ← (pure (.str [97])); let r98 ← pure []; pure (x97 :: r98)); let r100 ← DL.ask (szL r99); pure (.tup r100)); let r123 ← (do let x120 ← (mkL (do let r103 ← (do let x101 ← (pure (.str [47])); let r102 ← pure []; pure (x101 :: r102)); DL.ask (szL r103))); let r121 ← (do let x118 ← (do let x104 ← (pure (.int 1)); DL.ask (negD x104)); let r119 ← (do let x116 ← (do let r107 ← (do let x105 ← (pure (.str [47])); let r106 ← pure []; pure (x105 :: r106)); let r108 ← DL.ask (szL r107); pure (.tup r108)); let r117 ← (do let x114 ← (mkL (do let r113 ← (do let x111 ← (do let r109 ← pure []; let r110 ← DL.ask (szL r109); pure (.tup r110)); let r112 ← pure []; pure (x111 :: r112)); DL.ask (szL r113))); let r115 ← pure []; pure (x114 :: r115)); pure (x116 :: r117)); pure (x118 :: r119)); pure (x120 :: r121)); pure (x122 :: r123)); pure (x124 :: r125)); pure (x126 :: r127)); pure (x128 :: r129)); pure (x130 :: r131)); pure (x132 :: r133)); pure (x134 :: r135)); DL.ask (szL r136))); DL.ask (itD r137)); seqF (forF (fun d => some d) (fun (q138 : Unit) (c139 : D) => (k_law_8576_6 c139)) r197 ()) fun (q177 : Unit) => (k_law_8576_7)) := rfl
def k_law_8576_9 (a0 : D) : R (Fl (Unit) (Empty)) := (do let r198 ← (do let r16 ← (do let x14 ← (do let r13 ← (do let x11 ← (pure (.int 1)); let r12 ← (do let x9 ← (do let r8 ← (do let x6 ← (pure (.int 6)); let r7 ← (do let x4 ← (do let r3 ← (do let x1 ← (pure a0); let r2 ← pure []; pure (x1 :: r2)); DL.ask (lenD r3)); let r5 ← pure []; pure (x4 :: r5)); pure (x6 :: r7)); DL.ask (minD r8)); let r10 ← pure []; pure (x9 :: r10)); pure (x11 :: r12)); DL.ask (maxD r13)); let r15 ← pure []; pure (x14 :: r15)); DL.ask (rng1 r16)); seqF (forF (fun d => some d) (fun (q17 : Unit) (c18 : D) => (k_law_8576_4 a0 c18)) r198 ()) fun (q91 : Unit) => (k_law_8576_8))
theorem l_law_8576_9 (a0 : D) : k_law_8576_9 a0 = (do let r198 ← (do let r16 ← (do let x14 ← (do let r13 ← (do let x11 ← (pure (.int 1)); let r12 ← (do let x9 ← (do let r8 ← (do let x6 ← (pure (.int 6)); let r7 ← (do let x4 ← (do let r3 ← (do let x1 ← (pure a0); let r2 ← pure []; pure (x1 :: r2)); DL.ask (lenD r3)); let r5 ← pure []; pure (x4 :: r5)); pure (x6 :: r7)); DL.ask (minD r8)); let r10 ← pure []; pure (x9 :: r10)); pure (x11 :: r12)); DL.ask (maxD r13)); let r15 ← pure []; pure (x14 :: r15)); DL.ask (rng1 r16)); seqF (forF (fun d => some d) (fun (q17 : Unit) (c18 : D) => (k_law_8576_4 a0 c18)) r198 ()) fun (q91 : Unit) => (k_law_8576_8)) := rfl
def b_law_8576 (a0 : D) : R (Fl Unit Empty) := (k_law_8576_9 a0)
theorem e_law_8576 (a0 : D) : b_law_8576 a0 = (do let x4 ← (DL.ask (lenD [a0])); let x9 ← (DL.ask (minD [(.int 6), x4])); let x14 ← (DL.ask (maxD [(.int 1), x9])); let r198 ← (DL.ask (rng1 [x14])); seqF (forF (fun d => some d) (fun (q17 : Unit) (c18 : D) => (do let r25 ← Mo.lift (m__law_bag_fbbe [a0, c18]); let v19 ← (DL.ask (lstOf r25)); withBag (.lst v19) (do let v27 ← (m__law_signs_3c02 [(.int 2)]); let r90 ← (DL.ask (rng1 [(.int 6)])); seqF (forF (fun d => some d) (fun (q34 : Unit) (c35 : D) => (do let v36 ← (m__law_text_5544 [v27]); let r47 ← (DL.ask (szL [(.str [108, 97, 98, 101, 108]), (.str [104, 111, 115, 116]), (.str [112, 97, 116, 104])])); let r88 ← (DL.ask (itD (.lst r47))); seqF (forF (fun d => some d) (fun (q48 : Unit) (c49 : D) => (do let v50 ← (iteM (do let x56 ← (Mo.lift (m__law_due_3125 [c49, v36])); DL.ask (truD x56)) (mkL (DL.ask (szL [(.str [109, 97, 100, 101]), v36]))) (mkL (DL.ask (szL [(.str [114, 101, 102, 117, 115, 101, 100]), v36, (.bl true), (.bl false)])))); let x76 ← (Mo.lift (m__law_asked_f01d [c49, v36])); let x82 ← (DL.ask (reprD [x76])); let y83 ← (DL.ask (reprD [v50])); let t86 ← (DL.ask ((neD x82 y83).bind bOf)); seqF (if t86 = true then (pure (.rt (.bl false))) else (pure (.nx ()))) fun (q84 : Unit) => (pure (.nx ())))) r88 ()) fun (q87 : Unit) => (pure (.nx ())))) r90 ()) fun (q89 : Unit) => (pure (.nx ()))))) r198 ()) fun (q91 : Unit) => (do let r93 ← DL.ask (szL []); let x124 ← (DL.ask (szL [(.str [97])])); let r100 ← DL.ask (szL [(.str [97])]); let x120 ← (DL.ask (szL [(.str [47])])); let x118 ← (DL.ask (negD (.int 1))); let r108 ← DL.ask (szL [(.str [47])]); let r110 ← DL.ask (szL []); let x114 ← (DL.ask (szL [(.tup r110)])); let r137 ← (DL.ask (szL [.non, (.bl true), (.int 0), (.int 1), (.tup r93), (.lst x124), (.tup r100), (.lst x120), x118, (.tup r108), (.lst x114)])); let r197 ← (DL.ask (itD (.lst r137))); seqF (forF (fun d => some d) (fun (q138 : Unit) (c139 : D) => (do let r147 ← (DL.ask (szL [(.str [108, 97, 98, 101, 108]), (.str [104, 111, 115, 116]), (.str [112, 97, 116, 104])])); let r176 ← (DL.ask (itD (.lst r147))); seqF (forF (fun d => some d) (fun (q148 : Unit) (c149 : D) => (do let x155 ← (Mo.lift (m__law_asked_f01d [c149, c139])); let x170 ← (DL.ask (reprD [x155])); let x167 ← (DL.ask (szL [(.str [114, 101, 102, 117, 115, 101, 100]), c139, (.bl true), (.bl false)])); let y171 ← (DL.ask (reprD [(.lst x167)])); let t174 ← (DL.ask ((neD x170 y171).bind bOf)); seqF (if t174 = true then (pure (.rt (.bl false))) else (pure (.nx ()))) fun (q172 : Unit) => (pure (.nx ())))) r176 ()) fun (q175 : Unit) => (pure (.nx ())))) r197 ()) fun (q177 : Unit) => (do let v196 ← (andV (Mo.lift (m__law_due_3125 [(.str [104, 111, 115, 116]), (.str [97, 46, 98, 46, 42, 42, 46, 99, 46, 100, 46, 101])])) (do let o186 ← Mo.lift (m_HostPattern_init_23dd [(.str [97, 46, 98, 46, 42, 42, 46, 99, 46, 100, 46, 101])]); let x194 ← (DL.ask (fldD ["LabelPattern", "HostPattern", "PathPattern"] "tail" (D.ins "HostPattern" ["text", "level", "head", "tail", "gap"] o186))); let r193 ← DL.ask (szL [(.str [98]), (.str [97])]); DL.ask (eqD x194 (.tup r193)))); pure (.rt v196)))) := by
  unfold b_law_8576; simp only [l_law_8576_0, l_law_8576_1, l_law_8576_2, l_law_8576_3, l_law_8576_4, l_law_8576_5, l_law_8576_6, l_law_8576_7, l_law_8576_8, l_law_8576_9, pure_bind, bind_assoc, mkL]
def m_law_8576 : List D → R D := apR1 fun a0 => (runR false (b_law_8576 a0))
end FN
namespace FN
open DL PySem PySem.W
/-! k09: the law's reading of patterns -/
abbrev SG : List Nat := [48, 49, 50, 51, 52, 53, 54, 55, 56, 57, 97, 98, 99, 100, 101, 102, 103, 104, 105, 106, 107, 108, 109, 110, 111, 112, 113, 114, 115, 116, 117, 118, 119, 120, 121, 122, 42]
theorem sg_iff (c : Nat) : c ∈ SG ↔ c = 42 ∨ c ∈ CH := by
  constructor
  · intro m
    simp only [SG, List.mem_cons, List.not_mem_nil, or_false] at m
    rcases m with rfl | rfl | rfl | rfl | rfl | rfl | rfl | rfl | rfl | rfl | rfl | rfl | rfl | rfl | rfl | rfl | rfl | rfl | rfl | rfl | rfl | rfl | rfl | rfl | rfl | rfl | rfl | rfl | rfl | rfl | rfl | rfl | rfl | rfl | rfl | rfl | rfl <;> decide
  · rintro (rfl | m)
    · decide
    · have : ∀ c ∈ CH, c ∈ SG := by decide
      exact this c m
theorem in_sg {c : Nat} (h : c < 1114112) : inD (.str [c]) (.lst (chrs SG)) = some (.bl (decide (c = 42) || decide (c ∈ CH))) := by
  have n1 : nic 0 (.str [c]) = true := by simpa [nic] using h
  have n2 : nicL 0 (chrs SG) = true := by decide
  unfold inD
  rw [in_nic n1 n2 (by omega) (by omega)]
  have : ∀ L : List Nat, ((chrs L).any fun y => deq y (.str [c])) = decide (c ∈ L) := by
    intro L
    induction L with
    | nil => rfl
    | cons a L ih =>
      show (deq (.str [a]) (.str [c]) || (chrs L).any fun y => deq y (.str [c])) = _
      rw [ih]
      have e : deq (.str [a]) (.str [c]) = decide (a = c) := by simp [deq]
      rw [e, Bool.eq_iff_iff, Bool.or_eq_true, decide_eq_true_eq, decide_eq_true_eq, decide_eq_true_eq, List.mem_cons]
      exact ⟨fun q => q.elim (fun q => .inl q.symm) .inr, fun q => q.elim (fun q => .inl q.symm) .inr⟩
  rw [this]
  have e : decide (c ∈ SG) = (decide (c = 42) || decide (c ∈ CH)) := by
    rw [Bool.eq_iff_iff, Bool.or_eq_true, decide_eq_true_eq, decide_eq_true_eq, decide_eq_true_eq]
    exact sg_iff c
  rw [e]
  rfl
theorem bols_map {α : Type} (f : α → Bool) : ∀ (L : List α), bolsOf (L.map fun a => D.bl (f a)) = some (L.map f)
  | [] => rfl
  | a :: L => by
    rw [List.map_cons]
    show (bolsOf (L.map fun a => D.bl (f a))).map (f a :: ·) = _
    rw [bols_map f L]; rfl
theorem all_map {α : Type} (f : α → Bool) (L : List α) : allD [.lst (L.map fun a => D.bl (f a))] = some (.bl (L.all f)) := by
  show (bolsOf (L.map fun a => D.bl (f a))).map (fun bs => D.bl (bs.all id)) = _
  rw [bols_map]
  show some (D.bl ((L.map f).all id)) = _
  rw [List.all_map]; rfl
theorem lcM {α : Type} {xe : D → R D} (g f : α → D) (as : List α) (h : ∀ a ∈ as, xe (g a) = .ok (f a)) : lcF (fun d => some d) (fun _ => (pure true : R Bool)) xe (as.map g) = .ok (as.map f) := by
  induction as with
  | nil => rfl
  | cons a as ih =>
    rw [List.map_cons]
    unfold lcF
    have ih := ih fun x m => h x (.tail _ m)
    have h1 := h a (.head _)
    show ((Mo.noex (pure true : R Bool)) >>= fun b => if b = true then (Mo.noex (xe (g a)) >>= fun y => lcF (fun d => some d) (fun _ => (pure true : R Bool)) xe (as.map g) >>= fun r => pure (y :: r)) else lcF (fun d => some d) (fun _ => (pure true : R Bool)) xe (as.map g)) = _
    rw [h1, ih]
    rfl
theorem glob09 {z : List Nat} (h : ∀ c ∈ z, c < 1114112) : m__law_is_glob_a031 [.str z] = .ok (.bl (isIt z)) := by
  have ld : listD [.str SG] = some (chrs SG) := rfl
  have sz : szL (chrs SG) = some (chrs SG) := sz_ok (by decide)
  have ll : lenD [.str z] = some (.int (z.length : Int)) := rfl
  have hc : strM (fun a b => .int (PySem.Txt.count ⟨a.toArray⟩ ⟨b.toArray⟩)) (.str z) (.str [42]) = some (.int (z.count 42 : Int)) := by
    show some (D.int (PySem.Txt.count ⟨z.toArray⟩ ⟨[42].toArray⟩)) = _
    rw [count_one]
  have lt : ltD (.int (z.count 42 : Int)) (.int 2) = some (.bl (decide ((z.count 42 : Int) < 2))) := rfl
  have walk : lcF (fun d => some d) (fun _ => (pure true : R Bool)) (fun c => (DL.ask (inD c (.lst (chrs SG))) : R D)) (chrs z) = .ok (z.map fun c => D.bl (decide (c = 42) || decide (c ∈ CH))) := by
    refine lcM (fun c : Nat => D.str [c]) (fun c : Nat => D.bl (decide (c = 42) || decide (c ∈ CH))) z fun c m => ?_
    rw [in_sg (h c m)]; rfl
  have ch : (chainM leD leD (pure (.int 1)) (pure (.int (z.length : Int))) (pure (.int 8)) : R D) = .ok (.bl (decide ((1 : Int) ≤ (z.length : Int)) && decide ((z.length : Int) ≤ 8))) := by
    unfold chainM
    simp only [le_l, askR, pure_bind, Option.bind_some, bOf_bl]
    cases decide ((1 : Int) ≤ (z.length : Int)) <;> rfl
  unfold m__law_is_glob_a031 apR1
  simp only [e__law_is_glob_a031, ld, sz, ll, str_of, hc, lt, it_str, walk, all_map, askR, pure_bind, ch, okpR, andV, tru_bl]
  have e : isIt z = ((decide ((1 : Int) ≤ (z.length : Int)) && decide ((z.length : Int) ≤ 8)) && (decide ((z.count 42 : Int) < 2) && z.all fun c => decide (c = 42) || decide (c ∈ CH))) := by
    unfold isIt
    have e1 : decide (1 ≤ z.length) = decide ((1 : Int) ≤ (z.length : Int)) := by rw [Bool.eq_iff_iff]; simp; omega
    have e2 : decide (z.length ≤ 8) = decide ((z.length : Int) ≤ 8) := by rw [Bool.eq_iff_iff]; simp; omega
    have e3 : decide (z.count 42 ≤ 1) = decide ((z.count 42 : Int) < 2) := by rw [Bool.eq_iff_iff]; simp; omega
    rw [e1, e2, e3, Bool.and_assoc]
  rw [e]
  cases (decide ((1 : Int) ≤ (z.length : Int)) && decide ((z.length : Int) ≤ 8)) <;> cases decide ((z.count 42 : Int) < 2) <;> rfl
end FN
namespace FN
open DL PySem PySem.W
def good (I : List (List Nat)) (l0 l1 mh mt : Nat) : Bool := decide (I.count gp ≤ 1) && (I.all (fun z => decide (z = gp) || isIt z) && (if gp ∈ I then decide (I.idxOf gp ≤ mh) && decide (I.length - I.idxOf gp - 1 ≤ mt) else decide (l0 ≤ I.length) && decide (I.length ≤ l1)))
theorem strs_of : ∀ (I : List (List Nat)), strsOf (I.map D.str) = some I
  | [] => rfl
  | z :: I => by
    rw [List.map_cons]
    show (strsOf (I.map D.str)).map (z :: ·) = _
    rw [strs_of I]; rfl
theorem count09 (I : List (List Nat)) : countLD (.lst (I.map D.str)) (.str gp) = some (.int (I.count gp : Int)) := by
  show (match strsOf (I.map D.str) with
    | some ps => some (D.int ((ps.count gp : Nat) : Int))
    | none => none) = _
  rw [strs_of]
theorem index09 {I : List (List Nat)} (h : gp ∈ I) : indexLD (.lst (I.map D.str)) (.str gp) = some (.int (I.idxOf gp : Int)) := by
  show (match strsOf (I.map D.str) with
    | some ps => if gp ∈ ps then some (D.int ((ps.idxOf gp : Nat) : Int)) else none
    | none => none) = _
  rw [strs_of]
  exact if_pos h
theorem notin09 {I : List (List Nat)} (h : ∀ z ∈ I, ∀ c ∈ z, c < 1114112) : (notInD (.str gp) (.lst (I.map D.str))).bind bOf = some (!decide (gp ∈ I)) := by
  have n1 : nic 0 (.str gp) = true := by decide
  have n2 : nicL 0 (I.map D.str) = true := DL.nic_strs h
  unfold notInD
  rw [in_nic n1 n2 (by omega) (by omega)]
  have : ∀ L : List (List Nat), ((L.map D.str).any fun y => deq y (.str gp)) = decide (gp ∈ L) := by
    intro L
    induction L with
    | nil => rfl
    | cons a L ih =>
      show (deq (.str a) (.str gp) || (L.map D.str).any fun y => deq y (.str gp)) = _
      rw [ih]
      have e : deq (.str a) (.str gp) = decide (a = gp) := by simp [deq]
      rw [e, Bool.eq_iff_iff, Bool.or_eq_true, decide_eq_true_eq, decide_eq_true_eq, decide_eq_true_eq, List.mem_cons]
      exact ⟨fun q => q.elim (fun q => .inl q.symm) .inr, fun q => q.elim (fun q => .inl q.symm) .inr⟩
  rw [this]; rfl
theorem are09 {I : List (List Nat)} (h : ∀ z ∈ I, ∀ c ∈ z, c < 1114112) (l0 l1 mh mt : Nat) : m__law_are_items_cbe6 [.lst (I.map .str), .int (l0 : Int), .int (l1 : Int), .int (mh : Int), .int (mt : Int)] = .ok (.bl (good I l0 l1 mh mt)) := by
  have lo : lstOf (.lst (I.map D.str)) = some (I.map D.str) := rfl
  have cg : (gtD (.int (I.count gp : Int)) (.int 1)).bind bOf = some (decide ((1 : Int) < (I.count gp : Int))) := rfl
  have ci : countLD (.lst (I.map D.str)) (.str [42, 42]) = some (.int (I.count gp : Int)) := count09 I
  have ni : (notInD (.str [42, 42]) (.lst (I.map D.str))).bind bOf = some (!decide (gp ∈ I)) := notin09 h
  have walk : lcF (fun d => some d) (fun _ => (pure true : R Bool)) (fun c => (orV (DL.ask (eqD c (.str [42, 42]))) (Mo.lift (m__law_is_glob_a031 [c])) : R D)) (I.map D.str) = .ok (I.map fun z => D.bl (decide (z = gp) || isIt z)) := by
    refine lcM (fun z : List Nat => D.str z) (fun z => D.bl (decide (z = gp) || isIt z)) I fun z m => ?_
    simp only [eq_ss, orV, askR, pure_bind, glob09 (h z m), tru_bl, lift_pR, okpR]
    show (if decide (z = gp) = true then (pure (D.bl (decide (z = gp))) : R D) else pure (D.bl (isIt z))) = pure (D.bl (decide (z = gp) || isIt z))
    generalize decide (z = gp) = b
    cases b <;> rfl
  have ll : lenD [.lst (I.map D.str)] = some (.int (I.length : Int)) := by
    show some (D.int ((I.map D.str).length : Int)) = _
    rw [List.length_map]
  have ch : (chainM leD leD (pure (.int (l0 : Int))) (pure (.int (I.length : Int))) (pure (.int (l1 : Int))) : R D) = .ok (.bl (decide ((l0 : Int) ≤ (I.length : Int)) && decide ((I.length : Int) ≤ (l1 : Int)))) := by
    unfold chainM
    simp only [le_l, askR, pure_bind, Option.bind_some, bOf_bl]
    cases decide ((l0 : Int) ≤ (I.length : Int)) <;> rfl
  unfold m__law_are_items_cbe6 apR5
  simp only [e__law_are_items_cbe6, lo, ci, cg, askR, pure_bind, DL.orM, DL.notM, it_lst, walk, okpR, all_map, tru_bl]
  unfold good
  by_cases c1 : I.count gp ≤ 1
  · have d1 : decide ((1 : Int) < (I.count gp : Int)) = false := decide_eq_false (by omega)
    rw [d1]
    simp only [Bool.false_eq_true, if_false, decide_eq_true c1, Bool.true_and, ni, askR, pure_bind]
    cases c2 : I.all (fun z => decide (z = gp) || isIt z) with
    | false => rfl
    | true =>
      simp only [Bool.not_true, Bool.false_eq_true, if_false, sqp, Bool.true_and]
      by_cases c3 : gp ∈ I
      · have ix : indexLD (.lst (I.map D.str)) (.str [42, 42]) = some (.int (I.idxOf gp : Int)) := index09 c3
        have lt := List.idxOf_lt_length_iff.mpr c3
        rw [if_pos c3, decide_eq_true c3]
        simp only [Bool.not_true, Bool.false_eq_true, if_false, sqp, lo, ix, ll, le_l, sub_ii, andV, askR, pure_bind, tru_bl]
        have e1 : decide ((I.idxOf gp : Int) ≤ (mh : Int)) = decide (I.idxOf gp ≤ mh) := by rw [Bool.eq_iff_iff, decide_eq_true_eq, decide_eq_true_eq]; omega
        have e2 : decide ((I.length : Int) - (I.idxOf gp : Int) - 1 ≤ (mt : Int)) = decide (I.length - I.idxOf gp - 1 ≤ mt) := by rw [Bool.eq_iff_iff, decide_eq_true_eq, decide_eq_true_eq]; omega
        rw [e1, e2]
        cases decide (I.idxOf gp ≤ mh) <;> rfl
      · rw [if_neg c3, decide_eq_false c3]
        simp only [Bool.not_false, if_true, ll, ch, askR, pure_bind, okpR]
        have e1 : decide ((l0 : Int) ≤ (I.length : Int)) = decide (l0 ≤ I.length) := by rw [Bool.eq_iff_iff, decide_eq_true_eq, decide_eq_true_eq]; omega
        have e2 : decide ((I.length : Int) ≤ (l1 : Int)) = decide (I.length ≤ l1) := by rw [Bool.eq_iff_iff, decide_eq_true_eq, decide_eq_true_eq]; omega
        rw [e1, e2]
        rfl
  · have d1 : decide ((1 : Int) < (I.count gp : Int)) = true := decide_eq_true (by omega)
    rw [d1, decide_eq_false c1]
    rfl
end FN
namespace FN
open DL PySem PySem.W
theorem gapIx_len : ∀ (I : List (List Nat)) (k : Nat), (gapIx I k).length = I.count gp
  | [], _ => rfl
  | z :: r, k => by
    show (if z = gp then D.int (k : Int) :: gapIx r (k + 1) else gapIx r (k + 1)).length = _
    rw [List.count_cons]
    by_cases c : z = gp
    · rw [if_pos c, List.length_cons, gapIx_len r (k + 1)]; simp [c]
    · rw [if_neg c, gapIx_len r (k + 1)]; simp [c]
def badZ : D → Bool
  | .str z => !(decide (z = gp) || isIt z)
  | _ => false
theorem bad_any (I : List (List Nat)) : (lcF (fun d => some d) (fun (c19 : D) => (DL.andM (DL.ask ((neD c19 c_GAP).bind bOf)) (DL.notM (do let x25 ← (Mo.lift (m_is_label_text_206f [c19])); DL.ask (truD x25))))) (fun (c19 : D) => (pure c19)) (I.map D.str) : R (List D)) = .ok ((I.filter fun z => !(decide (z = gp) || isIt z)).map D.str) := by
  refine (lcR (u := fun d => some d) (xe := fun c19 : D => (pure c19 : R D)) (c := fun d => d) (p := badZ) (f := fun d => d) (I.map D.str) (fun _ _ => rfl) (fun d m => ?_) (fun _ _ _ => rfl)).trans ?_
  · obtain ⟨z, hz, rfl⟩ := List.mem_map.mp m
    have e1 : (neD (.str z) c_GAP).bind bOf = some (!decide (z = gp)) := by
      show (neD (.str z) (.str [42, 42])).bind bOf = _
      rw [ne_ss]
      rfl
    simp only [DL.andM, e1, askR, pure_bind, DL.notM, item_ok, lift_pR, okpR, tru_bl]
    show _ = pure (!(decide (z = gp) || isIt z))
    generalize decide (z = gp) = b
    cases b <;> rfl
  · rw [List.filter_map, List.map_id']
    rfl
section
variable {I : List (List Nat)} {l0 l1 mh mt : Nat}
theorem shape_bad1 (h : ¬ I.count gp ≤ 1) : m_shape_of_items_2081 [.lst (I.map .str), limD l0 l1 mh mt] = .ok .non := by
  have e1 : enumOf [.lst (I.map D.str)] = some (enumK I 0) := congrArg some (enumL_strs I)
  have e2 : unN 4 (limD l0 l1 mh mt) = some [.int (l0 : Int), .int (l1 : Int), .int (mh : Int), .int (mt : Int)] := rfl
  have eg := gaps_ok I
  have ll : lenD [.lst (gapIx I 0)] = some (.int (I.count gp : Int)) := by
    show some (D.int ((gapIx I 0).length : Int)) = _
    rw [gapIx_len]
  have g0 : (gtD (.int (I.count gp : Int)) (.int 1)).bind bOf = some true := by
    show some (decide _) = _
    rw [decide_eq_true (by omega)]
  unfold m_shape_of_items_2081 apR2
  simp only [e_shape_of_items_2081, e2, e1, askR, pure_bind, eg, okpR, ll, g0, DL.orM, if_true]
  rfl
theorem shape_bad2 (h : I.count gp ≤ 1) (hb : I.all (fun z => decide (z = gp) || isIt z) = false) : m_shape_of_items_2081 [.lst (I.map .str), limD l0 l1 mh mt] = .ok .non := by
  have e1 : enumOf [.lst (I.map D.str)] = some (enumK I 0) := congrArg some (enumL_strs I)
  have e2 : unN 4 (limD l0 l1 mh mt) = some [.int (l0 : Int), .int (l1 : Int), .int (mh : Int), .int (mt : Int)] := rfl
  have eg := gaps_ok I
  have ll : lenD [.lst (gapIx I 0)] = some (.int (I.count gp : Int)) := by
    show some (D.int ((gapIx I 0).length : Int)) = _
    rw [gapIx_len]
  have g0 : (gtD (.int (I.count gp : Int)) (.int 1)).bind bOf = some false := by
    show some (decide _) = _
    rw [decide_eq_false (by omega)]
  have t1 : truD (.lst ((I.filter fun z => !(decide (z = gp) || isIt z)).map D.str)) = some true := by
    show some (!((I.filter fun z => !(decide (z = gp) || isIt z)).map D.str).isEmpty) = _
    obtain ⟨z, m, hz⟩ := List.all_eq_false.mp hb
    have : z ∈ I.filter fun z => !(decide (z = gp) || isIt z) := List.mem_filter.mpr ⟨m, by simpa using hz⟩
    cases q : I.filter fun z => !(decide (z = gp) || isIt z) with
    | nil => rw [q] at this; cases this
    | cons a b => rfl
  have eb := bad_any I
  unfold m_shape_of_items_2081 apR2
  simp only [e_shape_of_items_2081, e2, e1, askR, pure_bind, eg, okpR, ll, g0, DL.orM, Bool.false_eq_true, if_false, it_lst, eb, t1]
  rfl
theorem shape_bad3 (h : ∀ z ∈ I, isIt z = true) (h0 : ¬ (l0 ≤ I.length ∧ I.length ≤ l1)) : m_shape_of_items_2081 [.lst (I.map .str), limD l0 l1 mh mt] = .ok .non := by
  have ng : gp ∉ I := fun m => it_gap (h _ m) rfl
  have e1 : enumOf [.lst (I.map D.str)] = some (enumK I 0) := congrArg some (enumL_strs I)
  have e2 : unN 4 (limD l0 l1 mh mt) = some [.int (l0 : Int), .int (l1 : Int), .int (mh : Int), .int (mt : Int)] := rfl
  have eg := gaps_ok I
  rw [gap_none ng] at eg
  have eb := bad_ok I fun z m => .inr (h z m)
  have l0' : lenD [.lst ([] : List D)] = some (.int 0) := rfl
  have g0 : (gtD (.int 0) (.int 1)).bind bOf = some false := rfl
  have hl : lenD [.lst (I.map D.str)] = some (.int (I.length : Int)) := by
    show some (D.int ((I.map D.str).length : Int)) = _
    rw [List.length_map]
  have t0 : truD (.lst ([] : List D)) = some false := rfl
  have ch : (chainM leD leD (pure (.int (l0 : Int))) (pure (.int (I.length : Int))) (pure (.int (l1 : Int))) : R D) = .ok (.bl false) := by
    unfold chainM
    simp only [le_l, askR, pure_bind, Option.bind_some, bOf_bl]
    by_cases c : l0 ≤ I.length
    · rw [decide_eq_true (show (l0 : Int) ≤ (I.length : Int) by omega), decide_eq_false (show ¬ (I.length : Int) ≤ (l1 : Int) by omega)]; rfl
    · rw [decide_eq_false (show ¬ (l0 : Int) ≤ (I.length : Int) by omega)]; rfl
  unfold m_shape_of_items_2081 apR2
  simp only [e_shape_of_items_2081, e2, e1, askR, pure_bind, eg, okpR, l0', g0, DL.orM, Bool.false_eq_true, if_false, it_lst, eb, t0]
  simp only [askR, pure_bind, okpR, t0, Bool.false_eq_true, if_false, DL.notM, Bool.not_false, sqp, if_true, iteM, List.getD_cons_zero, List.getD_cons_succ, hl, ch, bOf_bl]
  rfl
theorem shape_bad4 {A B : List (List Nat)} (hA : ∀ z ∈ A, isIt z = true) (hB : ∀ z ∈ B, isIt z = true) (h0 : ¬ (A.length ≤ mh ∧ B.length ≤ mt)) : m_shape_of_items_2081 [.lst ((A ++ gp :: B).map .str), limD l0 l1 mh mt] = .ok .non := by
  have na : gp ∉ A := fun m => it_gap (hA _ m) rfl
  have nb : gp ∉ B := fun m => it_gap (hB _ m) rfl
  have e1 : enumOf [.lst ((A ++ gp :: B).map D.str)] = some (enumK (A ++ gp :: B) 0) := congrArg some (enumL_strs _)
  have e2 : unN 4 (limD l0 l1 mh mt) = some [.int (l0 : Int), .int (l1 : Int), .int (mh : Int), .int (mt : Int)] := rfl
  have eg := gaps_ok (A ++ gp :: B)
  rw [gap_one na nb, Nat.zero_add] at eg
  have eb := bad_ok (A ++ gp :: B) fun z m => by
    rcases List.mem_append.mp m with m | m
    · exact .inr (hA z m)
    · rcases List.mem_cons.mp m with m | m
      · exact .inl m
      · exact .inr (hB z m)
  have l1' : lenD [.lst [D.int (A.length : Int)]] = some (.int 1) := rfl
  have g0 : (gtD (.int 1) (.int 1)).bind bOf = some false := rfl
  have t0 : truD (.lst ([] : List D)) = some false := rfl
  have t1 : truD (.lst [D.int (A.length : Int)]) = some true := rfl
  have x0 : ixD (.lst [D.int (A.length : Int)]) (.int 0) = some (.int (A.length : Int)) := rfl
  have i0 : ∀ i : Int, intOf (.int i) = some i := fun _ => rfl
  have c1 : cutL ((A ++ gp :: B).map D.str) none (some (A.length : Int)) = A.map D.str := by
    rw [show (A ++ gp :: B).map D.str = A.map D.str ++ (gp :: B).map D.str by simp]
    have : cutL (A.map D.str ++ (gp :: B).map D.str) none (some (A.length : Int)) = (A.map D.str ++ (gp :: B).map D.str).take A.length := cut_toD
    rw [this, List.take_left' (by simp)]
  have c2 : cutL ((A ++ gp :: B).map D.str) (some ((A.length : Int) + 1)) none = B.map D.str := by
    have : cutL ((A ++ gp :: B).map D.str) (some ((A.length : Int) + 1)) none = ((A ++ gp :: B).map D.str).drop (A.length + 1) := cut_fromD
    rw [this, show (A ++ gp :: B).map D.str = (A.map D.str ++ [D.str gp]) ++ B.map D.str by simp, List.drop_left' (by simp)]
  have ll : ∀ xs : List D, lenD [.tup xs] = some (.int (xs.length : Int)) := fun _ => rfl
  have q1 : (leD (.int ((A.map D.str).length : Int)) (.int (mh : Int))).bind bOf = some (decide (A.length ≤ mh)) := by
    rw [le_l]
    show some (decide _) = _
    rw [Option.some.injEq, Bool.eq_iff_iff, decide_eq_true_eq, decide_eq_true_eq, List.length_map]; omega
  have q2 : (leD (.int ((B.map D.str).length : Int)) (.int (mt : Int))).bind bOf = some (decide (B.length ≤ mt)) := by
    rw [le_l]
    show some (decide _) = _
    rw [Option.some.injEq, Bool.eq_iff_iff, decide_eq_true_eq, decide_eq_true_eq, List.length_map]; omega
  unfold m_shape_of_items_2081 apR2
  simp only [e_shape_of_items_2081, e2, e1, askR, pure_bind, eg, okpR, l1', g0, DL.orM, Bool.false_eq_true, if_false, it_lst, eb, t0]
  simp only [askR, pure_bind, okpR, Bool.false_eq_true, if_false, t0, t1, DL.notM, Bool.not_true, sqp, x0, i0, add_ii, slice_l, c1, c2, tup_lst, ll, List.getD_cons_zero, List.getD_cons_succ, DL.andM, q1, q2, iteM]
  by_cases c : A.length ≤ mh
  · rw [decide_eq_true c, decide_eq_false (fun q => h0 ⟨c, q⟩)]; rfl
  · rw [decide_eq_false c]; rfl
theorem idx_first : ∀ {A B : List (List Nat)}, gp ∉ A → (A ++ gp :: B).idxOf gp = A.length
  | [], B, _ => by simp
  | a :: A, B, h => by
    have ha : a ≠ gp := fun e => h (by rw [e]; exact .head _)
    have hb : (a == gp) = false := beq_false_of_ne ha
    rw [List.cons_append, List.idxOf_cons, hb, cond_false, idx_first fun m => h (.tail _ m), List.length_cons]
/-- the shape of any items -/
theorem shape_any : (good I l0 l1 mh mt = true → ∃ (h t : List (List Nat)) (g : Bool), m_shape_of_items_2081 [.lst (I.map .str), limD l0 l1 mh mt] = .ok (.tup [.tup (h.map .str), .tup (t.map .str), .bl g])) ∧ (good I l0 l1 mh mt = false → m_shape_of_items_2081 [.lst (I.map .str), limD l0 l1 mh mt] = .ok .non) := by
  unfold good
  by_cases c1 : I.count gp ≤ 1
  · cases c2 : I.all (fun z => decide (z = gp) || isIt z) with
    | false => exact ⟨fun e => by simp at e, fun _ => shape_bad2 c1 c2⟩
    | true =>
      have hz : ∀ z ∈ I, z = gp ∨ isIt z = true := fun z m => by simpa using List.all_eq_true.mp c2 z m
      rw [decide_eq_true c1, Bool.true_and, Bool.true_and]
      by_cases c3 : gp ∈ I
      · obtain ⟨A, B, rfl, na⟩ := List.eq_append_cons_of_mem c3
        have nb : gp ∉ B := fun m => by
          rw [List.count_append, List.count_cons_self] at c1
          have := List.count_pos_iff.mpr m
          omega
        have hA : ∀ z ∈ A, isIt z = true := fun z m => (hz z (List.mem_append_left _ m)).resolve_left fun e => na (e ▸ m)
        have hB : ∀ z ∈ B, isIt z = true := fun z m => (hz z (List.mem_append_right _ (.tail _ m))).resolve_left fun e => nb (e ▸ m)
        rw [if_pos c3, idx_first na]
        have e : (A ++ gp :: B).length - A.length - 1 = B.length := by rw [List.length_append, List.length_cons]; omega
        rw [e]
        refine ⟨fun q => ?_, fun q => shape_bad4 hA hB fun k => ?_⟩
        · rw [Bool.and_eq_true, decide_eq_true_eq, decide_eq_true_eq] at q
          exact ⟨A, B, true, shape_gap hA hB q.1 q.2⟩
        · rw [decide_eq_true k.1, decide_eq_true k.2] at q; cases q
      · have hI : ∀ z ∈ I, isIt z = true := fun z m => (hz z m).resolve_left fun e => c3 (e ▸ m)
        rw [if_neg c3]
        refine ⟨fun q => ?_, fun q => shape_bad3 hI fun k => ?_⟩
        · rw [Bool.and_eq_true, decide_eq_true_eq, decide_eq_true_eq] at q
          exact ⟨I, [], false, shape_plain hI q.1 q.2⟩
        · rw [decide_eq_true k.1, decide_eq_true k.2] at q; cases q
  · exact ⟨fun e => by simp [c1] at e, fun _ => shape_bad1 c1⟩
end
end FN
namespace FN
open DL PySem PySem.W
def goodH (T : List Nat) : Bool := good (TL.spl [46] 0 [] T).reverse 1 4 3 2
def itemsP (T : List Nat) : List (List Nat) := if T = [47] then [] else TL.spl [47] 0 [] (T.drop 1)
def goodP (T : List Nat) : Bool := decide (T.take 1 = [47]) && good (itemsP T) 0 3 2 2
theorem pat_none {x lv : D} : m_Pattern_init_4a0d [x, lv, .non] = raiseX "BadPattern" "pattern" x := rfl
theorem host_shape_any {T : List Nat} (hT : T.length ≤ 1000000) : (goodH T = true → ∃ (h t : List (List Nat)) (g : Bool), m_host_shape_b82b [.str T] = .ok (.tup [.tup (h.map .str), .tup (t.map .str), .bl g])) ∧ (goodH T = false → m_host_shape_b82b [.str T] = .ok .non) := by
  have is1 : isiD "str" (.str T) = some (.bl true) := rfl
  have sp := split_any (s := 46) (z := T) (by omega) hT
  have rv : revD (.lst ((TL.spl [46] 0 [] T).map D.str)) = some (.lst ((TL.spl [46] 0 [] T).reverse.map D.str)) := by
    rw [List.map_reverse]; rfl
  have e : m_host_shape_b82b [.str T] = m_shape_of_items_2081 [.lst ((TL.spl [46] 0 [] T).reverse.map D.str), limD 1 4 3 2] := by
    have q : ∀ r : R D, (runR false (do let v ← (Mo.lift r : R D); pure (Fl.rt v) : R (Fl Unit Empty))) = r := by
      intro r
      cases r <;> rfl
    unfold m_host_shape_b82b apR1
    simp only [e_host_shape_b82b, is1, askR, pure_bind, tru_bl, DL.notM, Bool.not_true, Bool.false_eq_true, if_false, sqp, str_of, sp, rv]
    exact q _
  rw [e]
  exact shape_any
end FN
namespace FN
open DL PySem PySem.W
theorem runR_lift (r : R D) : (runR false (do let v ← (Mo.lift r : R D); pure (Fl.rt v) : R (Fl Unit Empty))) = r := by
  cases r <;> rfl
theorem host_init_any {T : List Nat} (hT : T.length ≤ 1000000) : (goodH T = true → ∃ fs, m_HostPattern_init_23dd [.str T] = .ok (.str T :: fs)) ∧ (goodH T = false → m_HostPattern_init_23dd [.str T] = raiseX "BadPattern" "pattern" (.str T)) := by
  obtain ⟨h1, h2⟩ := host_shape_any hT
  refine ⟨fun q => ?_, fun q => ?_⟩
  · obtain ⟨h, t, g, e⟩ := h1 q
    refine ⟨[c_HOST, .tup (h.map .str), .tup (t.map .str), .bl g], ?_⟩
    unfold m_HostPattern_init_23dd apI1
    simp only [e, pure_bind, lift_pR, okpR]
    exact pat_init
  · unfold m_HostPattern_init_23dd apI1
    simp only [h2 q, pure_bind, lift_pR, okpR]
    exact pat_none
theorem path_shape_any {T : List Nat} (hT : T.length ≤ 1000000) : (goodP T = true → ∃ (h t : List (List Nat)) (g : Bool), m_path_shape_25b3 [.str T] = .ok (.tup [.tup (h.map .str), .tup (t.map .str), .bl g])) ∧ (goodP T = false → m_path_shape_25b3 [.str T] = .ok .non) := by
  have is1 : isiD "str" (.str T) = some (.bl true) := rfl
  have st : strM (fun a b => .bl (PySem.Txt.startswith ⟨a.toArray⟩ ⟨b.toArray⟩)) (.str T) (.str [47]) = some (.bl (decide (T.take 1 = [47]))) := by
    refine (congrArg (fun b => some (D.bl b)) (starts_eq T [47])).trans ?_
    have : (decide ([47].length ≤ T.length) && decide (T.take [47].length = [47])) = decide (T.take 1 = [47]) := by
      cases T with
      | nil => rfl
      | cons a T => simp
    rw [this]
  have s0 : szL [] = some [] := sz_ok (by simp)
  cases c : decide (T.take 1 = [47]) with
  | false =>
    have g0 : goodP T = false := by unfold goodP; rw [c]; rfl
    refine ⟨fun q => absurd (g0.symm.trans q) (by simp), fun _ => ?_⟩
    unfold m_path_shape_25b3 apR1
    simp only [e_path_shape_25b3, is1, askR, pure_bind, tru_bl, DL.notM, DL.orM, Bool.not_true, Bool.false_eq_true, if_false, str_of, st, c, Bool.not_false, if_true]
    rfl
  | true =>
    have sp := split_any (s := 47) (z := T.drop 1) (by omega) (by rw [List.length_drop]; omega)
    have i1 : intOf (.int 1) = some 1 := rfl
    have cd : sliceD (.str T) (some 1) none = some (.str (T.drop 1)) := by
      show some (D.str (cutL T (some 1) none)) = _
      rw [cut_lo (by omega)]; rfl
    have it : (iteM (m := R) (DL.ask ((neD (.str T) (.str [47])).bind bOf)) (mkL (do let i11 ← DL.ask (intOf (.int 1)); let x15 ← (DL.ask (sliceD (.str T) (some i11) none)); let _ ← DL.ask (strOf x15); DL.ask (splitD x15 (.str [47])))) (mkL (DL.ask (szL [])))) = pure (.lst ((itemsP T).map D.str)) := by
      unfold iteM itemsP
      simp only [ne_ss, Option.bind_some, bOf_bl, askR, pure_bind, i1, cd, str_of, sp, s0, mkL]
      by_cases d : T = [47]
      · rw [decide_eq_true d, if_pos d]; rfl
      · rw [decide_eq_false d, if_neg d]; rfl
    have e : m_path_shape_25b3 [.str T] = m_shape_of_items_2081 [.lst ((itemsP T).map D.str), limD 0 3 2 2] := by
      unfold m_path_shape_25b3 apR1
      simp only [e_path_shape_25b3, is1, askR, pure_bind, tru_bl, DL.notM, DL.orM, Bool.not_true, Bool.false_eq_true, if_false, sqp, str_of, st, c]
      rw [it]
      simp only [pure_bind]
      exact runR_lift _
    have g0 : goodP T = good (itemsP T) 0 3 2 2 := by unfold goodP; rw [c]; rfl
    rw [e, g0]
    exact shape_any
theorem path_init_any {T : List Nat} (hT : T.length ≤ 1000000) : (goodP T = true → ∃ fs, m_PathPattern_init_28de [.str T] = .ok (.str T :: fs)) ∧ (goodP T = false → m_PathPattern_init_28de [.str T] = raiseX "BadPattern" "pattern" (.str T)) := by
  obtain ⟨h1, h2⟩ := path_shape_any hT
  refine ⟨fun q => ?_, fun q => ?_⟩
  · obtain ⟨h, t, g, e⟩ := h1 q
    refine ⟨[c_PATH, .tup (h.map .str), .tup (t.map .str), .bl g], ?_⟩
    unfold m_PathPattern_init_28de apI1
    simp only [e, pure_bind, lift_pR, okpR]
    exact pat_init
  · unfold m_PathPattern_init_28de apI1
    simp only [h2 q, pure_bind, lift_pR, okpR]
    exact pat_none
end FN
namespace FN
open DL PySem PySem.W
abbrev kLab : List Nat := [108, 97, 98, 101, 108]
abbrev kHos : List Nat := [104, 111, 115, 116]
abbrev kPat : List Nat := [112, 97, 116, 104]
theorem pat_some {x lv a b c : D} : m_Pattern_init_4a0d [x, lv, .tup [a, b, c]] = .ok [x, lv, a, b, c] := rfl
theorem due_label {T : List Nat} (h : ∀ c ∈ T, c < 1114112) : m__law_due_3125 [.str kLab, .str T] = .ok (.bl (isIt T)) := by
  have q1 : (eqD (.str kLab) (.str [108, 97, 98, 101, 108])).bind bOf = some true := rfl
  unfold m__law_due_3125 apR2
  simp only [e__law_due_3125, q1, askR, pure_bind, if_true, glob09 h, lift_pR, okpR]
  rfl
theorem spl_chars {s : Nat} {T : List Nat} (h : ∀ c ∈ T, c < 1114112) : ∀ z ∈ TL.spl [s] 0 [] T, ∀ c ∈ z, c < 1114112 := fun z hz c hc => (spl_mem T 0 [] z c hz hc).elim (fun m => by cases m) (h c)
theorem due_host {T : List Nat} (h : ∀ c ∈ T, c < 1114112) (hT : T.length ≤ 1000000) : m__law_due_3125 [.str kHos, .str T] = .ok (.bl (goodH T)) := by
  have q1 : (eqD (.str kHos) (.str [108, 97, 98, 101, 108])).bind bOf = some false := rfl
  have q2 : (eqD (.str kHos) (.str [104, 111, 115, 116])).bind bOf = some true := rfl
  have sp := split_any (s := 46) (z := T) (by omega) hT
  have rv : revD (.lst ((TL.spl [46] 0 [] T).map D.str)) = some (.lst ((TL.spl [46] 0 [] T).reverse.map D.str)) := by
    rw [List.map_reverse]; rfl
  have ar : m__law_are_items_cbe6 [.lst ((TL.spl [46] 0 [] T).reverse.map .str), .int 1, .int 4, .int 3, .int 2] = .ok (.bl (goodH T)) := are09 (I := (TL.spl [46] 0 [] T).reverse) (fun z m => spl_chars h z (List.mem_reverse.mp m)) 1 4 3 2
  unfold m__law_due_3125 apR2
  simp only [e__law_due_3125, q1, q2, askR, pure_bind, if_true, Bool.false_eq_true, if_false, sqp, str_of, sp, rv, ar, lift_pR, okpR]
  rfl
theorem due_path {T : List Nat} (h : ∀ c ∈ T, c < 1114112) (hT : T.length ≤ 1000000) : m__law_due_3125 [.str kPat, .str T] = .ok (.bl (goodP T)) := by
  have q1 : (eqD (.str kPat) (.str [108, 97, 98, 101, 108])).bind bOf = some false := rfl
  have q2 : (eqD (.str kPat) (.str [104, 111, 115, 116])).bind bOf = some false := rfl
  have i1 : intOf (.int 1) = some 1 := rfl
  have ct : sliceD (.str T) none (some 1) = some (.str (T.take 1)) := by
    show some (D.str (cutL T none (some 1))) = _
    rw [cut_hi (by omega)]; rfl
  have cd : sliceD (.str T) (some 1) none = some (.str (T.drop 1)) := by
    show some (D.str (cutL T (some 1) none)) = _
    rw [cut_lo (by omega)]; rfl
  have s0 : szL [] = some [] := sz_ok (by simp)
  have sp := split_any (s := 47) (z := T.drop 1) (by omega) (by rw [List.length_drop]; omega)
  have hI : ∀ z ∈ itemsP T, ∀ c ∈ z, c < 1114112 := by
    unfold itemsP
    split
    · intro z m; cases m
    · exact spl_chars fun c m => h c (List.mem_of_mem_drop m)
  have ar : m__law_are_items_cbe6 [.lst ((itemsP T).map .str), .int 0, .int 3, .int 2, .int 2] = .ok (.bl (good (itemsP T) 0 3 2 2)) := are09 hI 0 3 2 2
  have it : (iteM (m := R) (DL.ask ((neD (.str T) (.str [47])).bind bOf)) (mkL (do let x42 ← (DL.ask (sliceD (.str T) (some 1) none)); let _ ← DL.ask (strOf x42); DL.ask (splitD x42 (.str [47])))) (mkL (DL.ask (szL [])))) = pure (.lst ((itemsP T).map D.str)) := by
    unfold iteM itemsP
    simp only [ne_ss, Option.bind_some, bOf_bl, askR, pure_bind, i1, cd, str_of, sp, s0, mkL]
    by_cases d : T = [47]
    · rw [decide_eq_true d, if_pos d]; rfl
    · rw [decide_eq_false d, if_neg d]; rfl
  have n1 : (neD (.str (T.take 1)) (.str [47])).bind bOf = some (!decide (T.take 1 = [47])) := by rw [ne_ss]; rfl
  unfold m__law_due_3125 apR2
  simp only [e__law_due_3125, q1, q2, askR, pure_bind, Bool.false_eq_true, if_false, sqp, i1, ct, n1]
  cases c : decide (T.take 1 = [47]) with
  | false =>
    have g0 : goodP T = false := by unfold goodP; rw [c]; rfl
    rw [g0]
    simp only [Bool.not_false, if_true]
    rfl
  | true =>
    have g0 : goodP T = good (itemsP T) 0 3 2 2 := by unfold goodP; rw [c]; rfl
    rw [g0]
    simp only [Bool.not_true, Bool.false_eq_true, if_false, sqp]
    rw [it]
    simp only [pure_bind, ar, lift_pR, okpR]
    rfl
end FN
namespace FN
open DL PySem PySem.W
theorem label_shape_any {T : List Nat} (hT : T.length ≤ 1000000) : ∃ a b c, m_label_shape_c600 [.str T] = .ok (.tup [a, b, c]) := by
  have pe := part_eq (z := T) (S := [42]) (by simp) hT
  have key : ∀ p q r : List Nat, partD (.str T) (.str [42]) = some (.tup [.str p, .str q, .str r]) → ∃ a b c, m_label_shape_c600 [.str T] = .ok (.tup [a, b, c]) := by
    intro p q r e
    refine ⟨.tup (chrs p), .tup (chrs r), .bl (decide (q = [42])), ?_⟩
    have u3 : un3 (.tup [.str p, .str q, .str r]) = some (.str p, .str q, .str r) := rfl
    have tl : ∀ s : List Nat, tupleXD [.str s] = some (.tup (chrs s)) := fun _ => rfl
    unfold m_label_shape_c600 apR1
    simp only [e_label_shape_c600, str_of, e, u3, tl, eq_ss, sz3, askR, pure_bind]
    rfl
  cases c : TL.par [42] [] T with
  | none => rw [c] at pe; exact key _ _ _ pe
  | some pq =>
    obtain ⟨p, q⟩ := pq
    rw [c] at pe; exact key _ _ _ pe
theorem label_init_any {T : List Nat} (hT : T.length ≤ 1000000) : (isIt T = true → ∃ fs, m_LabelPattern_init_02ae [.str T] = .ok (.str T :: fs)) ∧ (isIt T = false → m_LabelPattern_init_02ae [.str T] = raiseX "BadPattern" "pattern" (.str T)) := by
  obtain ⟨a, b, c, e⟩ := label_shape_any hT
  refine ⟨fun q => ⟨[c_LABEL, a, b, c], ?_⟩, fun q => ?_⟩
  · unfold m_LabelPattern_init_02ae apI1
    simp only [item_ok, q, e, pure_bind, lift_pR, okpR, tru_bl, askR, iteM, if_true]
    exact pat_some
  · unfold m_LabelPattern_init_02ae apI1
    simp only [item_ok, q, pure_bind, lift_pR, okpR, tru_bl, askR, iteM, Bool.false_eq_true, if_false]
    exact pat_none
def kRef (x : D) : D := .lst [.str [114, 101, 102, 117, 115, 101, 100], x, .bl true, .bl false]
def kMad (x : D) : D := .lst [.str [109, 97, 100, 101], x]
section
variable {x : D} {fs : List D}
theorem asked_lab : (m_LabelPattern_init_02ae [x] = .ok (x :: fs) → m__law_asked_f01d [.str kLab, x] = .ok (kMad x)) ∧ (m_LabelPattern_init_02ae [x] = raiseX "BadPattern" "pattern" x → m__law_asked_f01d [.str kLab, x] = .ok (kRef x)) := by
  have q1 : (eqD (.str kLab) (.str [108, 97, 98, 101, 108])).bind bOf = some true := rfl
  have f1 : fldD ["LabelPattern", "HostPattern", "PathPattern"] "text" (D.ins "LabelPattern" ["text", "level", "head", "tail", "gap"] (x :: fs)) = some x := rfl
  have s2 : ∀ a b : D, szL [a, b] = some [a, b] := fun a b => sz_ok (by simp)
  have s4 : ∀ a b c d : D, szL [a, b, c, d] = some [a, b, c, d] := fun a b c d => sz_ok (by simp)
  refine ⟨fun e => ?_, fun e => ?_⟩
  · unfold m__law_asked_f01d apR2
    simp only [e__law_asked_f01d, q1, e, f1, s2, askR, pure_bind, if_true, lift_pR, okpR]
    rfl
  · unfold m__law_asked_f01d apR2
    simp only [e__law_asked_f01d, q1, e, s4, askR, pure_bind, if_true, lift_pR]
    rfl
theorem asked_hos : (m_HostPattern_init_23dd [x] = .ok (x :: fs) → m__law_asked_f01d [.str kHos, x] = .ok (kMad x)) ∧ (m_HostPattern_init_23dd [x] = raiseX "BadPattern" "pattern" x → m__law_asked_f01d [.str kHos, x] = .ok (kRef x)) := by
  have q1 : (eqD (.str kHos) (.str [108, 97, 98, 101, 108])).bind bOf = some false := rfl
  have q2 : (eqD (.str kHos) (.str [104, 111, 115, 116])).bind bOf = some true := rfl
  have f1 : fldD ["LabelPattern", "HostPattern", "PathPattern"] "text" (D.ins "HostPattern" ["text", "level", "head", "tail", "gap"] (x :: fs)) = some x := rfl
  have s2 : ∀ a b : D, szL [a, b] = some [a, b] := fun a b => sz_ok (by simp)
  have s4 : ∀ a b c d : D, szL [a, b, c, d] = some [a, b, c, d] := fun a b c d => sz_ok (by simp)
  refine ⟨fun e => ?_, fun e => ?_⟩
  · unfold m__law_asked_f01d apR2
    simp only [e__law_asked_f01d, q1, q2, e, f1, s2, askR, pure_bind, Bool.false_eq_true, if_false, sqp, iteM, if_true, lift_pR, okpR]
    rfl
  · unfold m__law_asked_f01d apR2
    simp only [e__law_asked_f01d, q1, q2, e, s4, askR, pure_bind, Bool.false_eq_true, if_false, sqp, iteM, if_true, lift_pR]
    rfl
theorem asked_pat : (m_PathPattern_init_28de [x] = .ok (x :: fs) → m__law_asked_f01d [.str kPat, x] = .ok (kMad x)) ∧ (m_PathPattern_init_28de [x] = raiseX "BadPattern" "pattern" x → m__law_asked_f01d [.str kPat, x] = .ok (kRef x)) := by
  have q1 : (eqD (.str kPat) (.str [108, 97, 98, 101, 108])).bind bOf = some false := rfl
  have q2 : (eqD (.str kPat) (.str [104, 111, 115, 116])).bind bOf = some false := rfl
  have f1 : fldD ["LabelPattern", "HostPattern", "PathPattern"] "text" (D.ins "PathPattern" ["text", "level", "head", "tail", "gap"] (x :: fs)) = some x := rfl
  have s2 : ∀ a b : D, szL [a, b] = some [a, b] := fun a b => sz_ok (by simp)
  have s4 : ∀ a b c d : D, szL [a, b, c, d] = some [a, b, c, d] := fun a b c d => sz_ok (by simp)
  refine ⟨fun e => ?_, fun e => ?_⟩
  · unfold m__law_asked_f01d apR2
    simp only [e__law_asked_f01d, q1, q2, e, f1, s2, askR, pure_bind, Bool.false_eq_true, if_false, sqp, iteM, lift_pR, okpR]
    rfl
  · unfold m__law_asked_f01d apR2
    simp only [e__law_asked_f01d, q1, q2, e, s4, askR, pure_bind, Bool.false_eq_true, if_false, sqp, iteM, lift_pR]
    rfl
end
end FN
namespace FN
open DL PySem PySem.W
theorem tx_ch {z : List Nat} {n : Nat} (hl : z.length ≤ n) (h : ∀ c ∈ z, c ∈ CH) : Tx n z := ⟨hl, fun c m => ch_lt (h c m)⟩
theorem glob_d {cs : List Nat} (hc : cs ≠ []) (hl : cs.length ≤ 1000) (hm : ∀ c ∈ cs, c ∈ CH) : Ok (m__law_glob_3319 [.lst (chrs cs), .int 3]) fun d => ∃ z, d = .str z ∧ Tx 20 z := by
  refine ok_runM ?_
  simp only [e__law_glob_3319]
  refine ok_then (take_ok (n := 6) (by omega) (by omega)) ?_
  rintro d ⟨w, rfl, w0, w1⟩
  refine ok_bind (ok_ask eqi ?_)
  refine ok_seq ?_
  refine ok_ite (fun _ => ok_pure ⟨[42], rfl, by decide, by decide⟩) (fun _ => ok_pure ?_)
  simp only [str_of, add_ii, askM, pure_bind]
  refine ok_then (take_ok (n := 3 + 1) (by omega) (by omega)) ?_
  rintro d ⟨i, rfl, i0, i1⟩
  rw [rng1_ok (by omega) (by omega)]
  simp only [askM, pure_bind]
  refine ok_then (drawn_ok hc hl) ?_
  rintro rs ⟨a, rfl, la, ma⟩
  simp only [join_chrs (z := a) (by omega), askM, pure_bind]
  refine ok_then (take_ok (n := 3 + 1) (by omega) (by omega)) ?_
  rintro d ⟨j, rfl, j0, j1⟩
  rw [rng1_ok (by omega) (by omega)]
  simp only [askM, pure_bind]
  refine ok_then (drawn_ok hc hl) ?_
  rintro rs ⟨b, rfl, lb, mb⟩
  simp only [join_chrs (z := b) (by omega), askM, pure_bind]
  have ta : Tx 4 a := tx_ch (by omega) fun c m => hm c (ma c m)
  have tb : Tx 4 b := tx_ch (by omega) fun c m => hm c (mb c m)
  refine ok_bind (ok_ask lti ?_)
  refine ok_seq ?_
  refine ok_ite (fun _ => ?_) (fun _ => ok_pure ?_)
  · rw [add_ss (by omega)]
    simp only [askM, pure_bind]
    refine ok_then (of_ok (ds := chrs cs) (by simpa [chrs] using hc) (by rw [chrs_len]; omega)) ?_
    intro y hy
    obtain ⟨c, hcm, rfl⟩ := chrs_mem hy
    rw [add_ss (by rw [List.length_append]; simp; omega)]
    have i8 : intOf (.int 8) = some 8 := rfl
    have sl : ∀ s : List Nat, sliceD (.str s) none (some 8) = some (.str (cutL s none (some 8))) := fun _ => rfl
    simp only [askM, pure_bind, i8, sl]
    refine ok_pure ⟨_, rfl, Tx.cut (((ta.app tb).app (tx_ch (n := 1) (z := [c]) (by simp) fun x m => by rw [List.mem_singleton.mp m]; exact hm c hcm)).up (by omega)) _ _⟩
  · rw [add_ss (by simp; omega)]
    simp only [askM, pure_bind]
    rw [add_ss (by simp; omega)]
    simp only [askM, pure_bind]
    exact ok_pure ⟨_, rfl, ((ta.app (⟨by decide, by decide⟩ : Tx 1 [42])).app tb).up (by omega)⟩
end FN
namespace FN
open DL PySem PySem.W
theorem join_tx9 {n m : Nat} {S : List Nat} (hS : Tx m S) : ∀ {ps : List (List Nat)}, (∀ z ∈ ps, Tx n z) → Tx (ps.length * (n + m)) (joinN S ps)
  | [], _ => ⟨Nat.zero_le _, fun c m => by cases m⟩
  | [z], h => (h z (.head _)).up (by simp)
  | z :: q :: r, h => by
    have ih := join_tx9 hS (ps := q :: r) fun x m => h x (.tail _ m)
    have e : joinN S (z :: q :: r) = z ++ (S ++ joinN S (q :: r)) := rfl
    rw [e]
    exact ((h z (.head _)).app (hS.app ih)).up (by simp only [List.length_cons, Nat.add_mul, Nat.one_mul]; omega)
theorem sum_len {n : Nat} : ∀ {ps : List (List Nat)}, (∀ z ∈ ps, Tx n z) → (ps.map (·.length)).sum ≤ ps.length * n
  | [], _ => by simp
  | z :: r, h => by
    have ih := sum_len (ps := r) fun x m => h x (.tail _ m)
    have := (h z (.head _)).1
    rw [List.map_cons, List.sum_cons, List.length_cons, Nat.add_mul, Nat.one_mul]
    omega
theorem text_d {cs : List Nat} (hc : cs ≠ []) (hl : cs.length ≤ 1000) (hm : ∀ c ∈ cs, c ∈ CH) : Ok (m__law_text_5544 [.lst (chrs cs)]) fun d => ∃ T, d = .str T ∧ Tx 300 T := by
  have sz3 : ∀ a b c : D, szL [a, b, c] = some [a, b, c] := fun a b c => sz_ok (by simp)
  have sz10 : ∀ a b c d e f g h i j : D, szL [a, b, c, d, e, f, g, h, i, j] = some [a, b, c, d, e, f, g, h, i, j] := fun a b c d e f g h i j => sz_ok (by simp)
  refine ok_runM ?_
  simp only [e__law_text_5544]
  rw [rng1_ok (j := 2) (by omega) (by omega)]
  simp only [askM, pure_bind]
  refine ok_then (ok_lc (P := fun _ r => ∃ z, r = .str z ∧ Tx 20 z) _ fun d _ => ⟨d, rfl, glob_d hc hl hm⟩) ?_
  intro rs hrs
  obtain ⟨A, rfl, al, hA⟩ := all2_P hrs
  rw [range_len] at al
  refine ok_then (lab_ok (n := 8) hc hl hm (by omega) (by omega)) ?_
  rintro d ⟨l, rfl, hlab⟩
  have i9 : intOf (.int 9) = some 9 := rfl
  have sl : ∀ s : List Nat, sliceD (.str s) none (some 9) = some (.str (cutL s none (some 9))) := fun _ => rfl
  simp only [i9, sl, sz3, askM, pure_bind]
  have hpool : ∀ z ∈ A ++ [[42], [42, 42], cutL l none (some 9)], Tx 20 z := by
    intro z m
    rcases List.mem_append.mp m with m | m
    · exact hA z m
    · simp only [List.mem_cons, List.not_mem_nil, or_false] at m
      rcases m with rfl | rfl | rfl
      · exact ⟨by decide, by decide⟩
      · exact ⟨by decide, by decide⟩
      · exact (lab_tx hlab).cut _ _
  have ad : addD (.lst (A.map D.str)) (.lst [.str [42], .str [42, 42], .str (cutL l none (some 9))]) = some (.lst ((A ++ [[42], [42, 42], cutL l none (some 9)]).map D.str)) := by
    rw [add_ll (by rw [List.length_map]; simp; omega), List.map_append]; rfl
  simp only [ad, askM, pure_bind]
  have hne : A ++ [[42], [42, 42], cutL l none (some 9)] ≠ [] := by simp
  have hlp : (A ++ [[42], [42, 42], cutL l none (some 9)]).length ≤ 10 := by rw [List.length_append]; simp; omega
  generalize A ++ [[42], [42, 42], cutL l none (some 9)] = Z at hpool hne hlp
  refine ok_then (take_ok (n := 7) (by omega) (by omega)) ?_
  rintro d ⟨i, rfl, i0, i1⟩
  rw [rng1_ok (by omega) (by omega)]
  simp only [askM, pure_bind]
  refine ok_then (ok_lc (P := fun _ r => ∃ z, r = .str z ∧ Tx 20 z) _ fun d _ => ⟨d, rfl, ?_⟩) ?_
  · refine ok_mono (of_ok (by simpa using hne) (by rw [List.length_map]; omega)) ?_
    intro y hy
    obtain ⟨z, hz, rfl⟩ := List.mem_map.mp hy
    exact ⟨z, rfl, hpool z hz⟩
  intro rs hrs
  obtain ⟨B, rfl, bl, hB⟩ := all2_P hrs
  rw [range_len] at bl
  refine ok_then (P := fun d : D => ∃ s, d = .str s ∧ Tx 1 s) ?_ ?_
  · refine ok_mono (of_ok (by simp) (by simp)) ?_
    intro y hy
    simp only [List.mem_cons, List.not_mem_nil, or_false] at hy
    rcases hy with rfl | rfl | rfl
    · exact ⟨_, rfl, by decide, by decide⟩
    · exact ⟨_, rfl, by decide, by decide⟩
    · exact ⟨_, rfl, by decide, by decide⟩
  rintro d ⟨s, rfl, hs⟩
  have b6 : B.length ≤ 6 := by omega
  have jt := join_tx9 hs hB
  have jt' : Tx 126 (joinN s B) := jt.up (by have : B.length * 21 ≤ 6 * 21 := Nat.mul_le_mul_right _ b6; omega)
  have sm := sum_len hB
  have jo : joinD (.str s) (.lst (B.map D.str)) = some (.str (joinN s B)) := join_ok (by
    have h1 : B.length * 20 ≤ 6 * 20 := Nat.mul_le_mul_right _ b6
    have h2 : B.length * s.length ≤ 6 * 1 := Nat.mul_le_mul b6 hs.1
    omega)
  simp only [str_of, jo, askM, pure_bind, iteM]
  generalize joinN s B = J at jt'
  refine ok_then (P := fun d : D => ∃ T, d = .str T ∧ Tx 127 T) ?_ ?_
  · refine ok_then (P := fun _ : Bool => True) ?_ fun b _ => ?_
    · refine ok_then (take_ok (n := 2) (by omega) (by omega)) ?_
      rintro d ⟨k, rfl, _, _⟩
      exact ok_ask eqi trivial
    · refine ok_ite (fun _ => ok_pure ⟨J, rfl, jt'.up (by omega)⟩) (fun _ => ?_)
      have hj := jt'.1
      refine ok_ask (add_ss (by simp; omega)) ⟨_, rfl, (Tx.app (⟨by decide, by decide⟩ : Tx 1 [47]) jt').up (by omega)⟩
  rintro d ⟨T, rfl, hT⟩
  have t1 := hT.1
  refine ok_then (take_ok (n := 3) (by omega) (by omega)) ?_
  rintro d ⟨k, rfl, _, _⟩
  refine ok_bind (ok_ask eqi ?_)
  refine ok_seqP (fun q => ∃ T, q = .str T ∧ Tx 300 T) ?_ ?_
  · refine ok_ite (fun _ => ?_) (fun _ => ok_pure ⟨T, rfl, hT.up (by omega)⟩)
    have ll : lenD [.str T] = some (.int (T.length : Int)) := rfl
    simp only [ll, add_ii, askM, pure_bind]
    refine ok_then (take_ok (by omega) (by omega)) ?_
    rintro d ⟨p, rfl, p0, p1⟩
    have io : ∀ i : Int, intOf (.int i) = some i := fun _ => rfl
    have s1 : ∀ (s : List Nat) (a b : Option Int), sliceD (.str s) a b = some (.str (cutL s a b)) := fun _ _ _ => rfl
    simp only [io, s1, sz10, askM, pure_bind]
    refine ok_then (P := fun d : D => ∃ s, d = .str s ∧ Tx 1 s) ?_ ?_
    · refine ok_mono (of_ok (by simp) (by simp)) ?_
      intro y hy
      simp only [List.mem_cons, List.not_mem_nil, or_false] at hy
      rcases hy with rfl | rfl | rfl | rfl | rfl | rfl | rfl | rfl | rfl | rfl <;> exact ⟨_, rfl, by decide, by decide⟩
    rintro d ⟨s, rfl, hs⟩
    have c1 := hT.cut none (some p)
    have c2 := hT.cut (some (p + 1)) none
    have l1 := c1.1
    have l2 := c2.1
    have l3 := hs.1
    rw [add_ss (by omega)]
    simp only [add_ii, io, s1, askM, pure_bind]
    rw [add_ss (by rw [List.length_append]; omega)]
    simp only [askM, pure_bind]
    exact ok_pure ⟨_, rfl, ((c1.app hs).app c2).up (by omega)⟩
  rintro q ⟨T, rfl, hT⟩
  exact ok_pure ⟨T, rfl, hT⟩
end FN
namespace FN
open DL PySem PySem.W
theorem repr_kRef {T : List Nat} (h : Tx 300 T) : ∃ s, reprD [kRef (.str T)] = some (.str s) := by
  refine repr_nic (n := 3) ?_ (by omega) ?_
  · have : nic 2 (.str T) = true := by simpa [nic] using h.2
    unfold kRef
    rw [nic_lst]
    refine nicL_iff.mpr fun d m => ?_
    simp only [List.mem_cons, List.not_mem_nil, or_false] at m
    rcases m with rfl | rfl | rfl | rfl
    · decide
    · exact this
    · rfl
    · rfl
  · have := h.1
    simp only [kRef, wt, wtL, List.length_cons, List.length_nil]; omega
theorem repr_kMad {T : List Nat} (h : Tx 300 T) : ∃ s, reprD [kMad (.str T)] = some (.str s) := by
  refine repr_nic (n := 3) ?_ (by omega) ?_
  · have : nic 2 (.str T) = true := by simpa [nic] using h.2
    unfold kMad
    rw [nic_lst]
    refine nicL_iff.mpr fun d m => ?_
    simp only [List.mem_cons, List.not_mem_nil, or_false] at m
    rcases m with rfl | rfl
    · decide
    · exact this
  · have := h.1
    simp only [kMad, wt, wtL, List.length_cons, List.length_nil]; omega
/-- one level, any text -/
theorem level_ok {lv T : List Nat} (hlv : lv = kLab ∨ lv = kHos ∨ lv = kPat) (h : Tx 300 T) : ∃ b, m__law_due_3125 [.str lv, .str T] = .ok (.bl b) ∧ m__law_asked_f01d [.str lv, .str T] = .ok (if b = true then kMad (.str T) else kRef (.str T)) := by
  have hT : T.length ≤ 1000000 := Nat.le_trans h.1 (by omega)
  rcases hlv with rfl | rfl | rfl
  · refine ⟨isIt T, due_label h.2, ?_⟩
    obtain ⟨h1, h2⟩ := label_init_any hT
    cases c : isIt T with
    | true => obtain ⟨fs, e⟩ := h1 c; exact (asked_lab (fs := fs)).1 e
    | false => exact (asked_lab (fs := [])).2 (h2 c)
  · refine ⟨goodH T, due_host h.2 hT, ?_⟩
    obtain ⟨h1, h2⟩ := host_init_any hT
    cases c : goodH T with
    | true => obtain ⟨fs, e⟩ := h1 c; exact (asked_hos (fs := fs)).1 e
    | false => exact (asked_hos (fs := [])).2 (h2 c)
  · refine ⟨goodP T, due_path h.2 hT, ?_⟩
    obtain ⟨h1, h2⟩ := path_init_any hT
    cases c : goodP T with
    | true => obtain ⟨fs, e⟩ := h1 c; exact (asked_pat (fs := fs)).1 e
    | false => exact (asked_pat (fs := [])).2 (h2 c)
abbrev ODD : List D := [.non, .bl true, .int 0, .int 1, .tup [], .lst [.str [97]], .tup [.str [97]], .lst [.str [47]], .int (-1), .tup [.str [47]], .lst [.tup []]]
theorem odd_is : ∀ d ∈ ODD, isiD "str" d = some (.bl false) := by
  intro d m
  simp only [ODD, List.mem_cons, List.not_mem_nil, or_false] at m
  rcases m with rfl | rfl | rfl | rfl | rfl | rfl | rfl | rfl | rfl | rfl | rfl <;> rfl
theorem odd_lab {d : D} (h : isiD "str" d = some (.bl false)) : m_LabelPattern_init_02ae [d] = raiseX "BadPattern" "pattern" d := by
  have e : m_is_label_text_206f [d] = .ok (.bl false) := by
    unfold m_is_label_text_206f apR1
    simp only [e_is_label_text_206f, h, DL.orM, DL.notM, askR, pure_bind, tru_bl, Bool.not_false, if_true]
    rfl
  unfold m_LabelPattern_init_02ae apI1
  simp only [e, pure_bind, lift_pR, okpR, tru_bl, askR, iteM, Bool.false_eq_true, if_false]
  exact pat_none
theorem odd_hos {d : D} (h : isiD "str" d = some (.bl false)) : m_HostPattern_init_23dd [d] = raiseX "BadPattern" "pattern" d := by
  have e : m_host_shape_b82b [d] = .ok .non := by
    unfold m_host_shape_b82b apR1
    simp only [e_host_shape_b82b, h, DL.notM, askR, pure_bind, tru_bl, Bool.not_false, if_true]
    rfl
  unfold m_HostPattern_init_23dd apI1
  simp only [e, pure_bind, lift_pR, okpR]
  exact pat_none
theorem odd_pat {d : D} (h : isiD "str" d = some (.bl false)) : m_PathPattern_init_28de [d] = raiseX "BadPattern" "pattern" d := by
  have e : m_path_shape_25b3 [d] = .ok .non := by
    unfold m_path_shape_25b3 apR1
    simp only [e_path_shape_25b3, h, DL.orM, DL.notM, askR, pure_bind, tru_bl, Bool.not_false, if_true]
    rfl
  unfold m_PathPattern_init_28de apI1
  simp only [e, pure_bind, lift_pR, okpR]
  exact pat_none
theorem odd_ok {d : D} (h : isiD "str" d = some (.bl false)) {lv : List Nat} (hlv : lv = kLab ∨ lv = kHos ∨ lv = kPat) : m__law_asked_f01d [.str lv, d] = .ok (kRef d) := by
  rcases hlv with rfl | rfl | rfl
  · exact (asked_lab (fs := [])).2 (odd_lab h)
  · exact (asked_hos (fs := [])).2 (odd_hos h)
  · exact (asked_pat (fs := [])).2 (odd_pat h)
theorem odd_repr : ∀ d ∈ ODD, ∃ s, reprD [kRef d] = some (.str s) := by
  intro d m
  simp only [ODD, List.mem_cons, List.not_mem_nil, or_false] at m
  rcases m with rfl | rfl | rfl | rfl | rfl | rfl | rfl | rfl | rfl | rfl | rfl <;> exact repr_nic (n := 5) (by decide) (by omega) (by decide)
end FN
namespace FN
open DL PySem PySem.W
abbrev T0 : List Nat := [97, 46, 98, 46, 42, 42, 46, 99, 46, 100, 46, 101]
theorem spl0 : TL.spl [46] 0 [] T0 = [[97], [98], [42, 42], [99], [100], [101]] := by decide +kernel
theorem good0 : goodH T0 = true := by
  unfold goodH
  rw [spl0]
  decide +kernel
theorem host0 : m_HostPattern_init_23dd [.str T0] = .ok [.str T0, c_HOST, .tup [.str [101], .str [100], .str [99]], .tup [.str [98], .str [97]], .bl true] := by
  have sg : m_shape_of_items_2081 [.lst ((TL.spl [46] 0 [] T0).reverse.map .str), limD 1 4 3 2] = .ok (.tup [.tup [.str [101], .str [100], .str [99]], .tup [.str [98], .str [97]], .bl true]) := by
    rw [spl0]
    exact shape_gap (A := [[101], [100], [99]]) (B := [[98], [97]]) (by decide +kernel) (by decide +kernel) (by decide) (by decide)
  have is1 : isiD "str" (.str T0) = some (.bl true) := rfl
  have sp := split_any (s := 46) (z := T0) (by omega) (by decide)
  have rv : revD (.lst ((TL.spl [46] 0 [] T0).map D.str)) = some (.lst ((TL.spl [46] 0 [] T0).reverse.map D.str)) := by
    rw [List.map_reverse]; rfl
  have e : m_host_shape_b82b [.str T0] = .ok (.tup [.tup [.str [101], .str [100], .str [99]], .tup [.str [98], .str [97]], .bl true]) := by
    refine Eq.trans ?_ sg
    unfold m_host_shape_b82b apR1
    simp only [e_host_shape_b82b, is1, askR, pure_bind, tru_bl, DL.notM, Bool.not_true, Bool.false_eq_true, if_false, sqp, str_of, sp, rv]
    exact runR_lift _
  unfold m_HostPattern_init_23dd apI1
  simp only [e, pure_bind, lift_pR, okpR]
  exact pat_some
theorem law_ok09 {ns : List Int} (hns : ns.length ≤ 63) : OkR (m_law_8576 [.scr ns]) fun d => d = .bl true := by
  have s0 : szL [] = some [] := sz_ok (by simp)
  have sz1 : ∀ a : D, szL [a] = some [a] := fun a => sz_ok (by simp)
  have s2 : ∀ a b : D, szL [a, b] = some [a, b] := fun a b => sz_ok (by simp)
  have s3 : ∀ a b c : D, szL [a, b, c] = some [a, b, c] := fun a b c => sz_ok (by simp)
  have s4 : ∀ a b c d : D, szL [a, b, c, d] = some [a, b, c, d] := fun a b c d => sz_ok (by simp)
  have s11 : szL ODD = some ODD := sz_ok (by decide)
  have nn : ∀ z : List Nat, (neD (.str z) (.str z)).bind bOf = some false := fun z => by rw [ne_ss, decide_eq_true rfl]; rfl
  have ng : negD (.int 1) = some (.int (-1)) := rfl
  have lvs : ∀ d ∈ ([.str kLab, .str kHos, .str kPat] : List D), ∃ lv, d = .str lv ∧ (lv = kLab ∨ lv = kHos ∨ lv = kPat) := by
    intro d m
    simp only [List.mem_cons, List.not_mem_nil, or_false] at m
    rcases m with rfl | rfl | rfl
    · exact ⟨_, rfl, .inl rfl⟩
    · exact ⟨_, rfl, .inr (.inl rfl)⟩
    · exact ⟨_, rfl, .inr (.inr rfl)⟩
  unfold m_law_8576 apR1
  refine okr_runR ?_
  simp only [e_law_8576, len_scr, minD, maxD, askR, pure_bind]
  rw [rng1_ok (by split <;> split <;> omega) (by split <;> split <;> omega)]
  simp only [askR, pure_bind]
  refine okr_seq (okr_forU _ (fun d hd => ⟨d, rfl, ?_⟩) ?_)
  · obtain ⟨k, hk, rfl⟩ := range_mem hd
    have hk6 : k < 6 := by revert hk; split <;> split <;> omega
    refine okr_then (bag_ok ns (i := 0 + (k : Int)) (by omega) (by omega)) ?_
    rintro d ⟨x, y, rfl, hy0, hy1⟩
    simp only [lstOf, askR, pure_bind]
    refine okr_bag hy0 hy1 ?_
    refine ok_then (signs_ok (n := 2) (by omega) (by omega)) ?_
    rintro d ⟨cs, rfl, hcl, _, hcm⟩
    have hc : cs ≠ [] := fun e => by rw [e] at hcl; simp at hcl
    rw [rng1_ok (j := 6) (by omega) (by omega)]
    simp only [askM, pure_bind]
    refine ok_seq (ok_forU _ (fun d hd => ⟨d, rfl, ?_⟩) (ok_pure trivial))
    refine ok_then (text_d hc (by omega) hcm) ?_
    rintro d ⟨T, rfl, hT⟩
    simp only [s3, it_lst, askM, pure_bind]
    refine ok_seq (ok_forU _ (fun d hd => ⟨d, rfl, ?_⟩) (ok_pure trivial))
    obtain ⟨lv, rfl, hlv⟩ := lvs d hd
    obtain ⟨b, e1, e2⟩ := level_ok hlv hT
    obtain ⟨z1, r1⟩ := repr_kRef hT
    obtain ⟨z2, r2⟩ := repr_kMad hT
    cases b with
    | true =>
      have e2' : m__law_asked_f01d [.str lv, .str T] = .ok (.lst [.str [109, 97, 100, 101], .str T]) := e2
      have r2' : reprD [.lst [.str [109, 97, 100, 101], .str T]] = some (.str z2) := r2
      simp only [e1, e2', lift_M, tru_bl, iteM, mkL, s2, r2', nn, askM, pure_bind, if_true, Bool.false_eq_true, if_false]
      exact ok_seq (ok_pure (ok_pure trivial))
    | false =>
      have e2' : m__law_asked_f01d [.str lv, .str T] = .ok (.lst [.str [114, 101, 102, 117, 115, 101, 100], .str T, .bl true, .bl false]) := e2
      have r1' : reprD [.lst [.str [114, 101, 102, 117, 115, 101, 100], .str T, .bl true, .bl false]] = some (.str z1) := r1
      simp only [e1, e2', lift_M, tru_bl, iteM, mkL, s4, r1', nn, askM, pure_bind, Bool.false_eq_true, if_false]
      exact ok_seq (ok_pure (ok_pure trivial))
  · show OkR _ _
    have s11' : szL [D.non, .bl true, .int 0, .int 1, .tup [], .lst [.str [97]], .tup [.str [97]], .lst [.str [47]], .int (-1), .tup [.str [47]], .lst [.tup []]] = some ODD := s11
    simp only [s0, sz1, ng, s11', it_lst, askR, pure_bind]
    refine okr_seq (okr_forU _ (fun d hd => ⟨d, rfl, ?_⟩) ?_)
    · have ho := odd_is d hd
      obtain ⟨z, hz⟩ := odd_repr d hd
      have hz' : reprD [.lst [.str [114, 101, 102, 117, 115, 101, 100], d, .bl true, .bl false]] = some (.str z) := hz
      simp only [s3, it_lst, askR, pure_bind]
      refine okr_seq (okr_forU _ (fun d' hd' => ⟨d', rfl, ?_⟩) (okr_p trivial))
      obtain ⟨lv, rfl, hlv⟩ := lvs d' hd'
      have e : m__law_asked_f01d [.str lv, d] = .ok (.lst [.str [114, 101, 102, 117, 115, 101, 100], d, .bl true, .bl false]) := odd_ok ho hlv
      simp only [e, lift_pR, okpR, s4, hz', nn, askR, pure_bind, Bool.false_eq_true, if_false]
      exact okr_seq (okr_p (okr_p trivial))
    · have d0 : m__law_due_3125 [.str [104, 111, 115, 116], .str [97, 46, 98, 46, 42, 42, 46, 99, 46, 100, 46, 101]] = .ok (.bl true) := by
        have := due_host (T := T0) (by decide) (by decide)
        rw [good0] at this
        exact this
      have h0 : m_HostPattern_init_23dd [.str [97, 46, 98, 46, 42, 42, 46, 99, 46, 100, 46, 101]] = .ok [.str T0, c_HOST, .tup [.str [101], .str [100], .str [99]], .tup [.str [98], .str [97]], .bl true] := host0
      have ft : fldD ["LabelPattern", "HostPattern", "PathPattern"] "tail" (D.ins "HostPattern" ["text", "level", "head", "tail", "gap"] [.str T0, c_HOST, .tup [.str [101], .str [100], .str [99]], .tup [.str [98], .str [97]], .bl true]) = some (.tup [.str [98], .str [97]]) := rfl
      have eq : eqD (.tup [.str [98], .str [97]]) (.tup [.str [98], .str [97]]) = some (.bl true) := by
        rw [eq_nic (n := 3) (m := 3) (by decide) (by decide) (by omega) (by omega), deq_refl 3 _ (by decide)]
      show OkR _ _
      simp only [d0, h0, ft, eq, andV, lift_pR, okpR, s2, askR, pure_bind, tru_bl, if_true]
      exact okr_p rfl
theorem law_8576_true (ns : List Int) (hn : ns.length ≤ 63) : m_law_8576 [.scr ns] = .ok (.bl true) := by
  obtain ⟨d, e, rfl⟩ := law_ok09 hn
  exact e
end FN
/-! ### offeredentry_k09_texts_of_patterns_refus: the program in the data layer (printed) -/
namespace K09
open PySem L2 DL FN
def top (i : Nat) : Stmt := PySem.Challenge.pw_offeredentry_k09_texts_of_patterns_refus.main.body.getD i (.Pass ⟨0, 0, 0, 0⟩)
def topC (i j : Nat) : Stmt := match top i with
  | .ClassDef _ _ _ body _ _ _ _ _ _ _ => body.getD j (.Pass ⟨0, 0, 0, 0⟩)
  | _ => .Pass ⟨0, 0, 0, 0⟩
abbrev s_label_shape : Stmt := top 15
abbrev N_label_shape : List Str := ["text", "head", "star", "tail"]
theorem sc_label_shape : FnScope N_label_shape ["text"] (defScope s_label_shape) := ⟨rfl, rfl, rfl, by decide +kernel, rfl, by decide +kernel, by decide +kernel⟩
abbrev s_is_label_text : Stmt := top 23
abbrev N_is_label_text : List Str := ["thing", "sign"]
theorem sc_is_label_text : FnScope N_is_label_text ["thing"] (defScope s_is_label_text) := ⟨rfl, rfl, rfl, by decide +kernel, rfl, by decide +kernel, by decide +kernel⟩
abbrev s__law_bag : Stmt := top 32
abbrev N__law_bag : List Str := ["_law_script", "_law_at", "_law_cell", "_law_mixed", "_law_k", "_law_one"]
theorem sc__law_bag : FnScope N__law_bag ["_law_script", "_law_at"] (defScope s__law_bag) := ⟨rfl, rfl, rfl, by decide +kernel, rfl, by decide +kernel, by decide +kernel⟩
abbrev s__law_take : Stmt := top 33
abbrev N__law_take : List Str := ["_law_bag_here", "_law_many", "_law_digit"]
theorem sc__law_take : FnScope N__law_take ["_law_bag_here", "_law_many"] (defScope s__law_take) := ⟨rfl, rfl, rfl, by decide +kernel, rfl, by decide +kernel, by decide +kernel⟩
abbrev s__law_is_glob : Stmt := top 40
abbrev N__law_is_glob : List Str := ["_law_text_here", "_law_signs_here", "_law_sign"]
theorem sc__law_is_glob : FnScope N__law_is_glob ["_law_text_here"] (defScope s__law_is_glob) := ⟨rfl, rfl, rfl, by decide +kernel, rfl, by decide +kernel, by decide +kernel⟩
abbrev s_Pattern_init : Stmt := topC 27 0
abbrev N_Pattern_init : List Str := ["self", "text", "level", "shape"]
theorem sc_Pattern_init : FnScope N_Pattern_init ["self", "text", "level", "shape"] (defScope s_Pattern_init) := ⟨rfl, rfl, rfl, by decide +kernel, rfl, by decide +kernel, by decide +kernel⟩
abbrev s_shape_of_items : Stmt := top 24
abbrev N_shape_of_items : List Str := ["items", "limits", "gaps", "least", "most", "most_head", "most_tail", "head", "tail", "at", "item"]
theorem sc_shape_of_items : FnScope N_shape_of_items ["items", "limits"] (defScope s_shape_of_items) := ⟨rfl, rfl, rfl, by decide +kernel, rfl, by decide +kernel, by decide +kernel⟩
abbrev s__law_of : Stmt := top 34
abbrev N__law_of : List Str := ["_law_bag_here", "_law_some"]
theorem sc__law_of : FnScope N__law_of ["_law_bag_here", "_law_some"] (defScope s__law_of) := ⟨rfl, rfl, rfl, by decide +kernel, rfl, by decide +kernel, by decide +kernel⟩
abbrev s__law_signs : Stmt := top 35
abbrev N__law_signs : List Str := ["_law_bag_here", "_law_many", "_law_turn", "_law_left", "_law_found"]
theorem sc__law_signs : FnScope N__law_signs ["_law_bag_here", "_law_many"] (defScope s__law_signs) := ⟨rfl, rfl, rfl, by decide +kernel, rfl, by decide +kernel, by decide +kernel⟩
abbrev s__law_are_items : Stmt := top 41
abbrev N__law_are_items : List Str := ["_law_items", "_law_least", "_law_most", "_law_ahead", "_law_behind", "_law_text_here"]
theorem sc__law_are_items : FnScope N__law_are_items ["_law_items", "_law_least", "_law_most", "_law_ahead", "_law_behind"] (defScope s__law_are_items) := ⟨rfl, rfl, rfl, by decide +kernel, rfl, by decide +kernel, by decide +kernel⟩
abbrev s_LabelPattern_init : Stmt := topC 28 0
abbrev N_LabelPattern_init : List Str := ["self", "text", "__class__"]
theorem sc_LabelPattern_init : NdefX.NScope N_LabelPattern_init ["self", "text"] ["__class__"] (defScope s_LabelPattern_init) := NdefX.nscope_by (by decide +kernel)
abbrev s_host_shape : Stmt := top 25
abbrev N_host_shape : List Str := ["thing"]
theorem sc_host_shape : FnScope N_host_shape ["thing"] (defScope s_host_shape) := ⟨rfl, rfl, rfl, by decide +kernel, rfl, by decide +kernel, by decide +kernel⟩
abbrev s_path_shape : Stmt := top 26
abbrev N_path_shape : List Str := ["thing"]
theorem sc_path_shape : FnScope N_path_shape ["thing"] (defScope s_path_shape) := ⟨rfl, rfl, rfl, by decide +kernel, rfl, by decide +kernel, by decide +kernel⟩
abbrev s__law_label : Stmt := top 36
abbrev N__law_label : List Str := ["_law_bag_here", "_law_signs_here", "_law_most", "_law_text_here", "_law_way", "_law_at", "_law_turn"]
theorem sc__law_label : FnScope N__law_label ["_law_bag_here", "_law_signs_here", "_law_most"] (defScope s__law_label) := ⟨rfl, rfl, rfl, by decide +kernel, rfl, by decide +kernel, by decide +kernel⟩
abbrev s__law_glob : Stmt := top 37
abbrev N__law_glob : List Str := ["_law_bag_here", "_law_signs_here", "_law_most", "_law_way", "_law_ahead", "_law_behind", "_law_turn"]
theorem sc__law_glob : FnScope N__law_glob ["_law_bag_here", "_law_signs_here", "_law_most"] (defScope s__law_glob) := ⟨rfl, rfl, rfl, by decide +kernel, rfl, by decide +kernel, by decide +kernel⟩
abbrev s__law_due : Stmt := top 42
abbrev N__law_due : List Str := ["_law_level", "_law_text_here"]
theorem sc__law_due : FnScope N__law_due ["_law_level", "_law_text_here"] (defScope s__law_due) := ⟨rfl, rfl, rfl, by decide +kernel, rfl, by decide +kernel, by decide +kernel⟩
abbrev s__law_text : Stmt := top 44
abbrev N__law_text : List Str := ["_law_bag_here", "_law_signs_here", "_law_pool", "_law_items", "_law_text_here", "_law_place", "_law_turn"]
theorem sc__law_text : FnScope N__law_text ["_law_bag_here", "_law_signs_here"] (defScope s__law_text) := ⟨rfl, rfl, rfl, by decide +kernel, rfl, by decide +kernel, by decide +kernel⟩
abbrev s_HostPattern_init : Stmt := topC 29 0
abbrev N_HostPattern_init : List Str := ["self", "text", "__class__"]
theorem sc_HostPattern_init : NdefX.NScope N_HostPattern_init ["self", "text"] ["__class__"] (defScope s_HostPattern_init) := NdefX.nscope_by (by decide +kernel)
abbrev s_PathPattern_init : Stmt := topC 30 0
abbrev N_PathPattern_init : List Str := ["self", "text", "__class__"]
theorem sc_PathPattern_init : NdefX.NScope N_PathPattern_init ["self", "text"] ["__class__"] (defScope s_PathPattern_init) := NdefX.nscope_by (by decide +kernel)
abbrev s__law_asked : Stmt := top 43
abbrev N__law_asked : List Str := ["_law_level", "_law_thing", "e"]
theorem sc__law_asked : FnScope N__law_asked ["_law_level", "_law_thing"] (defScope s__law_asked) := ⟨rfl, rfl, rfl, by decide +kernel, rfl, by decide +kernel, by decide +kernel⟩
abbrev s_law : Stmt := top 45
abbrev N_law : List Str := ["_law_script", "_law_at", "_law_thing", "_law_bag_here", "_law_signs_here", "_law_turn", "_law_level", "_law_text_here", "_law_due_here"]
theorem sc_law : FnScope N_law ["_law_script"] (defScope s_law) := ⟨rfl, rfl, rfl, by decide +kernel, rfl, by decide +kernel, by decide +kernel⟩
structure Ad where
  a_label_shape : Addr
  f_label_shape : FuncData
  a_is_label_text : Addr
  f_is_label_text : FuncData
  a__law_bag : Addr
  f__law_bag : FuncData
  a__law_take : Addr
  f__law_take : FuncData
  a__law_is_glob : Addr
  f__law_is_glob : FuncData
  a_Pattern_init : Addr
  f_Pattern_init : FuncData
  a_shape_of_items : Addr
  f_shape_of_items : FuncData
  a__law_of : Addr
  f__law_of : FuncData
  a__law_signs : Addr
  f__law_signs : FuncData
  a__law_are_items : Addr
  f__law_are_items : FuncData
  a_LabelPattern_init : Addr
  f_LabelPattern_init : FuncData
  a_host_shape : Addr
  f_host_shape : FuncData
  a_path_shape : Addr
  f_path_shape : FuncData
  a__law_label : Addr
  f__law_label : FuncData
  a__law_glob : Addr
  f__law_glob : FuncData
  a__law_due : Addr
  f__law_due : FuncData
  a__law_text : Addr
  f__law_text : FuncData
  a_HostPattern_init : Addr
  f_HostPattern_init : FuncData
  a_PathPattern_init : Addr
  f_PathPattern_init : FuncData
  a__law_asked : Addr
  f__law_asked : FuncData
  a_law : Addr
  f_law : FuncData
  C_HostPattern : Addr
  C_LabelPattern : Addr
  C_PathPattern : Addr
  x_BadItem : Addr
  i_BadItem : Addr
  x_BadPattern : Addr
  i_BadPattern : Addr
structure Txt (P : Program) (K : PySem.W.Frag) (mg : Str → Option Value) (A : Ad) : Prop where
  m_label_shape : mg "label_shape" = some (.ref A.a_label_shape)
  F_label_shape : Fun K "label_shape" "label_shape" s_label_shape A.a_label_shape A.f_label_shape
  b_label_shape : Binds K A.f_label_shape ["text"] []
  m_is_label_text : mg "is_label_text" = some (.ref A.a_is_label_text)
  F_is_label_text : Fun K "is_label_text" "is_label_text" s_is_label_text A.a_is_label_text A.f_is_label_text
  b_is_label_text : Binds K A.f_is_label_text ["thing"] []
  m__law_bag : mg "_law_bag" = some (.ref A.a__law_bag)
  F__law_bag : Fun K "_law_bag" "_law_bag" s__law_bag A.a__law_bag A.f__law_bag
  b__law_bag : Binds K A.f__law_bag ["_law_script", "_law_at"] []
  m__law_take : mg "_law_take" = some (.ref A.a__law_take)
  F__law_take : Fun K "_law_take" "_law_take" s__law_take A.a__law_take A.f__law_take
  b__law_take : Binds K A.f__law_take ["_law_bag_here", "_law_many"] []
  m__law_is_glob : mg "_law_is_glob" = some (.ref A.a__law_is_glob)
  F__law_is_glob : Fun K "_law_is_glob" "_law_is_glob" s__law_is_glob A.a__law_is_glob A.f__law_is_glob
  b__law_is_glob : Binds K A.f__law_is_glob ["_law_text_here"] []
  F_Pattern_init : Fun K "__init__" "Pattern.__init__" s_Pattern_init A.a_Pattern_init A.f_Pattern_init
  b_Pattern_init : Binds K A.f_Pattern_init ["self", "text", "level", "shape"] []
  m_shape_of_items : mg "shape_of_items" = some (.ref A.a_shape_of_items)
  F_shape_of_items : Fun K "shape_of_items" "shape_of_items" s_shape_of_items A.a_shape_of_items A.f_shape_of_items
  b_shape_of_items : Binds K A.f_shape_of_items ["items", "limits"] []
  m__law_of : mg "_law_of" = some (.ref A.a__law_of)
  F__law_of : Fun K "_law_of" "_law_of" s__law_of A.a__law_of A.f__law_of
  b__law_of : Binds K A.f__law_of ["_law_bag_here", "_law_some"] []
  m__law_signs : mg "_law_signs" = some (.ref A.a__law_signs)
  F__law_signs : Fun K "_law_signs" "_law_signs" s__law_signs A.a__law_signs A.f__law_signs
  b__law_signs : Binds K A.f__law_signs ["_law_bag_here", "_law_many"] []
  m__law_are_items : mg "_law_are_items" = some (.ref A.a__law_are_items)
  F__law_are_items : Fun K "_law_are_items" "_law_are_items" s__law_are_items A.a__law_are_items A.f__law_are_items
  b__law_are_items : Binds K A.f__law_are_items ["_law_items", "_law_least", "_law_most", "_law_ahead", "_law_behind"] []
  F_LabelPattern_init : SupFun P K mg "__init__" "LabelPattern.__init__" s_LabelPattern_init A.a_LabelPattern_init A.a_Pattern_init A.C_LabelPattern A.f_LabelPattern_init
  b_LabelPattern_init : Binds K A.f_LabelPattern_init ["self", "text"] []
  m_host_shape : mg "host_shape" = some (.ref A.a_host_shape)
  F_host_shape : Fun K "host_shape" "host_shape" s_host_shape A.a_host_shape A.f_host_shape
  b_host_shape : Binds K A.f_host_shape ["thing"] []
  m_path_shape : mg "path_shape" = some (.ref A.a_path_shape)
  F_path_shape : Fun K "path_shape" "path_shape" s_path_shape A.a_path_shape A.f_path_shape
  b_path_shape : Binds K A.f_path_shape ["thing"] []
  m__law_label : mg "_law_label" = some (.ref A.a__law_label)
  F__law_label : Fun K "_law_label" "_law_label" s__law_label A.a__law_label A.f__law_label
  b__law_label : Binds K A.f__law_label ["_law_bag_here", "_law_signs_here", "_law_most"] []
  m__law_glob : mg "_law_glob" = some (.ref A.a__law_glob)
  F__law_glob : Fun K "_law_glob" "_law_glob" s__law_glob A.a__law_glob A.f__law_glob
  b__law_glob : Binds K A.f__law_glob ["_law_bag_here", "_law_signs_here", "_law_most"] []
  m__law_due : mg "_law_due" = some (.ref A.a__law_due)
  F__law_due : Fun K "_law_due" "_law_due" s__law_due A.a__law_due A.f__law_due
  b__law_due : Binds K A.f__law_due ["_law_level", "_law_text_here"] []
  m__law_text : mg "_law_text" = some (.ref A.a__law_text)
  F__law_text : Fun K "_law_text" "_law_text" s__law_text A.a__law_text A.f__law_text
  b__law_text : Binds K A.f__law_text ["_law_bag_here", "_law_signs_here"] []
  F_HostPattern_init : SupFun P K mg "__init__" "HostPattern.__init__" s_HostPattern_init A.a_HostPattern_init A.a_Pattern_init A.C_HostPattern A.f_HostPattern_init
  b_HostPattern_init : Binds K A.f_HostPattern_init ["self", "text"] []
  F_PathPattern_init : SupFun P K mg "__init__" "PathPattern.__init__" s_PathPattern_init A.a_PathPattern_init A.a_Pattern_init A.C_PathPattern A.f_PathPattern_init
  b_PathPattern_init : Binds K A.f_PathPattern_init ["self", "text"] []
  m__law_asked : mg "_law_asked" = some (.ref A.a__law_asked)
  F__law_asked : Fun K "_law_asked" "_law_asked" s__law_asked A.a__law_asked A.f__law_asked
  b__law_asked : Binds K A.f__law_asked ["_law_level", "_law_thing"] []
  m_law : mg "law" = some (.ref A.a_law)
  F_law : Fun K "law" "law" s_law A.a_law A.f_law
  b_law : Binds K A.f_law ["_law_script"] []
  C_HostPattern : ClsN K mg "HostPattern" A.C_HostPattern
  na_HostPattern : ∀ f ∈ (["text", "level", "head", "tail", "gap"] : List Str), NoAttr K A.C_HostPattern f
  M_HostPattern : Mk K A.C_HostPattern A.a_HostPattern_init
  C_LabelPattern : ClsN K mg "LabelPattern" A.C_LabelPattern
  na_LabelPattern : ∀ f ∈ (["text", "level", "head", "tail", "gap"] : List Str), NoAttr K A.C_LabelPattern f
  M_LabelPattern : Mk K A.C_LabelPattern A.a_LabelPattern_init
  C_PathPattern : ClsN K mg "PathPattern" A.C_PathPattern
  na_PathPattern : ∀ f ∈ (["text", "level", "head", "tail", "gap"] : List Str), NoAttr K A.C_PathPattern f
  M_PathPattern : Mk K A.C_PathPattern A.a_PathPattern_init
  x_BadItem : PySem.OwnX.OwnTxt K mg "BadItem" "item" "BadItem.__init__" A.x_BadItem A.i_BadItem
  x_BadPattern : PySem.OwnX.OwnTxt K mg "BadPattern" "pattern" "BadPattern.__init__" A.x_BadPattern A.i_BadPattern
  e_BadPattern : ExcC K A.x_BadPattern
  ki_BadPattern_ValueError : PySem.W.kitOne K (.ref A.x_BadPattern) (.type "ValueError") = some true
  ko_BadPattern_BadItem : PySem.W.kitOne K (.ref A.x_BadPattern) (.ref A.x_BadItem) = some false
  k_BadItem : Known K mg [("BadItem", "item"), ("BadPattern", "pattern")] "BadItem" A.x_BadItem
  k_BadPattern : Known K mg [("BadItem", "item"), ("BadPattern", "pattern")] "BadPattern" A.x_BadPattern
  z_ValueError : mg "ValueError" = none
  z_abs : mg "abs" = none
  z_all : mg "all" = none
  z_enumerate : mg "enumerate" = none
  z_int : mg "int" = none
  z_isinstance : mg "isinstance" = none
  z_len : mg "len" = none
  z_list : mg "list" = none
  z_max : mg "max" = none
  z_min : mg "min" = none
  z_range : mg "range" = none
  z_repr : mg "repr" = none
  z_str : mg "str" = none
  z_tuple : mg "tuple" = none
  c_CHARACTERS : GlobIs K mg "CHARACTERS" c_CHARACTERS
  c_GAP : GlobIs K mg "GAP" c_GAP
  c_HOST : GlobIs K mg "HOST" c_HOST
  c_HOST_LIMITS : GlobIs K mg "HOST_LIMITS" c_HOST_LIMITS
  c_LABEL : GlobIs K mg "LABEL" c_LABEL
  c_LONGEST_TEXT : GlobIs K mg "LONGEST_TEXT" c_LONGEST_TEXT
  c_PATH : GlobIs K mg "PATH" c_PATH
  c_PATH_LIMITS : GlobIs K mg "PATH_LIMITS" c_PATH_LIMITS
section
variable {P : Program} {w : World} {K : PySem.W.Frag} {mg : Str → Option Value} {base : Heap} {A : Ad}
theorem fo_tail (T : Txt P K mg A) : FldOk K mg "tail" ["LabelPattern", "HostPattern", "PathPattern"] := fun c hc => by
  simp only [List.mem_cons, List.not_mem_nil, or_false] at hc
  rcases hc with rfl | rfl | rfl
  · exact ⟨_, T.C_LabelPattern.mg, T.C_LabelPattern.cl, T.na_LabelPattern _ (by decide +kernel)⟩
  · exact ⟨_, T.C_HostPattern.mg, T.C_HostPattern.cl, T.na_HostPattern _ (by decide +kernel)⟩
  · exact ⟨_, T.C_PathPattern.mg, T.C_PathPattern.cl, T.na_PathPattern _ (by decide +kernel)⟩
theorem fo_text (T : Txt P K mg A) : FldOk K mg "text" ["LabelPattern", "HostPattern", "PathPattern"] := fun c hc => by
  simp only [List.mem_cons, List.not_mem_nil, or_false] at hc
  rcases hc with rfl | rfl | rfl
  · exact ⟨_, T.C_LabelPattern.mg, T.C_LabelPattern.cl, T.na_LabelPattern _ (by decide +kernel)⟩
  · exact ⟨_, T.C_HostPattern.mg, T.C_HostPattern.cl, T.na_HostPattern _ (by decide +kernel)⟩
  · exact ⟨_, T.C_PathPattern.mg, T.C_PathPattern.cl, T.na_PathPattern _ (by decide +kernel)⟩
theorem g_label_shape (T : Txt P K mg A) : FnG P w K mg base 1 A.a_label_shape A.f_label_shape ["text"] (spR K mg false 1 m_label_shape_c600) := by
  refine fnR (nr := false) (k := 0) T.F_label_shape sc_label_shape rfl (by decide) (fun cdv Ar outer s H Hf E ds C hl => ?_)
  match ds, hl with
  | [a0], _ => exact ⟨b_label_shape_c600 a0, (dss_unp (pgd_tup3 C 1 2 3) (de_part (de_var 0) (de_str [42])) fun c2 => (pss_k (l_label_shape_c600_0 _) (dss_ret (de_tup (da_cons (de_callTy (oc_tupleX C.calm) (by rfl) T.z_tuple rfl (da_cons (de_var 1) da_nil)) (da_cons (de_callTy (oc_tupleX C.calm) (by rfl) T.z_tuple rfl (da_cons (de_var 3) da_nil)) (da_cons (de_cmp (od_eq C.rm.units) (de_var 2) (de_str [42]) (by rfl)) da_nil))))))), rfl⟩
theorem g_is_label_text (T : Txt P K mg A) : FnG P w K mg base 1 A.a_is_label_text A.f_is_label_text ["thing"] (spR K mg false 1 m_is_label_text_206f) := by
  refine fnR (nr := false) (k := 0) T.F_is_label_text sc_is_label_text rfl (by decide) (fun cdv Ar outer s H Hf E ds C hl => ?_)
  match ds, hl with
  | [a0], _ => exact ⟨b_is_label_text_206f a0, (dss_if (exA := fun (q11 : Unit) => [.im a0, .un]) (dw_or (dt_not (dt_tru (de_isi "str" (de_var 0) (by rfl) T.z_isinstance (by rfl) T.z_str rfl))) (dw_or (dt_not (dt_chain (od_le C.rm.units) (od_le C.rm.units) de_int (de_callB oc_len (by rfl) T.z_len rfl (da_cons (de_var 0) da_nil)) (de_globI (by rfl) T.c_LONGEST_TEXT))) (dw_or1 (dt_cmp (od_gt C.rm.units) (de_count (de_var 0) (de_str [42])) de_int (by rfl))))).pt (dss_ret de_bl) (dss_nil (a := ()) (And.intro (Or.inl rfl) (And.intro (Or.inr rfl) (trivial)))) fun q11 => (dss_ret (de_not (de_frz (df_lc [("sign", 1)] C (di_any (de_var 0)) (blkOk_by (N := N_is_label_text) (sc := defScope s_is_label_text) (by decide +kernel)) (fun s H A cl fp => (pgd_name (C.blk _ _ _ _ _) 1)) (fun s H A cl fp C14 c15 => (pts_test (dw_and (dt_cmp (od_ne C14.rm.units) (de_var 1) (de_str [42]) (by rfl)) (dw_and1 (dt_cmp (od_notIn (hu65 C14.rm)) (de_var 1) (de_globI (by rfl) T.c_CHARACTERS) (by rfl)))).pt)) (fun s H A cl fp C14 c15 => (de_var 1)) (by decide)))))), rfl⟩
theorem g__law_bag (T : Txt P K mg A) : FnG P w K mg base 1 A.a__law_bag A.f__law_bag ["_law_script", "_law_at"] (spR K mg true 2 m__law_bag_fbbe) := by
  refine fnR (nr := true) (k := 0) T.F__law_bag sc__law_bag rfl (by decide) (fun cdv Ar outer s H Hf E ds C hl => ?_)
  match ds, hl with
  | [a0, a1], _ => exact ⟨b__law_bag_fbbe a0 a1, (dss_asg C 2 (de_ifExp (dt_cmp (od_lt C.rm.units) (de_var 1) (de_callB oc_len (by rfl) T.z_len rfl (da_cons (de_var 0) da_nil)) (by rfl)) (de_callB oc_abs (by rfl) T.z_abs rfl (da_cons (de_ix (de_var 0) (de_var 1)) da_nil)) de_int) fun v1 => (dss_asg C 3 (de_op od_add de_int (de_op od_mul de_int (de_var 1))) fun v12 => (dss_for (exl := fun (q25 : D) => [.im a0, .im a1, .im v1, .im q25, .un, .un]) v12 C (di_enumL (by rfl) T.z_enumerate (da_cons (de_sl (de_var 0) do_none (do_some de_int)) da_nil)) (pgd_tup2 C 4 5) (And.intro (Or.inl rfl) (And.intro (Or.inl rfl) (And.intro (Or.inl rfl) (And.intro (Or.inl rfl) (And.intro (Or.inr rfl) (And.intro (Or.inr rfl) (trivial))))))) (fun q25 c26 => (dss_asg C 3 (de_op od_mod (de_callTy oc_int (by rfl) T.z_int rfl (da_cons (de_op od_add (de_op od_add (de_op od_mul (de_var 3) de_int) (de_op od_mod (de_callTy oc_int (by rfl) T.z_int rfl (da_cons (de_var 5) da_nil)) de_int)) (de_op od_mul de_int (de_var 4))) da_nil)) de_int) fun v27 => (dss_nil (a := v27) (And.intro (Or.inl rfl) (And.intro (Or.inl rfl) (And.intro (Or.inl rfl) (And.intro (Or.inl rfl) (And.intro (Or.inr rfl) (And.intro (Or.inr rfl) (trivial)))))))))) fun q46 => (dss_retF (df_list (da_cons (de_ifExp (dt_cmp (od_ge C.rm.units) (de_var 2) (de_op od_powC de_int de_int) (by rfl)) (de_var 2) de_int) (da_cons (de_var 3) da_nil))))))), rfl⟩
theorem g__law_take (T : Txt P K mg A) : FnG P w K mg base 1 A.a__law_take A.f__law_take ["_law_bag_here", "_law_many"] (spM K mg false (1 + 1) m__law_take_6859) := by
  refine fnM (nr := false) (k := 0) T.F__law_take sc__law_take rfl (by decide) (fun cdv Ar outer s H Hf bag E ds C hl => ?_)
  match ds, hl with
  | [a1], _ => exact ⟨b__law_take_6859 a1, (dss_if (exA := fun (q3 : Unit) => [.bg, .im a1, .un]) (dt_cmp (od_gt C.rm.units) (de_bagX 0) de_int (by rfl)) (dss_asg C 2 (de_op od_mod (de_callTy oc_int (by rfl) T.z_int rfl (da_cons (de_bagX 0) da_nil)) (de_var 1)) fun v4 => (dss_bagSetX 0 (de_op od_fdiv (de_bagX 0) (de_var 1)) (dss_ret (de_var 2)))) (dss_nil (a := ()) (And.intro (Or.inl rfl) (And.intro (Or.inl rfl) (And.intro (Or.inr rfl) (trivial))))) fun q3 => (dss_bagSetY 0 (de_op od_mod (de_callTy oc_int (by rfl) T.z_int rfl (da_cons (de_op od_add (de_op od_mul (de_bagY 0) de_int) de_int) da_nil)) de_int) (dss_ret (de_op od_mod (de_op od_fdiv (de_op od_mod (de_callTy oc_int (by rfl) T.z_int rfl (da_cons (de_op od_mul (de_op od_fdiv (de_bagY 0) de_int) de_int) da_nil)) de_int) de_int) (de_var 1))))), rfl⟩
theorem g__law_is_glob (T : Txt P K mg A) : FnG P w K mg base 1 A.a__law_is_glob A.f__law_is_glob ["_law_text_here"] (spR K mg false 1 m__law_is_glob_a031) := by
  refine fnR (nr := false) (k := 0) T.F__law_is_glob sc__law_is_glob rfl (by decide) (fun cdv Ar outer s H Hf E ds C hl => ?_)
  match ds, hl with
  | [a0], _ => exact ⟨b__law_is_glob_a031 a0, (dss_asg C 1 (de_frz (df_callTy (oc_list C.calm) (by rfl) T.z_list rfl (da_cons (de_str [48, 49, 50, 51, 52, 53, 54, 55, 56, 57, 97, 98, 99, 100, 101, 102, 103, 104, 105, 106, 107, 108, 109, 110, 111, 112, 113, 114, 115, 116, 117, 118, 119, 120, 121, 122, 42]) da_nil))) fun v1 => (pss_k (l__law_is_glob_a031_0 _ _) (dss_ret (de_and (de_chain (od_le C.rm.units) (od_le C.rm.units) de_int (de_callB oc_len (by rfl) T.z_len rfl (da_cons (de_var 0) da_nil)) de_int) (de_and (de_cmp (od_lt C.rm.units) (de_count (de_var 0) (de_str [42])) de_int (by rfl)) (de_one (de_callB (oc_all C.calm) (by rfl) T.z_all rfl (da_cons (de_frz (df_lc [("_law_sign", 2)] C (di_any (de_var 0)) (blkOk_by (N := N__law_is_glob) (sc := defScope s__law_is_glob) (by decide +kernel)) (fun s H A cl fp => (pgd_name (C.blk _ _ _ _ _) 2)) (fun s H A cl fp C14 c15 => pts_true) (fun s H A cl fp C14 c15 => (de_cmp (od_in (hu65 C14.rm)) (de_var 2) (de_var 1) (by rfl))) (by decide))) da_nil)))))))), rfl⟩
theorem g_Pattern_init (T : Txt P K mg A) : FnG P w K mg base 1 A.a_Pattern_init A.f_Pattern_init ["self", "text", "level", "shape"] (spI K mg ["text", "level", "head", "tail", "gap"] (fun l => l = 3 + 1) m_Pattern_init_4a0d) := by
  refine fnI (k := 0) (n := 3) T.F_Pattern_init sc_Pattern_init rfl (by decide) (fun cdv Ar outer s H Hf E o ds C hl => ?_)
  match ds, hl with
  | [a1, a2, a3], _ => exact ⟨b_Pattern_init_4a0d a1 a2 a3, (dss_if (exA := fun (q3 : Unit) => [.ob [] [], .im a1, .im a2, .im a3]) (dt_cmp od_is (de_var 3) de_non (by rfl)) (dss_raise C T.x_BadPattern (de_var 1)) (dss_nil (a := ()) (And.intro (Or.inl rfl) (And.intro (Or.inl rfl) (And.intro (Or.inl rfl) (And.intro (Or.inl rfl) (trivial)))))) fun q3 => (dss_fld (ns := []) (ds := []) (f := "text") 0 (de_var 1) (fun v5 => (dss_fld (ns := ["text"]) (ds := [v5]) (f := "level") 0 (de_var 2) (fun v6 => (dss_unpF (self := "self") (ns := ["text", "level"]) (es0 := [v5, v6]) C 0 3 [.fl "head", .fl "tail", .fl "gap"] (.fl (.fl (.fl .nil (hm := (by decide +kernel : ("gap" : Str) ∈ (["text", "level", "head", "tail", "gap"] : List Str)))) (hm := (by decide +kernel : ("tail" : Str) ∈ (["text", "level", "head", "tail", "gap"] : List Str)))) (hm := (by decide +kernel : ("head" : Str) ∈ (["text", "level", "head", "tail", "gap"] : List Str)))) (de_var 3) (fun c8 => (dss_nil (a := [v5, v6, (c8.getD 0 .non), (c8.getD 1 .non), (c8.getD 2 .non)]) (And.intro (Or.inl rfl) (And.intro (Or.inr rfl) (And.intro (Or.inr rfl) (And.intro (Or.inr rfl) (trivial))))))))) (hm := (by decide +kernel : ("level" : Str) ∈ (["text", "level", "head", "tail", "gap"] : List Str))))) (hm := (by decide +kernel : ("text" : Str) ∈ (["text", "level", "head", "tail", "gap"] : List Str))))), rfl⟩
theorem g_shape_of_items (T : Txt P K mg A) : FnG P w K mg base 2 A.a_shape_of_items A.f_shape_of_items ["items", "limits"] (spR K mg false 2 m_shape_of_items_2081) := by
  refine fnR (nr := false) (k := 1) T.F_shape_of_items sc_shape_of_items rfl (by decide) (fun cdv Ar outer s H Hf E ds C hl => ?_)
  match ds, hl with
  | [a0, a1], _ => exact ⟨b_shape_of_items_2081 a0 a1, (dss_unp (pgd_tupN C 4 (.cons 3 (.cons 4 (.cons 5 (.cons 6 .nil))))) (de_var 1) fun c2 => (dss_setF (ps_setLcF (st := fun G d => ((G.set 9 (.im d.1)).set 10 (.im d.2))) (g := gTup K 2 (gCons (gName 9) (gCons (gName 10) gNil))) (is := [9, 10]) [("at", 9), ("item", 10)] C 2 (di_enumL (by rfl) T.z_enumerate (da_cons (de_var 0) da_nil)) (blkOk_by (N := N_shape_of_items) (sc := defScope s_shape_of_items) (by decide +kernel)) (fun s H A cl fp => (pgd_tup2 (C.blk _ _ _ _ _) 9 10)) (fun s H A cl fp C7 c8 => (pts_test (dt_cmp (od_eq C7.rm.units) (de_var 10) (de_globI (by rfl) T.c_GAP) (by rfl)))) (fun s H A cl fp C7 c8 => (de_var 9)) (by decide)) fun v3 => (dss_if (exA := fun (q28 : Unit) => [.im a0, .im a1, .im v3, .im (c2.getD 0 .non), .im (c2.getD 1 .non), .im (c2.getD 2 .non), .im (c2.getD 3 .non), .un, .un, .un, .un]) (dw_or (dt_cmp (od_gt C.rm.units) (de_callB oc_len (by rfl) T.z_len rfl (da_cons (de_var 2) da_nil)) de_int (by rfl)) (dw_or1 (dt_tru (de_frz (df_lc [("item", 10)] C (di_any (de_var 0)) (blkOk_by (N := N_shape_of_items) (sc := defScope s_shape_of_items) (by decide +kernel)) (fun s H A cl fp => (pgd_name (C.blk _ _ _ _ _) 10)) (fun s H A cl fp C18 c19 => (pts_test (dw_and (dt_cmp (od_ne C18.rm.units) (de_var 10) (de_globI (by rfl) T.c_GAP) (by rfl)) (dw_and1 (dt_not (dt_tru (de_fn C18 (g_is_label_text T) T.m_is_label_text T.F_is_label_text.kp T.b_is_label_text (da_cons (de_var 10) da_nil) n_is_label_text_206f))))).pt)) (fun s H A cl fp C18 c19 => (de_var 10)) (by decide)))))).pt (dss_ret de_non) (dss_nil (a := ()) (And.intro (Or.inl rfl) (And.intro (Or.inl rfl) (And.intro (Or.inl rfl) (And.intro (Or.inl rfl) (And.intro (Or.inl rfl) (And.intro (Or.inl rfl) (And.intro (Or.inl rfl) (And.intro (Or.inr rfl) (And.intro (Or.inr rfl) (And.intro (Or.inr rfl) (And.intro (Or.inr rfl) (trivial))))))))))))) fun q28 => (dss_if (exA := fun (q31 : Unit) => [.im a0, .im a1, .im v3, .im (c2.getD 0 .non), .im (c2.getD 1 .non), .im (c2.getD 2 .non), .im (c2.getD 3 .non), .un, .un, .un, .un]) (dt_not (dt_tru (de_var 2))) (dss_ret (de_ifExp (dt_chain (od_le C.rm.units) (od_le C.rm.units) (de_var 3) (de_callB oc_len (by rfl) T.z_len rfl (da_cons (de_var 0) da_nil)) (de_var 4)) (de_tup (da_cons (de_callTy oc_tuple (by rfl) T.z_tuple rfl (da_cons (de_var 0) da_nil)) (da_cons (de_tup da_nil) (da_cons de_bl da_nil)))) de_non)) (dss_nil (a := ()) (And.intro (Or.inl rfl) (And.intro (Or.inl rfl) (And.intro (Or.inl rfl) (And.intro (Or.inl rfl) (And.intro (Or.inl rfl) (And.intro (Or.inl rfl) (And.intro (Or.inl rfl) (And.intro (Or.inr rfl) (And.intro (Or.inr rfl) (And.intro (Or.inr rfl) (And.intro (Or.inr rfl) (trivial))))))))))))) fun q31 => (dss_parEE C 7 8 (de_callTy oc_tuple (by rfl) T.z_tuple rfl (da_cons (de_sl (de_var 0) do_none (do_some (de_ix (de_var 2) de_int))) da_nil)) (de_callTy oc_tuple (by rfl) T.z_tuple rfl (da_cons (de_sl (de_var 0) (do_some (de_op od_add (de_ix (de_var 2) de_int) de_int)) do_none) da_nil)) fun v50 v51 => (dss_ret (de_ifExp (dw_and (dt_cmp (od_le C.rm.units) (de_callB oc_len (by rfl) T.z_len rfl (da_cons (de_var 7) da_nil)) (de_var 5) (by rfl)) (dw_and1 (dt_cmp (od_le C.rm.units) (de_callB oc_len (by rfl) T.z_len rfl (da_cons (de_var 8) da_nil)) (de_var 6) (by rfl)))).pt (de_tup (da_cons (de_var 7) (da_cons (de_var 8) (da_cons de_bl da_nil)))) de_non))))))), rfl⟩
theorem g__law_of (T : Txt P K mg A) : FnG P w K mg base 2 A.a__law_of A.f__law_of ["_law_bag_here", "_law_some"] (spM K mg false (1 + 1) m__law_of_bf28) := by
  refine fnM (nr := false) (k := 1) T.F__law_of sc__law_of rfl (by decide) (fun cdv Ar outer s H Hf bag E ds C hl => ?_)
  match ds, hl with
  | [a1], _ => exact ⟨b__law_of_bf28 a1, (dss_ret (de_ix (de_var 1) (de_fnM C 0 (g__law_take T) T.m__law_take T.F__law_take.kp T.b__law_take (da_cons (de_callB oc_len (by rfl) T.z_len rfl (da_cons (de_var 1) da_nil)) da_nil) n__law_take_6859))), rfl⟩
theorem g__law_signs (T : Txt P K mg A) : FnG P w K mg base 2 A.a__law_signs A.f__law_signs ["_law_bag_here", "_law_many"] (spM K mg false (1 + 1) m__law_signs_3c02) := by
  refine fnM (nr := false) (k := 1) T.F__law_signs sc__law_signs rfl (by decide) (fun cdv Ar outer s H Hf bag E ds C hl => ?_)
  match ds, hl with
  | [a1], _ => exact ⟨b__law_signs_3c02 a1, (dss_parFF C 3 4 (df_callTy (oc_list C.calm) (by rfl) T.z_list rfl (da_cons (de_str [48, 49, 50, 51, 52, 53, 54, 55, 56, 57, 97, 98, 99, 100, 101, 102, 103, 104, 105, 106, 107, 108, 109, 110, 111, 112, 113, 114, 115, 116, 117, 118, 119, 120, 121, 122]) da_nil)) (df_list da_nil) fun v1 v2 => (dss_for (exl := fun (q11 : List D × List D) => [.bg, .im a1, .un, .ow q11.1, .ow q11.2]) (v1, v2) C (di_range1 (by rfl) T.z_range (da_cons (de_var 1) da_nil)) (pgd_name C 2) (And.intro (Or.inl rfl) (And.intro (Or.inl rfl) (And.intro (Or.inr rfl) (And.intro (Or.inl rfl) (And.intro (Or.inl rfl) (trivial)))))) (fun q11 c12 => (dss_appendP 3 4 (by decide) (dp_pop 3 (de_fnM C 0 (g__law_take T) T.m__law_take T.F__law_take.kp T.b__law_take (da_cons (de_thaw 3 (de_callB oc_len (by rfl) T.z_len rfl (da_cons (de_var 3) da_nil))) da_nil) n__law_take_6859)) fun r23 v14 => (dss_nil (a := (r23.2, v14)) (And.intro (Or.inl rfl) (And.intro (Or.inl rfl) (And.intro (Or.inr rfl) (And.intro (Or.inl rfl) (And.intro (Or.inl rfl) (trivial))))))))) fun q24 => (dss_frz 4 rfl (dss_ret (de_var 4))))), rfl⟩
theorem g__law_are_items (T : Txt P K mg A) : FnG P w K mg base 2 A.a__law_are_items A.f__law_are_items ["_law_items", "_law_least", "_law_most", "_law_ahead", "_law_behind"] (spR K mg false 5 m__law_are_items_cbe6) := by
  refine fnR (nr := false) (k := 1) T.F__law_are_items sc__law_are_items rfl (by decide) (fun cdv Ar outer s H Hf E ds C hl => ?_)
  match ds, hl with
  | [a0, a1, a2, a3, a4], _ => exact ⟨b__law_are_items_cbe6 a0 a1 a2 a3 a4, (pss_k (l__law_are_items_cbe6_2 _ _ _ _ _) (dss_if (exA := fun (q18 : Unit) => [.im a0, .im a1, .im a2, .im a3, .im a4, .un]) (dw_or (dt_cmp (od_gt C.rm.units) (de_countL (de_var 0) (de_str [42, 42])) de_int (by rfl)) (dw_or1 (dt_not (dt_tru (de_callB (oc_all C.calm) (by rfl) T.z_all rfl (da_cons (de_frz (df_lc [("_law_text_here", 5)] C (di_any (de_var 0)) (blkOk_by (N := N__law_are_items) (sc := defScope s__law_are_items) (by decide +kernel)) (fun s H A cl fp => (pgd_name (C.blk _ _ _ _ _) 5)) (fun s H A cl fp C6 c7 => pts_true) (fun s H A cl fp C6 c7 => (de_or (de_cmp (od_eq C6.rm.units) (de_var 5) (de_str [42, 42]) (by rfl)) (de_one (de_fn C6 (g__law_is_glob T) T.m__law_is_glob T.F__law_is_glob.kp T.b__law_is_glob (da_cons (de_var 5) da_nil) n__law_is_glob_a031)))) (by decide))) da_nil)))))).pt (dss_ret de_bl) (dss_nil (a := ()) (And.intro (Or.inl rfl) (And.intro (Or.inl rfl) (And.intro (Or.inl rfl) (And.intro (Or.inl rfl) (And.intro (Or.inl rfl) (And.intro (Or.inr rfl) (trivial)))))))) fun q18 => (pss_k (l__law_are_items_cbe6_1 _ _ _ _ _) (dss_if (exA := fun (q22 : Unit) => [.im a0, .im a1, .im a2, .im a3, .im a4, .un]) (dt_cmp (od_notIn (hu65 C.rm)) (de_str [42, 42]) (de_var 0) (by rfl)) (dss_ret (de_chain (od_le C.rm.units) (od_le C.rm.units) (de_var 1) (de_callB oc_len (by rfl) T.z_len rfl (da_cons (de_var 0) da_nil)) (de_var 2))) (dss_nil (a := ()) (And.intro (Or.inl rfl) (And.intro (Or.inl rfl) (And.intro (Or.inl rfl) (And.intro (Or.inl rfl) (And.intro (Or.inl rfl) (And.intro (Or.inr rfl) (trivial)))))))) fun q22 => (pss_k (l__law_are_items_cbe6_0 _ _ _) (dss_ret (de_and (de_cmp (od_le C.rm.units) (de_indexL (de_var 0) (de_str [42, 42])) (de_var 3) (by rfl)) (de_one (de_cmp (od_le C.rm.units) (de_op od_sub (de_op od_sub (de_callB oc_len (by rfl) T.z_len rfl (da_cons (de_var 0) da_nil)) (de_indexL (de_var 0) (de_str [42, 42]))) de_int) (de_var 4) (by rfl)))))))))), rfl⟩
theorem g_LabelPattern_init (T : Txt P K mg A) : FnG P w K mg base 2 A.a_LabelPattern_init A.f_LabelPattern_init ["self", "text"] (spIS K mg A.C_LabelPattern ["text", "level", "head", "tail", "gap"] (fun l => l = 1 + 1) m_LabelPattern_init_02ae) := by
  refine fnSup (k := 1) (j := 1) (n := 1) T.F_LabelPattern_init sc_LabelPattern_init rfl rfl rfl rfl rfl (by rfl) (by rfl) (by rfl) ((g_Pattern_init T).pos T.b_Pattern_init) (by decide) (fun ds h => congrArg (· + 1) (n_Pattern_init_4a0d ds h)) (fun F Ar outer s H Hf E o ds hs hq C hl => ?_)
  obtain ⟨xF, qF, aF, bF, sF, cF, dF⟩ := F
  dsimp only at hs hq
  subst hs hq
  match ds, hl with
  | [a1], _ => exact ⟨(do let x12 ← (pure a1); let r13 ← (do let x10 ← (pure c_LABEL); let r11 ← (do let x8 ← (iteM (do let x4 ← (do let r3 ← (do let x1 ← (pure a1); let r2 ← pure []; pure (x1 :: r2)); Mo.lift (m_is_label_text_206f r3)); DL.ask (truD x4)) (do let r7 ← (do let x5 ← (pure a1); let r6 ← pure []; pure (x5 :: r6)); Mo.lift (m_label_shape_c600 r7)) (pure .non)); let r9 ← pure []; pure (x8 :: r9)); pure (x10 :: r11)); pure (x12 :: r13)), (da_cons (de_var 1) (da_cons (de_globI (by rfl) T.c_LABEL) (da_cons (de_ifExp (dt_tru (de_fn C (g_is_label_text T) T.m_is_label_text T.F_is_label_text.kp T.b_is_label_text (da_cons (de_var 1) da_nil) n_is_label_text_206f)) (de_fn C (g_label_shape T) T.m_label_shape T.F_label_shape.kp T.b_label_shape (da_cons (de_var 1) da_nil) n_label_shape_c600) de_non) da_nil))), rfl⟩
theorem g_host_shape (T : Txt P K mg A) : FnG P w K mg base 3 A.a_host_shape A.f_host_shape ["thing"] (spR K mg false 1 m_host_shape_b82b) := by
  refine fnR (nr := false) (k := 2) T.F_host_shape sc_host_shape rfl (by decide) (fun cdv Ar outer s H Hf E ds C hl => ?_)
  match ds, hl with
  | [a0], _ => exact ⟨b_host_shape_b82b a0, (dss_if (exA := fun (q3 : Unit) => [.im a0]) (dt_not (dt_tru (de_isi "str" (de_var 0) (by rfl) T.z_isinstance (by rfl) T.z_str rfl))) (dss_ret de_non) (dss_nil (a := ()) (And.intro (Or.inl rfl) (trivial))) fun q3 => (dss_ret (de_fn C (g_shape_of_items T) T.m_shape_of_items T.F_shape_of_items.kp T.b_shape_of_items (da_cons (de_rev (de_frz (df_split (de_var 0) (de_str [46])))) (da_cons (de_globI (by rfl) T.c_HOST_LIMITS) da_nil)) n_shape_of_items_2081))), rfl⟩
theorem g_path_shape (T : Txt P K mg A) : FnG P w K mg base 3 A.a_path_shape A.f_path_shape ["thing"] (spR K mg false 1 m_path_shape_25b3) := by
  refine fnR (nr := false) (k := 2) T.F_path_shape sc_path_shape rfl (by decide) (fun cdv Ar outer s H Hf E ds C hl => ?_)
  match ds, hl with
  | [a0], _ => exact ⟨b_path_shape_25b3 a0, (dss_if (exA := fun (q6 : Unit) => [.im a0]) (dw_or (dt_not (dt_tru (de_isi "str" (de_var 0) (by rfl) T.z_isinstance (by rfl) T.z_str rfl))) (dw_or1 (dt_not (dt_tru (de_starts (de_var 0) (de_str [47])))))).pt (dss_ret de_non) (dss_nil (a := ()) (And.intro (Or.inl rfl) (trivial))) fun q6 => (dss_ret (de_fn C (g_shape_of_items T) T.m_shape_of_items T.F_shape_of_items.kp T.b_shape_of_items (da_cons (de_ifExp (dt_cmp (od_ne C.rm.units) (de_var 0) (de_str [47]) (by rfl)) (de_frz (df_split (de_sl (de_var 0) (do_some de_int) do_none) (de_str [47]))) (de_frz (df_list da_nil))) (da_cons (de_globI (by rfl) T.c_PATH_LIMITS) da_nil)) n_shape_of_items_2081))), rfl⟩
theorem g__law_label (T : Txt P K mg A) : FnG P w K mg base 3 A.a__law_label A.f__law_label ["_law_bag_here", "_law_signs_here", "_law_most"] (spM K mg false (2 + 1) m__law_label_f2f9) := by
  refine fnM (nr := false) (k := 2) T.F__law_label sc__law_label rfl (by decide) (fun cdv Ar outer s H Hf bag E ds C hl => ?_)
  match ds, hl with
  | [a1, a2], _ => exact ⟨b__law_label_f2f9 a1 a2, (dss_asg C 3 (de_join (de_str []) (de_frz (df_lc [("_law_turn", 6)] C (di_range1 (by rfl) T.z_range (da_cons (de_op od_add de_int (de_fnM C 0 (g__law_take T) T.m__law_take T.F__law_take.kp T.b__law_take (da_cons (de_var 2) da_nil) n__law_take_6859)) da_nil)) (blkOk_by (N := N__law_label) (sc := defScope s__law_label) (by decide +kernel)) (fun s H A cl fp => (pgd_name (C.blk _ _ _ _ _) 6)) (fun s H A cl fp C10 c11 => pts_true) (fun s H A cl fp C10 c11 => (de_fnM C10 0 (g__law_of T) T.m__law_of T.F__law_of.kp T.b__law_of (da_cons (de_var 1) da_nil) n__law_of_bf28)) (by decide)))) fun v1 => (dss_asg C 4 (de_fnM C 0 (g__law_take T) T.m__law_take T.F__law_take.kp T.b__law_take (da_cons de_int da_nil) n__law_take_6859) fun v18 => (dss_if (exA := fun (q24 : D) => [.bg, .im a1, .im a2, .im q24, .im v18, .un, .un]) (dt_cmp (od_eq C.rm.units) (de_var 4) de_int (by rfl)) (dss_asg C 5 (de_fnM C 0 (g__law_take T) T.m__law_take T.F__law_take.kp T.b__law_take (da_cons (de_callB oc_len (by rfl) T.z_len rfl (da_cons (de_var 3) da_nil)) da_nil) n__law_take_6859) fun v25 => (dss_asg C 3 (de_op od_add (de_op od_add (de_sl (de_var 3) do_none (do_some (de_var 5))) (de_fnM C 0 (g__law_of T) T.m__law_of T.F__law_of.kp T.b__law_of (da_cons (de_frz (df_callTy (oc_list C.calm) (by rfl) T.z_list rfl (da_cons (de_str [48, 49, 50, 51, 52, 53, 54, 55, 56, 57, 97, 98, 99, 100, 101, 102, 103, 104, 105, 106, 107, 108, 109, 110, 111, 112, 113, 114, 115, 116, 117, 118, 119, 120, 121, 122]) da_nil))) da_nil) n__law_of_bf28)) (de_sl (de_var 3) (do_some (de_op od_add (de_var 5) de_int)) do_none)) fun v32 => (dss_nil (a := v32) (And.intro (Or.inl rfl) (And.intro (Or.inl rfl) (And.intro (Or.inl rfl) (And.intro (Or.inl rfl) (And.intro (Or.inl rfl) (And.intro (Or.inr rfl) (And.intro (Or.inr rfl) (trivial))))))))))) (dss_nil (a := v1) (And.intro (Or.inl rfl) (And.intro (Or.inl rfl) (And.intro (Or.inl rfl) (And.intro (Or.inl rfl) (And.intro (Or.inl rfl) (And.intro (Or.inr rfl) (And.intro (Or.inr rfl) (trivial))))))))) fun q24 => (dss_if (exA := fun (q58 : D) => [.bg, .im a1, .im a2, .im q58, .im v18, .un, .un]) (dt_cmp (od_eq C.rm.units) (de_var 4) de_int (by rfl)) (dss_asg C 3 (de_sl (de_op od_mul (de_var 3) de_int) do_none (do_some (de_op od_add de_int (de_fnM C 0 (g__law_take T) T.m__law_take T.F__law_take.kp T.b__law_take (da_cons de_int da_nil) n__law_take_6859)))) fun v59 => (dss_nil (a := v59) (And.intro (Or.inl rfl) (And.intro (Or.inl rfl) (And.intro (Or.inl rfl) (And.intro (Or.inl rfl) (And.intro (Or.inl rfl) (And.intro (Or.inr rfl) (And.intro (Or.inr rfl) (trivial)))))))))) (dss_nil (a := q24) (And.intro (Or.inl rfl) (And.intro (Or.inl rfl) (And.intro (Or.inl rfl) (And.intro (Or.inl rfl) (And.intro (Or.inl rfl) (And.intro (Or.inr rfl) (And.intro (Or.inr rfl) (trivial))))))))) fun q58 => (dss_ret (de_var 3)))))), rfl⟩
theorem g__law_glob (T : Txt P K mg A) : FnG P w K mg base 3 A.a__law_glob A.f__law_glob ["_law_bag_here", "_law_signs_here", "_law_most"] (spM K mg false (2 + 1) m__law_glob_3319) := by
  refine fnM (nr := false) (k := 2) T.F__law_glob sc__law_glob rfl (by decide) (fun cdv Ar outer s H Hf bag E ds C hl => ?_)
  match ds, hl with
  | [a1, a2], _ => exact ⟨b__law_glob_3319 a1 a2, (pss_k (l__law_glob_3319_4 _ _) (dss_asg C 3 (de_fnM C 0 (g__law_take T) T.m__law_take T.F__law_take.kp T.b__law_take (da_cons de_int da_nil) n__law_take_6859) fun v1 => (dss_if (exA := fun (q7 : Unit) => [.bg, .im a1, .im a2, .im v1, .un, .un, .un]) (dt_cmp (od_eq C.rm.units) (de_var 3) de_int (by rfl)) (dss_ret (de_str [42])) (dss_nil (a := ()) (And.intro (Or.inl rfl) (And.intro (Or.inl rfl) (And.intro (Or.inl rfl) (And.intro (Or.inl rfl) (And.intro (Or.inr rfl) (And.intro (Or.inr rfl) (And.intro (Or.inr rfl) (trivial))))))))) fun q7 => (pss_k (l__law_glob_3319_3 _ _ _) (dss_asg C 4 (de_join (de_str []) (de_frz (df_lc [("_law_turn", 6)] C (di_range1 (by rfl) T.z_range (da_cons (de_fnM C 0 (g__law_take T) T.m__law_take T.F__law_take.kp T.b__law_take (da_cons (de_op od_add (de_var 2) de_int) da_nil) n__law_take_6859) da_nil)) (blkOk_by (N := N__law_glob) (sc := defScope s__law_glob) (by decide +kernel)) (fun s H A cl fp => (pgd_name (C.blk _ _ _ _ _) 6)) (fun s H A cl fp C18 c19 => pts_true) (fun s H A cl fp C18 c19 => (de_fnM C18 0 (g__law_of T) T.m__law_of T.F__law_of.kp T.b__law_of (da_cons (de_var 1) da_nil) n__law_of_bf28)) (by decide)))) fun v9 => (pss_k (l__law_glob_3319_2 _ _ _ _) (dss_asg C 5 (de_join (de_str []) (de_frz (df_lc [("_law_turn", 6)] C (di_range1 (by rfl) T.z_range (da_cons (de_fnM C 0 (g__law_take T) T.m__law_take T.F__law_take.kp T.b__law_take (da_cons (de_op od_add (de_var 2) de_int) da_nil) n__law_take_6859) da_nil)) (blkOk_by (N := N__law_glob) (sc := defScope s__law_glob) (by decide +kernel)) (fun s H A cl fp => (pgd_name (C.blk _ _ _ _ _) 6)) (fun s H A cl fp C35 c36 => pts_true) (fun s H A cl fp C35 c36 => (de_fnM C35 0 (g__law_of T) T.m__law_of T.F__law_of.kp T.b__law_of (da_cons (de_var 1) da_nil) n__law_of_bf28)) (by decide)))) fun v26 => (pss_k (l__law_glob_3319_1 _ _ _ _) (dss_if (exA := fun (q45 : Unit) => [.bg, .im a1, .im a2, .im v1, .im v9, .im v26, .un]) (dt_cmp (od_lt C.rm.units) (de_var 3) de_int (by rfl)) (pss_k (l__law_glob_3319_0 _ _ _) (dss_ret (de_sl (de_op od_add (de_op od_add (de_var 4) (de_var 5)) (de_fnM C 0 (g__law_of T) T.m__law_of T.F__law_of.kp T.b__law_of (da_cons (de_var 1) da_nil) n__law_of_bf28)) do_none (do_some de_int)))) (dss_nil (a := ()) (And.intro (Or.inl rfl) (And.intro (Or.inl rfl) (And.intro (Or.inl rfl) (And.intro (Or.inl rfl) (And.intro (Or.inl rfl) (And.intro (Or.inl rfl) (And.intro (Or.inr rfl) (trivial))))))))) fun q45 => (dss_ret (de_op od_add (de_op od_add (de_var 4) (de_str [42])) (de_var 5)))))))))))), rfl⟩
theorem g__law_due (T : Txt P K mg A) : FnG P w K mg base 3 A.a__law_due A.f__law_due ["_law_level", "_law_text_here"] (spR K mg false 2 m__law_due_3125) := by
  refine fnR (nr := false) (k := 2) T.F__law_due sc__law_due rfl (by decide) (fun cdv Ar outer s H Hf E ds C hl => ?_)
  match ds, hl with
  | [a0, a1], _ => exact ⟨b__law_due_3125 a0 a1, (pss_k (l__law_due_3125_3 _ _) (dss_if (exA := fun (q3 : Unit) => [.im a0, .im a1]) (dt_cmp (od_eq C.rm.units) (de_var 0) (de_str [108, 97, 98, 101, 108]) (by rfl)) (dss_ret (de_fn C (g__law_is_glob T) T.m__law_is_glob T.F__law_is_glob.kp T.b__law_is_glob (da_cons (de_var 1) da_nil) n__law_is_glob_a031)) (dss_nil (a := ()) (And.intro (Or.inl rfl) (And.intro (Or.inl rfl) (trivial)))) fun q3 => (dss_if (exA := fun (q10 : Unit) => [.im a0, .im a1]) (dt_cmp (od_eq C.rm.units) (de_var 0) (de_str [104, 111, 115, 116]) (by rfl)) (pss_k (l__law_due_3125_0 _) (dss_ret (de_fn C (g__law_are_items T) T.m__law_are_items T.F__law_are_items.kp T.b__law_are_items (da_cons (de_rev (de_frz (df_split (de_var 1) (de_str [46])))) (da_cons de_int (da_cons de_int (da_cons de_int (da_cons de_int da_nil))))) n__law_are_items_cbe6))) (dss_nil (a := ()) (And.intro (Or.inl rfl) (And.intro (Or.inl rfl) (trivial)))) fun q10 => (pss_k (l__law_due_3125_2 _) (dss_if (exA := fun (q33 : Unit) => [.im a0, .im a1]) (dt_cmp (od_ne C.rm.units) (de_sl (de_var 1) do_none (do_some de_int)) (de_str [47]) (by rfl)) (dss_ret de_bl) (dss_nil (a := ()) (And.intro (Or.inl rfl) (And.intro (Or.inl rfl) (trivial)))) fun q33 => (pss_k (l__law_due_3125_1 _) (dss_ret (de_fn C (g__law_are_items T) T.m__law_are_items T.F__law_are_items.kp T.b__law_are_items (da_cons (de_ifExp (dt_cmp (od_ne C.rm.units) (de_var 1) (de_str [47]) (by rfl)) (de_frz (df_split (de_sl (de_var 1) (do_some de_int) do_none) (de_str [47]))) (de_frz (df_list da_nil))) (da_cons de_int (da_cons de_int (da_cons de_int (da_cons de_int da_nil))))) n__law_are_items_cbe6)))))))), rfl⟩
theorem g__law_text (T : Txt P K mg A) : FnG P w K mg base 4 A.a__law_text A.f__law_text ["_law_bag_here", "_law_signs_here"] (spM K mg false (1 + 1) m__law_text_5544) := by
  refine fnM (nr := false) (k := 3) T.F__law_text sc__law_text rfl (by decide) (fun cdv Ar outer s H Hf bag E ds C hl => ?_)
  match ds, hl with
  | [a1], _ => exact ⟨b__law_text_5544 a1, (pss_k (l__law_text_5544_4 _) (dss_asg C 2 (de_op od_add (de_frz (df_lc [("_law_turn", 6)] C (di_range1 (by rfl) T.z_range (da_cons de_int da_nil)) (blkOk_by (N := N__law_text) (sc := defScope s__law_text) (by decide +kernel)) (fun s H A cl fp => (pgd_name (C.blk _ _ _ _ _) 6)) (fun s H A cl fp C5 c6 => pts_true) (fun s H A cl fp C5 c6 => (de_fnM C5 0 (g__law_glob T) T.m__law_glob T.F__law_glob.kp T.b__law_glob (da_cons (de_var 1) (da_cons de_int da_nil)) n__law_glob_3319)) (by decide))) (de_frz (df_list (da_cons (de_str [42]) (da_cons (de_str [42, 42]) (da_cons (de_sl (de_fnM C 0 (g__law_label T) T.m__law_label T.F__law_label.kp T.b__law_label (da_cons (de_var 1) (da_cons de_int da_nil)) n__law_label_f2f9) do_none (do_some de_int)) da_nil)))))) fun v1 => (pss_k (l__law_text_5544_3 _) (dss_setF (ps_setLcF [("_law_turn", 6)] C 3 (di_range1 (by rfl) T.z_range (da_cons (de_fnM C 0 (g__law_take T) T.m__law_take T.F__law_take.kp T.b__law_take (da_cons de_int da_nil) n__law_take_6859) da_nil)) (blkOk_by (N := N__law_text) (sc := defScope s__law_text) (by decide +kernel)) (fun s H A cl fp => (pgd_name (C.blk _ _ _ _ _) 6)) (fun s H A cl fp C39 c40 => pts_true) (fun s H A cl fp C39 c40 => (de_fnM C39 0 (g__law_of T) T.m__law_of T.F__law_of.kp T.b__law_of (da_cons (de_var 2) da_nil) n__law_of_bf28)) (by decide)) fun v32 => (pss_k (l__law_text_5544_2 _) (dss_asg C 4 (de_join (de_fnM C 0 (g__law_of T) T.m__law_of T.F__law_of.kp T.b__law_of (da_cons (de_frz (df_list (da_cons (de_str [46]) (da_cons (de_str [47]) (da_cons (de_str [46]) da_nil))))) da_nil) n__law_of_bf28) (de_var 3)) fun v45 => (dss_asg C 4 (de_ifExp (dt_cmp (od_eq C.rm.units) (de_fnM C 0 (g__law_take T) T.m__law_take T.F__law_take.kp T.b__law_take (da_cons de_int da_nil) n__law_take_6859) de_int (by rfl)) (de_var 4) (de_op od_add (de_str [47]) (de_var 4))) fun v58 => (pss_k (l__law_text_5544_1 _) (dss_if (exA := fun (q71 : D) => [.bg, .im a1, .im v1, .im v32, .im q71, .un, .un]) (dt_cmp (od_eq C.rm.units) (de_fnM C 0 (g__law_take T) T.m__law_take T.F__law_take.kp T.b__law_take (da_cons de_int da_nil) n__law_take_6859) de_int (by rfl)) (dss_asg C 5 (de_fnM C 0 (g__law_take T) T.m__law_take T.F__law_take.kp T.b__law_take (da_cons (de_op od_add (de_callB oc_len (by rfl) T.z_len rfl (da_cons (de_var 4) da_nil)) de_int) da_nil) n__law_take_6859) fun v72 => (pss_k (l__law_text_5544_0 _ _) (dss_asg C 4 (de_op od_add (de_op od_add (de_sl (de_var 4) do_none (do_some (de_var 5))) (de_fnM C 0 (g__law_of T) T.m__law_of T.F__law_of.kp T.b__law_of (da_cons (de_frz (df_list (da_cons (de_str [42]) (da_cons (de_str [46]) (da_cons (de_str [47]) (da_cons (de_str []) (da_cons (de_str [45]) (da_cons (de_str [65]) (da_cons (de_str [32]) (da_cons (de_str [63]) (da_cons (de_str [10]) (da_cons (de_str [126]) da_nil)))))))))))) da_nil) n__law_of_bf28)) (de_sl (de_var 4) (do_some (de_op od_add (de_var 5) de_int)) do_none)) fun v81 => (dss_nil (a := v81) (And.intro (Or.inl rfl) (And.intro (Or.inl rfl) (And.intro (Or.inl rfl) (And.intro (Or.inl rfl) (And.intro (Or.inl rfl) (And.intro (Or.inr rfl) (And.intro (Or.inr rfl) (trivial)))))))))))) (dss_nil (a := v58) (And.intro (Or.inl rfl) (And.intro (Or.inl rfl) (And.intro (Or.inl rfl) (And.intro (Or.inl rfl) (And.intro (Or.inl rfl) (And.intro (Or.inr rfl) (And.intro (Or.inr rfl) (trivial))))))))) fun q71 => (dss_ret (de_var 4))))))))))), rfl⟩
theorem g_HostPattern_init (T : Txt P K mg A) : FnG P w K mg base 4 A.a_HostPattern_init A.f_HostPattern_init ["self", "text"] (spIS K mg A.C_HostPattern ["text", "level", "head", "tail", "gap"] (fun l => l = 1 + 1) m_HostPattern_init_23dd) := by
  refine fnSup (k := 3) (j := 1) (n := 1) T.F_HostPattern_init sc_HostPattern_init rfl rfl rfl rfl rfl (by rfl) (by rfl) (by rfl) ((g_Pattern_init T).pos T.b_Pattern_init) (by decide) (fun ds h => congrArg (· + 1) (n_Pattern_init_4a0d ds h)) (fun F Ar outer s H Hf E o ds hs hq C hl => ?_)
  obtain ⟨xF, qF, aF, bF, sF, cF, dF⟩ := F
  dsimp only at hs hq
  subst hs hq
  match ds, hl with
  | [a1], _ => exact ⟨(do let x8 ← (pure a1); let r9 ← (do let x6 ← (pure c_HOST); let r7 ← (do let x4 ← (do let r3 ← (do let x1 ← (pure a1); let r2 ← pure []; pure (x1 :: r2)); Mo.lift (m_host_shape_b82b r3)); let r5 ← pure []; pure (x4 :: r5)); pure (x6 :: r7)); pure (x8 :: r9)), (da_cons (de_var 1) (da_cons (de_globI (by rfl) T.c_HOST) (da_cons (de_fn C (g_host_shape T) T.m_host_shape T.F_host_shape.kp T.b_host_shape (da_cons (de_var 1) da_nil) n_host_shape_b82b) da_nil))), rfl⟩
theorem g_PathPattern_init (T : Txt P K mg A) : FnG P w K mg base 4 A.a_PathPattern_init A.f_PathPattern_init ["self", "text"] (spIS K mg A.C_PathPattern ["text", "level", "head", "tail", "gap"] (fun l => l = 1 + 1) m_PathPattern_init_28de) := by
  refine fnSup (k := 3) (j := 1) (n := 1) T.F_PathPattern_init sc_PathPattern_init rfl rfl rfl rfl rfl (by rfl) (by rfl) (by rfl) ((g_Pattern_init T).pos T.b_Pattern_init) (by decide) (fun ds h => congrArg (· + 1) (n_Pattern_init_4a0d ds h)) (fun F Ar outer s H Hf E o ds hs hq C hl => ?_)
  obtain ⟨xF, qF, aF, bF, sF, cF, dF⟩ := F
  dsimp only at hs hq
  subst hs hq
  match ds, hl with
  | [a1], _ => exact ⟨(do let x8 ← (pure a1); let r9 ← (do let x6 ← (pure c_PATH); let r7 ← (do let x4 ← (do let r3 ← (do let x1 ← (pure a1); let r2 ← pure []; pure (x1 :: r2)); Mo.lift (m_path_shape_25b3 r3)); let r5 ← pure []; pure (x4 :: r5)); pure (x6 :: r7)); pure (x8 :: r9)), (da_cons (de_var 1) (da_cons (de_globI (by rfl) T.c_PATH) (da_cons (de_fn C (g_path_shape T) T.m_path_shape T.F_path_shape.kp T.b_path_shape (da_cons (de_var 1) da_nil) n_path_shape_25b3) da_nil))), rfl⟩
theorem g__law_asked (T : Txt P K mg A) : FnG P w K mg base 6 A.a__law_asked A.f__law_asked ["_law_level", "_law_thing"] (spR K mg false 2 m__law_asked_f01d) := by
  refine fnR (nr := false) (k := 5) T.F__law_asked sc__law_asked rfl (by decide) (fun cdv Ar outer s H Hf E ds C hl => ?_)
  match ds, hl with
  | [a0, a1], _ => exact ⟨b__law_asked_f01d a0 a1, (pss_k (l__law_asked_f01d_3 _ _) (dss_tryC (exA := fun (q1 : Unit) => [.im a0, .im a1, .un]) (G' := [.im a0, .im a1, .un]) (L := [("BadItem", "item"), ("BadPattern", "pattern")]) C rfl rfl (fun W pn xe B C2 => (dss_if (exA := fun (q5 : Unit) => [.im a0, .im a1, .un]) (dt_cmp (od_eq C2.rm.units) (de_var 0) (de_str [108, 97, 98, 101, 108]) (by rfl)) (pss_k (l__law_asked_f01d_0 _) (dss_ret (de_frz (df_list (da_cons (de_str [109, 97, 100, 101]) (da_cons (de_fld ["LabelPattern", "HostPattern", "PathPattern"] (de_makeS C2 T.C_LabelPattern T.na_LabelPattern T.M_LabelPattern ((g_LabelPattern_init T).pos T.b_LabelPattern_init) (da_cons (de_var 1) da_nil) (fun ds h => congrArg (· + 1) (n_LabelPattern_init_02ae ds h))) (fo_text T)) da_nil)))))) (dss_nil (a := ()) (And.intro (Or.inl rfl) (And.intro (Or.inl rfl) (And.intro (Or.inr rfl) (trivial))))) fun q5 => (pss_k (l__law_asked_f01d_1 _ _) (dss_ret (de_frz (df_list (da_cons (de_str [109, 97, 100, 101]) (da_cons (de_ifExp (dt_cmp (od_eq C2.rm.units) (de_var 0) (de_str [104, 111, 115, 116]) (by rfl)) (de_fld ["LabelPattern", "HostPattern", "PathPattern"] (de_makeS C2 T.C_HostPattern T.na_HostPattern T.M_HostPattern ((g_HostPattern_init T).pos T.b_HostPattern_init) (da_cons (de_var 1) da_nil) (fun ds h => congrArg (· + 1) (n_HostPattern_init_23dd ds h))) (fo_text T)) (de_fld ["LabelPattern", "HostPattern", "PathPattern"] (de_makeS C2 T.C_PathPattern T.na_PathPattern T.M_PathPattern ((g_PathPattern_init T).pos T.b_PathPattern_init) (da_cons (de_var 1) da_nil) (fun ds h => congrArg (· + 1) (n_PathPattern_init_28de ds h))) (fo_text T))) da_nil)))))))) (.named (f0 := "pattern") 2 T.k_BadPattern (by decide) T.x_BadPattern.gC (fun _ => rfl) (fun _ => by first | rfl | contradiction) rfl rfl rfl (by decide) (fun _ _ _ e36 _ hz hf => (pss_k (l__law_asked_f01d_2 _) (dss_ret (de_frz (df_list (da_cons (de_str [114, 101, 102, 117, 115, 101, 100]) (da_cons (de_exf T.x_BadPattern hz hf 2) (da_cons (de_isiX T.e_BadPattern hz hf 2 T.ki_BadPattern_ValueError (by rfl) T.z_isinstance (by rfl) T.z_ValueError rfl) (da_cons (de_isiXO T.e_BadPattern hz hf 2 T.ko_BadPattern_BadItem T.x_BadItem.gC (by rfl) T.z_isinstance (by rfl)) da_nil))))))))) .nil) fun q1 => (dss_nil (a := ()) (And.intro (Or.inr rfl) (And.intro (Or.inr rfl) (And.intro (Or.inr rfl) (trivial))))))), rfl⟩
theorem g_law (T : Txt P K mg A) : FnG P w K mg base 7 A.a_law A.f_law ["_law_script"] (spR K mg false 1 m_law_8576) := by
  refine fnR (nr := false) (k := 6) T.F_law sc_law rfl (by decide) (fun cdv Ar outer s H Hf E ds C hl => ?_)
  match ds, hl with
  | [a0], _ => exact ⟨b_law_8576 a0, (pss_k (l_law_8576_9 _) (dss_for (exl := fun (q17 : Unit) => [.im a0, .un, .un, .un, .un, .un, .un, .un, .un]) () C (di_range1 (by rfl) T.z_range (da_cons (de_callB (oc_max C.calm) (by rfl) T.z_max rfl (da_cons de_int (da_cons (de_callB (oc_min C.calm) (by rfl) T.z_min rfl (da_cons de_int (da_cons (de_callB oc_len (by rfl) T.z_len rfl (da_cons (de_var 0) da_nil)) da_nil))) da_nil))) da_nil)) (pgd_name C 1) (And.intro (Or.inl rfl) (And.intro (Or.inr rfl) (And.intro (Or.inr rfl) (And.intro (Or.inr rfl) (And.intro (Or.inr rfl) (And.intro (Or.inr rfl) (And.intro (Or.inr rfl) (And.intro (Or.inr rfl) (And.intro (Or.inr rfl) (trivial)))))))))) (fun q17 c18 => (pss_k (l_law_8576_4 _ _) (dss_bag C 3 (df_fn C (g__law_bag T) T.m__law_bag T.F__law_bag.kp T.b__law_bag (da_cons (de_var 0) (da_cons (de_var 1) da_nil)) n__law_bag_fbbe) (fun b C26 => (dss_asg C26 4 (de_fnM C26 3 (g__law_signs T) T.m__law_signs T.F__law_signs.kp T.b__law_signs (da_cons de_int da_nil) n__law_signs_3c02) fun v27 => (pss_k (l_law_8576_3 _) (dss_for (exl := fun (q34 : Unit) => [.im a0, .im c18, .un, .bg, .im v27, .un, .un, .un, .un]) () C26 (di_range1 (by rfl) T.z_range (da_cons de_int da_nil)) (pgd_name C26 5) (And.intro (Or.inl rfl) (And.intro (Or.inl rfl) (And.intro (Or.inr rfl) (And.intro (Or.inl rfl) (And.intro (Or.inl rfl) (And.intro (Or.inr rfl) (And.intro (Or.inr rfl) (And.intro (Or.inr rfl) (And.intro (Or.inr rfl) (trivial)))))))))) (fun q34 c35 => (dss_asg C26 7 (de_fnM C26 3 (g__law_text T) T.m__law_text T.F__law_text.kp T.b__law_text (da_cons (de_var 4) da_nil) n__law_text_5544) fun v36 => (pss_k (l_law_8576_2 _) (dss_for (exl := fun (q48 : Unit) => [.im a0, .im c18, .un, .bg, .im v27, .im c35, .un, .im v36, .un]) () C26 (di_any (de_frz (df_list (da_cons (de_str [108, 97, 98, 101, 108]) (da_cons (de_str [104, 111, 115, 116]) (da_cons (de_str [112, 97, 116, 104]) da_nil)))))) (pgd_name C26 6) (And.intro (Or.inl rfl) (And.intro (Or.inl rfl) (And.intro (Or.inr rfl) (And.intro (Or.inl rfl) (And.intro (Or.inl rfl) (And.intro (Or.inl rfl) (And.intro (Or.inr rfl) (And.intro (Or.inl rfl) (And.intro (Or.inr rfl) (trivial)))))))))) (fun q48 c49 => (pss_k (l_law_8576_1 _ _) (dss_asg C26 8 (de_ifExp (dt_tru (de_fn C26 (g__law_due T) T.m__law_due T.F__law_due.kp T.b__law_due (da_cons (de_var 6) (da_cons (de_var 7) da_nil)) n__law_due_3125)) (de_frz (df_list (da_cons (de_str [109, 97, 100, 101]) (da_cons (de_var 7) da_nil)))) (de_frz (df_list (da_cons (de_str [114, 101, 102, 117, 115, 101, 100]) (da_cons (de_var 7) (da_cons de_bl (da_cons de_bl da_nil))))))) fun v50 => (pss_k (l_law_8576_0 _ _ _) (dss_if (exA := fun (q84 : Unit) => [.im a0, .im c18, .un, .bg, .im v27, .im c35, .im c49, .im v36, .im v50]) (dt_cmp (od_ne C26.rm.units) (de_callB (oc_repr C26.gd C26.rm.units) (by rfl) T.z_repr rfl (da_cons (de_fn C26 (g__law_asked T) T.m__law_asked T.F__law_asked.kp T.b__law_asked (da_cons (de_var 6) (da_cons (de_var 7) da_nil)) n__law_asked_f01d) da_nil)) (de_callB (oc_repr C26.gd C26.rm.units) (by rfl) T.z_repr rfl (da_cons (de_var 8) da_nil)) (by rfl)) (dss_ret de_bl) (dss_nil (a := ()) (And.intro (Or.inl rfl) (And.intro (Or.inl rfl) (And.intro (Or.inr rfl) (And.intro (Or.inl rfl) (And.intro (Or.inl rfl) (And.intro (Or.inl rfl) (And.intro (Or.inl rfl) (And.intro (Or.inl rfl) (And.intro (Or.inl rfl) (trivial))))))))))) fun q84 => (dss_nil (a := ()) (And.intro (Or.inl rfl) (And.intro (Or.inl rfl) (And.intro (Or.inr rfl) (And.intro (Or.inl rfl) (And.intro (Or.inl rfl) (And.intro (Or.inl rfl) (And.intro (Or.inr rfl) (And.intro (Or.inl rfl) (And.intro (Or.inr rfl) (trivial)))))))))))))))) fun q87 => (dss_nil (a := ()) (And.intro (Or.inl rfl) (And.intro (Or.inl rfl) (And.intro (Or.inr rfl) (And.intro (Or.inl rfl) (And.intro (Or.inl rfl) (And.intro (Or.inr rfl) (And.intro (Or.inr rfl) (And.intro (Or.inr rfl) (And.intro (Or.inr rfl) (trivial))))))))))))))) fun q89 => (dss_nil (a := ()) (And.intro (Or.inl rfl) (And.intro (Or.inr rfl) (And.intro (Or.inr rfl) (And.intro (Or.inr rfl) (And.intro (Or.inr rfl) (And.intro (Or.inr rfl) (And.intro (Or.inr rfl) (And.intro (Or.inr rfl) (And.intro (Or.inr rfl) (trivial))))))))))))))) (fun _ => rfl) (fun _ => by first | rfl | contradiction)))) fun q91 => (pss_k (l_law_8576_8) (dss_for (exl := fun (q138 : Unit) => [.im a0, .un, .un, .un, .un, .un, .un, .un, .un]) () C (di_any (de_frz (df_list (da_cons de_non (da_cons de_bl (da_cons de_int (da_cons de_int (da_cons (de_tup da_nil) (da_cons (de_frz (df_list (da_cons (de_str [97]) da_nil))) (da_cons (de_tup (da_cons (de_str [97]) da_nil)) (da_cons (de_frz (df_list (da_cons (de_str [47]) da_nil))) (da_cons (de_neg de_int) (da_cons (de_tup (da_cons (de_str [47]) da_nil)) (da_cons (de_frz (df_list (da_cons (de_tup da_nil) da_nil))) da_nil)))))))))))))) (pgd_name C 2) (And.intro (Or.inl rfl) (And.intro (Or.inr rfl) (And.intro (Or.inr rfl) (And.intro (Or.inr rfl) (And.intro (Or.inr rfl) (And.intro (Or.inr rfl) (And.intro (Or.inr rfl) (And.intro (Or.inr rfl) (And.intro (Or.inr rfl) (trivial)))))))))) (fun q138 c139 => (pss_k (l_law_8576_6 _) (dss_for (exl := fun (q148 : Unit) => [.im a0, .un, .im c139, .un, .un, .un, .un, .un, .un]) () C (di_any (de_frz (df_list (da_cons (de_str [108, 97, 98, 101, 108]) (da_cons (de_str [104, 111, 115, 116]) (da_cons (de_str [112, 97, 116, 104]) da_nil)))))) (pgd_name C 6) (And.intro (Or.inl rfl) (And.intro (Or.inr rfl) (And.intro (Or.inl rfl) (And.intro (Or.inr rfl) (And.intro (Or.inr rfl) (And.intro (Or.inr rfl) (And.intro (Or.inr rfl) (And.intro (Or.inr rfl) (And.intro (Or.inr rfl) (trivial)))))))))) (fun q148 c149 => (pss_k (l_law_8576_5 _ _) (dss_if (exA := fun (q172 : Unit) => [.im a0, .un, .im c139, .un, .un, .un, .im c149, .un, .un]) (dt_cmp (od_ne C.rm.units) (de_callB (oc_repr C.gd C.rm.units) (by rfl) T.z_repr rfl (da_cons (de_fn C (g__law_asked T) T.m__law_asked T.F__law_asked.kp T.b__law_asked (da_cons (de_var 6) (da_cons (de_var 2) da_nil)) n__law_asked_f01d) da_nil)) (de_callB (oc_repr C.gd C.rm.units) (by rfl) T.z_repr rfl (da_cons (de_frz (df_list (da_cons (de_str [114, 101, 102, 117, 115, 101, 100]) (da_cons (de_var 2) (da_cons de_bl (da_cons de_bl da_nil)))))) da_nil)) (by rfl)) (dss_ret de_bl) (dss_nil (a := ()) (And.intro (Or.inl rfl) (And.intro (Or.inr rfl) (And.intro (Or.inl rfl) (And.intro (Or.inr rfl) (And.intro (Or.inr rfl) (And.intro (Or.inr rfl) (And.intro (Or.inl rfl) (And.intro (Or.inr rfl) (And.intro (Or.inr rfl) (trivial))))))))))) fun q172 => (dss_nil (a := ()) (And.intro (Or.inl rfl) (And.intro (Or.inr rfl) (And.intro (Or.inl rfl) (And.intro (Or.inr rfl) (And.intro (Or.inr rfl) (And.intro (Or.inr rfl) (And.intro (Or.inr rfl) (And.intro (Or.inr rfl) (And.intro (Or.inr rfl) (trivial)))))))))))))) fun q175 => (dss_nil (a := ()) (And.intro (Or.inl rfl) (And.intro (Or.inr rfl) (And.intro (Or.inr rfl) (And.intro (Or.inr rfl) (And.intro (Or.inr rfl) (And.intro (Or.inr rfl) (And.intro (Or.inr rfl) (And.intro (Or.inr rfl) (And.intro (Or.inr rfl) (trivial)))))))))))))) fun q177 => (pss_k (l_law_8576_7) (dss_ret (de_and (de_fn C (g__law_due T) T.m__law_due T.F__law_due.kp T.b__law_due (da_cons (de_str [104, 111, 115, 116]) (da_cons (de_str [97, 46, 98, 46, 42, 42, 46, 99, 46, 100, 46, 101]) da_nil)) n__law_due_3125) (de_one (de_cmp (od_eq C.rm.units) (de_fld ["LabelPattern", "HostPattern", "PathPattern"] (de_makeS C T.C_HostPattern T.na_HostPattern T.M_HostPattern ((g_HostPattern_init T).pos T.b_HostPattern_init) (da_cons (de_str [97, 46, 98, 46, 42, 42, 46, 99, 46, 100, 46, 101]) da_nil) (fun ds h => congrArg (· + 1) (n_HostPattern_init_23dd ds h))) (fo_tail T)) (de_tup (da_cons (de_str [98]) (da_cons (de_str [97]) da_nil))) (by rfl)))))))))), rfl⟩
end
theorem all_mk {l : PySem.W.OpenLaw} {w : World} {K : PySem.W.Frag} {h : Heap} {mg : Str → Option Value} {fa : Addr} (X : K.In h) (G : h.Ns mainGlobals mg) (hfa : mg "law" = some (.ref fa))
    {od0 an0 : Option Addr} {sl0 : Array (Option Value)} {oc0 kV0 dc0 pm0 cd0 ct0 : Value} {f0 : Addr}
    {od1 an1 : Option Addr} {sl1 : Array (Option Value)} {oc1 kV1 dc1 pm1 cd1 ct1 : Value} {f1 : Addr}
    {od2 an2 : Option Addr} {sl2 : Array (Option Value)} {oc2 kV2 dc2 pm2 cd2 ct2 : Value} {f2 : Addr}
    {od3 an3 : Option Addr} {sl3 : Array (Option Value)} {oc3 kV3 dc3 pm3 cd3 ct3 : Value} {f3 : Addr}
    {od4 an4 : Option Addr} {sl4 : Array (Option Value)} {oc4 kV4 dc4 pm4 cd4 ct4 : Value} {f4 : Addr}
    {od5 an5 : Option Addr} {sl5 : Array (Option Value)} {oc5 kV5 dc5 pm5 cd5 ct5 : Value} {f5 : Addr}
    {od6 an6 : Option Addr} {sl6 : Array (Option Value)} {oc6 kV6 dc6 pm6 cd6 ct6 : Value} {f6 : Addr}
    {od7 an7 : Option Addr} {sl7 : Array (Option Value)} {oc7 kV7 dc7 pm7 cd7 ct7 : Value} {f7 : Addr}
    {od8 an8 : Option Addr} {sl8 : Array (Option Value)} {oc8 kV8 dc8 pm8 cd8 ct8 : Value} {f8 : Addr}
    {od9 an9 : Option Addr} {sl9 : Array (Option Value)} {oc9 kV9 dc9 pm9 cd9 ct9 : Value} {f9 : Addr}
    {od10 an10 : Option Addr} {sl10 : Array (Option Value)} {oc10 kV10 dc10 pm10 ct10 : Value} {f10 : Addr}
    {od11 an11 : Option Addr} {sl11 : Array (Option Value)} {oc11 kV11 dc11 pm11 cd11 ct11 : Value} {f11 : Addr}
    {od12 an12 : Option Addr} {sl12 : Array (Option Value)} {oc12 kV12 dc12 pm12 cd12 ct12 : Value} {f12 : Addr}
    {od13 an13 : Option Addr} {sl13 : Array (Option Value)} {oc13 kV13 dc13 pm13 cd13 ct13 : Value} {f13 : Addr}
    {od14 an14 : Option Addr} {sl14 : Array (Option Value)} {oc14 kV14 dc14 pm14 cd14 ct14 : Value} {f14 : Addr}
    {od15 an15 : Option Addr} {sl15 : Array (Option Value)} {oc15 kV15 dc15 pm15 cd15 ct15 : Value} {f15 : Addr}
    {od16 an16 : Option Addr} {sl16 : Array (Option Value)} {oc16 kV16 dc16 pm16 cd16 ct16 : Value} {f16 : Addr}
    {od17 an17 : Option Addr} {sl17 : Array (Option Value)} {oc17 kV17 dc17 pm17 ct17 : Value} {f17 : Addr}
    {od18 an18 : Option Addr} {sl18 : Array (Option Value)} {oc18 kV18 dc18 pm18 ct18 : Value} {f18 : Addr}
    {od19 an19 : Option Addr} {sl19 : Array (Option Value)} {oc19 kV19 dc19 pm19 cd19 ct19 : Value} {f19 : Addr}
    {od20 an20 : Option Addr} {sl20 : Array (Option Value)} {oc20 kV20 dc20 pm20 cd20 ct20 : Value} {f20 : Addr}
    {K_HostPattern : Addr} (aC_HostPattern : PySem.W.nsIn K mainGlobals "HostPattern" = some (some (.ref K_HostPattern))) (pg_HostPattern : PySem.W.plainGet K K_HostPattern Str.empty = true) (hd_HostPattern : PySem.W.hasDictIn K K_HostPattern = true) (po_HostPattern : PySem.W.plainOver K K_HostPattern = true) (sa_HostPattern : PySem.W.findIn K (.ref K_HostPattern) "__setattr__" = some (some (.builtin "object.__setattr__")))
    (ca_HostPattern : PySem.W.findIn K (.ref K_HostPattern) "__class__" = some (some (.builtin "object.__class__"))) (cn_HostPattern : PySem.W.specialIn K (.builtin "object.__class__") "__get__" = some (some (.builtin "getset_descriptor.__get__"))) (ct_HostPattern : PySem.W.takesIn K (.builtin "object.__class__") = some true) (cm_HostPattern : PySem.W.mroIn K K_HostPattern (.type "object") = some true)
    (nf_HostPattern_text : PySem.W.findIn K (.ref K_HostPattern) "text" = some none)
    (nf_HostPattern_level : PySem.W.findIn K (.ref K_HostPattern) "level" = some none)
    (nf_HostPattern_head : PySem.W.findIn K (.ref K_HostPattern) "head" = some none)
    (nf_HostPattern_tail : PySem.W.findIn K (.ref K_HostPattern) "tail" = some none)
    (nf_HostPattern_gap : PySem.W.findIn K (.ref K_HostPattern) "gap" = some none)
    (mk_HostPattern : PySem.W.makesIn K K_HostPattern = true) (kc_HostPattern : PySem.W.keepIn K (.ref K_HostPattern) = true) (ai_HostPattern : PySem.W.findIn K (.ref K_HostPattern) "__init__" = some (some (.ref f17))) (fi_HostPattern : PySem.W.isFn K (.ref f17) = true)
    {K_LabelPattern : Addr} (aC_LabelPattern : PySem.W.nsIn K mainGlobals "LabelPattern" = some (some (.ref K_LabelPattern))) (pg_LabelPattern : PySem.W.plainGet K K_LabelPattern Str.empty = true) (hd_LabelPattern : PySem.W.hasDictIn K K_LabelPattern = true) (po_LabelPattern : PySem.W.plainOver K K_LabelPattern = true) (sa_LabelPattern : PySem.W.findIn K (.ref K_LabelPattern) "__setattr__" = some (some (.builtin "object.__setattr__")))
    (ca_LabelPattern : PySem.W.findIn K (.ref K_LabelPattern) "__class__" = some (some (.builtin "object.__class__"))) (cn_LabelPattern : PySem.W.specialIn K (.builtin "object.__class__") "__get__" = some (some (.builtin "getset_descriptor.__get__"))) (ct_LabelPattern : PySem.W.takesIn K (.builtin "object.__class__") = some true) (cm_LabelPattern : PySem.W.mroIn K K_LabelPattern (.type "object") = some true)
    (nf_LabelPattern_text : PySem.W.findIn K (.ref K_LabelPattern) "text" = some none)
    (nf_LabelPattern_level : PySem.W.findIn K (.ref K_LabelPattern) "level" = some none)
    (nf_LabelPattern_head : PySem.W.findIn K (.ref K_LabelPattern) "head" = some none)
    (nf_LabelPattern_tail : PySem.W.findIn K (.ref K_LabelPattern) "tail" = some none)
    (nf_LabelPattern_gap : PySem.W.findIn K (.ref K_LabelPattern) "gap" = some none)
    (mk_LabelPattern : PySem.W.makesIn K K_LabelPattern = true) (kc_LabelPattern : PySem.W.keepIn K (.ref K_LabelPattern) = true) (ai_LabelPattern : PySem.W.findIn K (.ref K_LabelPattern) "__init__" = some (some (.ref f10))) (fi_LabelPattern : PySem.W.isFn K (.ref f10) = true)
    {K_PathPattern : Addr} (aC_PathPattern : PySem.W.nsIn K mainGlobals "PathPattern" = some (some (.ref K_PathPattern))) (pg_PathPattern : PySem.W.plainGet K K_PathPattern Str.empty = true) (hd_PathPattern : PySem.W.hasDictIn K K_PathPattern = true) (po_PathPattern : PySem.W.plainOver K K_PathPattern = true) (sa_PathPattern : PySem.W.findIn K (.ref K_PathPattern) "__setattr__" = some (some (.builtin "object.__setattr__")))
    (ca_PathPattern : PySem.W.findIn K (.ref K_PathPattern) "__class__" = some (some (.builtin "object.__class__"))) (cn_PathPattern : PySem.W.specialIn K (.builtin "object.__class__") "__get__" = some (some (.builtin "getset_descriptor.__get__"))) (ct_PathPattern : PySem.W.takesIn K (.builtin "object.__class__") = some true) (cm_PathPattern : PySem.W.mroIn K K_PathPattern (.type "object") = some true)
    (nf_PathPattern_text : PySem.W.findIn K (.ref K_PathPattern) "text" = some none)
    (nf_PathPattern_level : PySem.W.findIn K (.ref K_PathPattern) "level" = some none)
    (nf_PathPattern_head : PySem.W.findIn K (.ref K_PathPattern) "head" = some none)
    (nf_PathPattern_tail : PySem.W.findIn K (.ref K_PathPattern) "tail" = some none)
    (nf_PathPattern_gap : PySem.W.findIn K (.ref K_PathPattern) "gap" = some none)
    (mk_PathPattern : PySem.W.makesIn K K_PathPattern = true) (kc_PathPattern : PySem.W.keepIn K (.ref K_PathPattern) = true) (ai_PathPattern : PySem.W.findIn K (.ref K_PathPattern) "__init__" = some (some (.ref f18))) (fi_PathPattern : PySem.W.isFn K (.ref f18) = true)
    {K_Pattern : Addr} (aC_Pattern : PySem.W.nsIn K mainGlobals "Pattern" = some (some (.ref K_Pattern))) (ai_Pattern : PySem.W.findIn K (.ref K_Pattern) "__init__" = some (some (.ref f5)))
    (zsuper : PySem.W.nsIn K mainGlobals "super" = some none) (tpany : PySem.W.nsIn K cStatics "thirdparty.any" = some none) (topsup : (l.prog.main.scope.names.lookup ("super" : Str)).isSome = false)
    (a0 : PySem.W.nsIn K mainGlobals "label_shape" = some (some (.ref f0)))
    (l0 : K.lookup f0 = some ⟨oc0, od0, .func (PySem.W.fnOf "label_shape" "label_shape" (defArgs s_label_shape) (defBody s_label_shape) (defScope s_label_shape) .none kV0 dc0 pm0 an0 cd0 ct0), sl0⟩) (c0 : PySem.W.codeIn K cd0 "label_shape" = true) (k0 : PySem.W.keepIn K (.ref f0) = true)
    (a1 : PySem.W.nsIn K mainGlobals "is_label_text" = some (some (.ref f1)))
    (l1 : K.lookup f1 = some ⟨oc1, od1, .func (PySem.W.fnOf "is_label_text" "is_label_text" (defArgs s_is_label_text) (defBody s_is_label_text) (defScope s_is_label_text) .none kV1 dc1 pm1 an1 cd1 ct1), sl1⟩) (c1 : PySem.W.codeIn K cd1 "is_label_text" = true) (k1 : PySem.W.keepIn K (.ref f1) = true)
    (a2 : PySem.W.nsIn K mainGlobals "_law_bag" = some (some (.ref f2)))
    (l2 : K.lookup f2 = some ⟨oc2, od2, .func (PySem.W.fnOf "_law_bag" "_law_bag" (defArgs s__law_bag) (defBody s__law_bag) (defScope s__law_bag) .none kV2 dc2 pm2 an2 cd2 ct2), sl2⟩) (c2 : PySem.W.codeIn K cd2 "_law_bag" = true) (k2 : PySem.W.keepIn K (.ref f2) = true)
    (a3 : PySem.W.nsIn K mainGlobals "_law_take" = some (some (.ref f3)))
    (l3 : K.lookup f3 = some ⟨oc3, od3, .func (PySem.W.fnOf "_law_take" "_law_take" (defArgs s__law_take) (defBody s__law_take) (defScope s__law_take) .none kV3 dc3 pm3 an3 cd3 ct3), sl3⟩) (c3 : PySem.W.codeIn K cd3 "_law_take" = true) (k3 : PySem.W.keepIn K (.ref f3) = true)
    (a4 : PySem.W.nsIn K mainGlobals "_law_is_glob" = some (some (.ref f4)))
    (l4 : K.lookup f4 = some ⟨oc4, od4, .func (PySem.W.fnOf "_law_is_glob" "_law_is_glob" (defArgs s__law_is_glob) (defBody s__law_is_glob) (defScope s__law_is_glob) .none kV4 dc4 pm4 an4 cd4 ct4), sl4⟩) (c4 : PySem.W.codeIn K cd4 "_law_is_glob" = true) (k4 : PySem.W.keepIn K (.ref f4) = true)
    (l5 : K.lookup f5 = some ⟨oc5, od5, .func (PySem.W.fnOf "__init__" "Pattern.__init__" (defArgs s_Pattern_init) (defBody s_Pattern_init) (defScope s_Pattern_init) .none kV5 dc5 pm5 an5 cd5 ct5), sl5⟩) (c5 : PySem.W.codeIn K cd5 "Pattern.__init__" = true) (k5 : PySem.W.keepIn K (.ref f5) = true)
    (a6 : PySem.W.nsIn K mainGlobals "shape_of_items" = some (some (.ref f6)))
    (l6 : K.lookup f6 = some ⟨oc6, od6, .func (PySem.W.fnOf "shape_of_items" "shape_of_items" (defArgs s_shape_of_items) (defBody s_shape_of_items) (defScope s_shape_of_items) .none kV6 dc6 pm6 an6 cd6 ct6), sl6⟩) (c6 : PySem.W.codeIn K cd6 "shape_of_items" = true) (k6 : PySem.W.keepIn K (.ref f6) = true)
    (a7 : PySem.W.nsIn K mainGlobals "_law_of" = some (some (.ref f7)))
    (l7 : K.lookup f7 = some ⟨oc7, od7, .func (PySem.W.fnOf "_law_of" "_law_of" (defArgs s__law_of) (defBody s__law_of) (defScope s__law_of) .none kV7 dc7 pm7 an7 cd7 ct7), sl7⟩) (c7 : PySem.W.codeIn K cd7 "_law_of" = true) (k7 : PySem.W.keepIn K (.ref f7) = true)
    (a8 : PySem.W.nsIn K mainGlobals "_law_signs" = some (some (.ref f8)))
    (l8 : K.lookup f8 = some ⟨oc8, od8, .func (PySem.W.fnOf "_law_signs" "_law_signs" (defArgs s__law_signs) (defBody s__law_signs) (defScope s__law_signs) .none kV8 dc8 pm8 an8 cd8 ct8), sl8⟩) (c8 : PySem.W.codeIn K cd8 "_law_signs" = true) (k8 : PySem.W.keepIn K (.ref f8) = true)
    (a9 : PySem.W.nsIn K mainGlobals "_law_are_items" = some (some (.ref f9)))
    (l9 : K.lookup f9 = some ⟨oc9, od9, .func (PySem.W.fnOf "_law_are_items" "_law_are_items" (defArgs s__law_are_items) (defBody s__law_are_items) (defScope s__law_are_items) .none kV9 dc9 pm9 an9 cd9 ct9), sl9⟩) (c9 : PySem.W.codeIn K cd9 "_law_are_items" = true) (k9 : PySem.W.keepIn K (.ref f9) = true)
    {cc10 cda10 : Addr} {ccl10 cl10 : Value} {cdd10 cld10 : Option Addr} {vs10 : Array Value} {ccs10 csl10 : Array (Option Value)} {file10 : Str} {tf10 : Tok}
    (l10 : K.lookup f10 = some ⟨oc10, od10, .func (PySem.W.fnX "__init__" "LabelPattern.__init__" (defArgs s_LabelPattern_init) (defBody s_LabelPattern_init) (defScope s_LabelPattern_init) [("__class__", cc10)] .none kV10 dc10 pm10 an10 (.ref cda10) ct10), sl10⟩) (c10 : PySem.W.codeIn K (.ref cda10) "LabelPattern.__init__" = true) (k10 : PySem.W.keepIn K (.ref f10) = true)
    (lc10 : K.lookup cda10 = some ⟨ccl10, cdd10, .fields vs10, ccs10⟩) (hv10 : vs10[2]? = some (.str file10 tf10)) (hf10 : ((l.prog.main.file : Str) == file10) = true) (hcc10 : K.lookup cc10 = some ⟨cl10, cld10, .cell (some (.ref K_LabelPattern)), csl10⟩) (hcl10 : PySem.W.isClsIn K K_LabelPattern = true) (hm10 : PySem.W.mroIn K K_LabelPattern (.ref K_LabelPattern) = some true) (tb10 : PySem.W.typeIn K (.ref f5) = some (.type "function")) (is10 : PySem.W.ks_superIn K K_LabelPattern K_LabelPattern "__init__" = some (some (.ref f5)))
    (a11 : PySem.W.nsIn K mainGlobals "host_shape" = some (some (.ref f11)))
    (l11 : K.lookup f11 = some ⟨oc11, od11, .func (PySem.W.fnOf "host_shape" "host_shape" (defArgs s_host_shape) (defBody s_host_shape) (defScope s_host_shape) .none kV11 dc11 pm11 an11 cd11 ct11), sl11⟩) (c11 : PySem.W.codeIn K cd11 "host_shape" = true) (k11 : PySem.W.keepIn K (.ref f11) = true)
    (a12 : PySem.W.nsIn K mainGlobals "path_shape" = some (some (.ref f12)))
    (l12 : K.lookup f12 = some ⟨oc12, od12, .func (PySem.W.fnOf "path_shape" "path_shape" (defArgs s_path_shape) (defBody s_path_shape) (defScope s_path_shape) .none kV12 dc12 pm12 an12 cd12 ct12), sl12⟩) (c12 : PySem.W.codeIn K cd12 "path_shape" = true) (k12 : PySem.W.keepIn K (.ref f12) = true)
    (a13 : PySem.W.nsIn K mainGlobals "_law_label" = some (some (.ref f13)))
    (l13 : K.lookup f13 = some ⟨oc13, od13, .func (PySem.W.fnOf "_law_label" "_law_label" (defArgs s__law_label) (defBody s__law_label) (defScope s__law_label) .none kV13 dc13 pm13 an13 cd13 ct13), sl13⟩) (c13 : PySem.W.codeIn K cd13 "_law_label" = true) (k13 : PySem.W.keepIn K (.ref f13) = true)
    (a14 : PySem.W.nsIn K mainGlobals "_law_glob" = some (some (.ref f14)))
    (l14 : K.lookup f14 = some ⟨oc14, od14, .func (PySem.W.fnOf "_law_glob" "_law_glob" (defArgs s__law_glob) (defBody s__law_glob) (defScope s__law_glob) .none kV14 dc14 pm14 an14 cd14 ct14), sl14⟩) (c14 : PySem.W.codeIn K cd14 "_law_glob" = true) (k14 : PySem.W.keepIn K (.ref f14) = true)
    (a15 : PySem.W.nsIn K mainGlobals "_law_due" = some (some (.ref f15)))
    (l15 : K.lookup f15 = some ⟨oc15, od15, .func (PySem.W.fnOf "_law_due" "_law_due" (defArgs s__law_due) (defBody s__law_due) (defScope s__law_due) .none kV15 dc15 pm15 an15 cd15 ct15), sl15⟩) (c15 : PySem.W.codeIn K cd15 "_law_due" = true) (k15 : PySem.W.keepIn K (.ref f15) = true)
    (a16 : PySem.W.nsIn K mainGlobals "_law_text" = some (some (.ref f16)))
    (l16 : K.lookup f16 = some ⟨oc16, od16, .func (PySem.W.fnOf "_law_text" "_law_text" (defArgs s__law_text) (defBody s__law_text) (defScope s__law_text) .none kV16 dc16 pm16 an16 cd16 ct16), sl16⟩) (c16 : PySem.W.codeIn K cd16 "_law_text" = true) (k16 : PySem.W.keepIn K (.ref f16) = true)
    {cc17 cda17 : Addr} {ccl17 cl17 : Value} {cdd17 cld17 : Option Addr} {vs17 : Array Value} {ccs17 csl17 : Array (Option Value)} {file17 : Str} {tf17 : Tok}
    (l17 : K.lookup f17 = some ⟨oc17, od17, .func (PySem.W.fnX "__init__" "HostPattern.__init__" (defArgs s_HostPattern_init) (defBody s_HostPattern_init) (defScope s_HostPattern_init) [("__class__", cc17)] .none kV17 dc17 pm17 an17 (.ref cda17) ct17), sl17⟩) (c17 : PySem.W.codeIn K (.ref cda17) "HostPattern.__init__" = true) (k17 : PySem.W.keepIn K (.ref f17) = true)
    (lc17 : K.lookup cda17 = some ⟨ccl17, cdd17, .fields vs17, ccs17⟩) (hv17 : vs17[2]? = some (.str file17 tf17)) (hf17 : ((l.prog.main.file : Str) == file17) = true) (hcc17 : K.lookup cc17 = some ⟨cl17, cld17, .cell (some (.ref K_HostPattern)), csl17⟩) (hcl17 : PySem.W.isClsIn K K_HostPattern = true) (hm17 : PySem.W.mroIn K K_HostPattern (.ref K_HostPattern) = some true) (tb17 : PySem.W.typeIn K (.ref f5) = some (.type "function")) (is17 : PySem.W.ks_superIn K K_HostPattern K_HostPattern "__init__" = some (some (.ref f5)))
    {cc18 cda18 : Addr} {ccl18 cl18 : Value} {cdd18 cld18 : Option Addr} {vs18 : Array Value} {ccs18 csl18 : Array (Option Value)} {file18 : Str} {tf18 : Tok}
    (l18 : K.lookup f18 = some ⟨oc18, od18, .func (PySem.W.fnX "__init__" "PathPattern.__init__" (defArgs s_PathPattern_init) (defBody s_PathPattern_init) (defScope s_PathPattern_init) [("__class__", cc18)] .none kV18 dc18 pm18 an18 (.ref cda18) ct18), sl18⟩) (c18 : PySem.W.codeIn K (.ref cda18) "PathPattern.__init__" = true) (k18 : PySem.W.keepIn K (.ref f18) = true)
    (lc18 : K.lookup cda18 = some ⟨ccl18, cdd18, .fields vs18, ccs18⟩) (hv18 : vs18[2]? = some (.str file18 tf18)) (hf18 : ((l.prog.main.file : Str) == file18) = true) (hcc18 : K.lookup cc18 = some ⟨cl18, cld18, .cell (some (.ref K_PathPattern)), csl18⟩) (hcl18 : PySem.W.isClsIn K K_PathPattern = true) (hm18 : PySem.W.mroIn K K_PathPattern (.ref K_PathPattern) = some true) (tb18 : PySem.W.typeIn K (.ref f5) = some (.type "function")) (is18 : PySem.W.ks_superIn K K_PathPattern K_PathPattern "__init__" = some (some (.ref f5)))
    (a19 : PySem.W.nsIn K mainGlobals "_law_asked" = some (some (.ref f19)))
    (l19 : K.lookup f19 = some ⟨oc19, od19, .func (PySem.W.fnOf "_law_asked" "_law_asked" (defArgs s__law_asked) (defBody s__law_asked) (defScope s__law_asked) .none kV19 dc19 pm19 an19 cd19 ct19), sl19⟩) (c19 : PySem.W.codeIn K cd19 "_law_asked" = true) (k19 : PySem.W.keepIn K (.ref f19) = true)
    (a20 : PySem.W.nsIn K mainGlobals "law" = some (some (.ref f20)))
    (l20 : K.lookup f20 = some ⟨oc20, od20, .func (PySem.W.fnOf "law" "law" (defArgs s_law) (defBody s_law) (defScope s_law) .none kV20 dc20 pm20 an20 cd20 ct20), sl20⟩) (c20 : PySem.W.codeIn K cd20 "law" = true) (k20 : PySem.W.keepIn K (.ref f20) = true)
    {Cx_BadItem fx_BadItem : Addr} {odx_BadItem anx_BadItem : Option Addr} {slx_BadItem : Array (Option Value)} {ocx_BadItem dcx_BadItem pmx_BadItem cdx_BadItem ctx_BadItem : Value}
    (aC_BadItem : PySem.W.nsIn K mainGlobals "BadItem" = some (some (.ref Cx_BadItem))) (xL_BadItem : ∃ (b : PySem.OwnX.XB) (nm q : Str) (N : Addr) (bs bm : List Value) (sn : List Str) (sub : List Value) (ab : Bool) (col : Option Bool) (dd : Option Addr) (k0 k1 k2 k3 k5 : Option Value), K.lookup Cx_BadItem = some (excClassObj nm q Cx_BadItem N bs bm true sn sub ab col dd k0 k1 k2 k3 k5 b.nw) ∧ PySem.OwnX.overB b bm = true)
    (sa_BadItem : PySem.W.findIn K (.ref Cx_BadItem) "__setattr__" = some (some (.builtin "object.__setattr__"))) (ga_BadItem : PySem.W.findIn K (.ref Cx_BadItem) "__getattribute__" = some (some (.builtin "BaseException.__getattribute__"))) (gg_BadItem : PySem.W.findIn K (.ref Cx_BadItem) "__getattr__" = some none) (nb_BadItem : PySem.W.findIn K (.ref Cx_BadItem) "item" = some none)
    (ai_BadItem : PySem.W.findIn K (.ref Cx_BadItem) "__init__" = some (some (.ref fx_BadItem))) (ti_BadItem : PySem.W.typeIn K (.ref fx_BadItem) = some (.type "function"))
    (li_BadItem : K.lookup fx_BadItem = some ⟨ocx_BadItem, odx_BadItem, .func (PySem.W.fnOf "__init__" "BadItem.__init__" (PySem.OwnX.iA "item" ⟨11, 17, 11, 21⟩ ⟨11, 23, 11, 27⟩) (PySem.OwnX.iB "item" ⟨12, 8, 12, 12⟩ ⟨12, 8, 12, 17⟩ ⟨12, 20, 12, 24⟩ ⟨12, 8, 12, 24⟩) (PySem.OwnX.iS "item") .none .none dcx_BadItem pmx_BadItem anx_BadItem cdx_BadItem ctx_BadItem), slx_BadItem⟩) (ci_BadItem : PySem.W.codeIn K cdx_BadItem "BadItem.__init__" = true)
    (kC_BadItem : PySem.W.keepIn K (.ref Cx_BadItem) = true) (eC_BadItem : PySem.W.subIn K (.ref Cx_BadItem) (.type "BaseException") = some true) (tC_BadItem : PySem.W.typeIn K (.ref Cx_BadItem) = some (.type "type")) (hC_BadItem : PySem.W.hasDictIn K Cx_BadItem = true) (iC_BadItem : PySem.W.isClsIn K Cx_BadItem = true) (sC_BadItem : PySem.W.subIn K (.ref Cx_BadItem) (.ref Cx_BadItem) = some true)
    {Cx_BadPattern fx_BadPattern : Addr} {odx_BadPattern anx_BadPattern : Option Addr} {slx_BadPattern : Array (Option Value)} {ocx_BadPattern dcx_BadPattern pmx_BadPattern cdx_BadPattern ctx_BadPattern : Value}
    (aC_BadPattern : PySem.W.nsIn K mainGlobals "BadPattern" = some (some (.ref Cx_BadPattern))) (xL_BadPattern : ∃ (b : PySem.OwnX.XB) (nm q : Str) (N : Addr) (bs bm : List Value) (sn : List Str) (sub : List Value) (ab : Bool) (col : Option Bool) (dd : Option Addr) (k0 k1 k2 k3 k5 : Option Value), K.lookup Cx_BadPattern = some (excClassObj nm q Cx_BadPattern N bs bm true sn sub ab col dd k0 k1 k2 k3 k5 b.nw) ∧ PySem.OwnX.overB b bm = true)
    (sa_BadPattern : PySem.W.findIn K (.ref Cx_BadPattern) "__setattr__" = some (some (.builtin "object.__setattr__"))) (ga_BadPattern : PySem.W.findIn K (.ref Cx_BadPattern) "__getattribute__" = some (some (.builtin "BaseException.__getattribute__"))) (gg_BadPattern : PySem.W.findIn K (.ref Cx_BadPattern) "__getattr__" = some none) (nb_BadPattern : PySem.W.findIn K (.ref Cx_BadPattern) "pattern" = some none)
    (ai_BadPattern : PySem.W.findIn K (.ref Cx_BadPattern) "__init__" = some (some (.ref fx_BadPattern))) (ti_BadPattern : PySem.W.typeIn K (.ref fx_BadPattern) = some (.type "function"))
    (li_BadPattern : K.lookup fx_BadPattern = some ⟨ocx_BadPattern, odx_BadPattern, .func (PySem.W.fnOf "__init__" "BadPattern.__init__" (PySem.OwnX.iA "pattern" ⟨7, 17, 7, 21⟩ ⟨7, 23, 7, 30⟩) (PySem.OwnX.iB "pattern" ⟨8, 8, 8, 12⟩ ⟨8, 8, 8, 20⟩ ⟨8, 23, 8, 30⟩ ⟨8, 8, 8, 30⟩) (PySem.OwnX.iS "pattern") .none .none dcx_BadPattern pmx_BadPattern anx_BadPattern cdx_BadPattern ctx_BadPattern), slx_BadPattern⟩) (ci_BadPattern : PySem.W.codeIn K cdx_BadPattern "BadPattern.__init__" = true)
    (kC_BadPattern : PySem.W.keepIn K (.ref Cx_BadPattern) = true) (eC_BadPattern : PySem.W.subIn K (.ref Cx_BadPattern) (.type "BaseException") = some true) (tC_BadPattern : PySem.W.typeIn K (.ref Cx_BadPattern) = some (.type "type")) (hC_BadPattern : PySem.W.hasDictIn K Cx_BadPattern = true) (iC_BadPattern : PySem.W.isClsIn K Cx_BadPattern = true) (sC_BadPattern : PySem.W.subIn K (.ref Cx_BadPattern) (.ref Cx_BadPattern) = some true)
    (ea_BadPattern : PySem.W.findIn K (.ref Cx_BadPattern) "__class__" = some (some (.builtin "object.__class__"))) (en_BadPattern : PySem.W.specialIn K (.builtin "object.__class__") "__get__" = some (some (.builtin "getset_descriptor.__get__"))) (et_BadPattern : PySem.W.takesIn K (.builtin "object.__class__") = some true) (em_BadPattern : PySem.W.mroIn K Cx_BadPattern (.type "object") = some true)
    (ki_BadPattern_ValueError : PySem.W.subIn K (.ref Cx_BadPattern) (.type "ValueError") = some true)
    (kn_BadItem_BadItem : PySem.W.subIn K (.ref Cx_BadItem) (.ref Cx_BadItem) = some true)
    (kn_BadPattern_BadItem : PySem.W.subIn K (.ref Cx_BadPattern) (.ref Cx_BadItem) = some false)
    (kn_BadItem_BadPattern : PySem.W.subIn K (.ref Cx_BadItem) (.ref Cx_BadPattern) = some false)
    (kn_BadPattern_BadPattern : PySem.W.subIn K (.ref Cx_BadPattern) (.ref Cx_BadPattern) = some true)
    (z_ValueError : PySem.W.nsIn K mainGlobals "ValueError" = some none)
    (z_abs : PySem.W.nsIn K mainGlobals "abs" = some none)
    (z_all : PySem.W.nsIn K mainGlobals "all" = some none)
    (z_enumerate : PySem.W.nsIn K mainGlobals "enumerate" = some none)
    (z_int : PySem.W.nsIn K mainGlobals "int" = some none)
    (z_isinstance : PySem.W.nsIn K mainGlobals "isinstance" = some none)
    (z_len : PySem.W.nsIn K mainGlobals "len" = some none)
    (z_list : PySem.W.nsIn K mainGlobals "list" = some none)
    (z_max : PySem.W.nsIn K mainGlobals "max" = some none)
    (z_min : PySem.W.nsIn K mainGlobals "min" = some none)
    (z_range : PySem.W.nsIn K mainGlobals "range" = some none)
    (z_repr : PySem.W.nsIn K mainGlobals "repr" = some none)
    (z_str : PySem.W.nsIn K mainGlobals "str" = some none)
    (z_tuple : PySem.W.nsIn K mainGlobals "tuple" = some none)
    {t_CHARACTERS : Tok} (g_CHARACTERS : PySem.W.nsIn K mainGlobals "CHARACTERS" = some (some (.str "0123456789abcdefghijklmnopqrstuvwxyz" t_CHARACTERS)))
    {t_GAP : Tok} (g_GAP : PySem.W.nsIn K mainGlobals "GAP" = some (some (.str "**" t_GAP)))
    {t_HOST : Tok} (g_HOST : PySem.W.nsIn K mainGlobals "HOST" = some (some (.str "host" t_HOST)))
    {tc_HOST_LIMITS : Addr} (g_HOST_LIMITS : PySem.W.nsIn K mainGlobals "HOST_LIMITS" = some (some (.ref tc_HOST_LIMITS))) (gl_HOST_LIMITS : Is K mg (fun _ => none) (.tup [(.int (1)), (.int (4)), (.int (3)), (.int (2))]) (.ref tc_HOST_LIMITS))
    {t_LABEL : Tok} (g_LABEL : PySem.W.nsIn K mainGlobals "LABEL" = some (some (.str "label" t_LABEL)))
    {t_LONGEST_TEXT : Tok} (g_LONGEST_TEXT : PySem.W.nsIn K mainGlobals "LONGEST_TEXT" = some (some (.int 8 t_LONGEST_TEXT)))
    {t_PATH : Tok} (g_PATH : PySem.W.nsIn K mainGlobals "PATH" = some (some (.str "path" t_PATH)))
    {tc_PATH_LIMITS : Addr} (g_PATH_LIMITS : PySem.W.nsIn K mainGlobals "PATH_LIMITS" = some (some (.ref tc_PATH_LIMITS))) (gl_PATH_LIMITS : Is K mg (fun _ => none) (.tup [(.int (0)), (.int (3)), (.int (2)), (.int (2))]) (.ref tc_PATH_LIMITS))
    : ∃ fd : FuncData, (∀ (s : Shared) (v : Value), BindsTo s fd ⟨[v], []⟩ [("_law_script", v)]) ∧ ∀ base : Heap, K.In base → base.Ns mainGlobals mg → FnG l.prog w K mg base 7 fa fd ["_law_script"] (spR K mg false 1 m_law_8576) := by
  have e := hfa.symm.trans (PySem.W.mg_of X G a20)
  cases e
  have F0 := fun_mk (st := s_label_shape) l0 c0 k0
  have b0 := F0.binds (ps := ["text"]) fun _ _ _ _ _ _ us hl => match us, hl with | [_], _ => rfl
  have F1 := fun_mk (st := s_is_label_text) l1 c1 k1
  have b1 := F1.binds (ps := ["thing"]) fun _ _ _ _ _ _ us hl => match us, hl with | [_], _ => rfl
  have F2 := fun_mk (st := s__law_bag) l2 c2 k2
  have b2 := F2.binds (ps := ["_law_script", "_law_at"]) fun _ _ _ _ _ _ us hl => match us, hl with | [_, _], _ => rfl
  have F3 := fun_mk (st := s__law_take) l3 c3 k3
  have b3 := F3.binds (ps := ["_law_bag_here", "_law_many"]) fun _ _ _ _ _ _ us hl => match us, hl with | [_, _], _ => rfl
  have F4 := fun_mk (st := s__law_is_glob) l4 c4 k4
  have b4 := F4.binds (ps := ["_law_text_here"]) fun _ _ _ _ _ _ us hl => match us, hl with | [_], _ => rfl
  have F5 := fun_mk (st := s_Pattern_init) l5 c5 k5
  have b5 := F5.binds (ps := ["self", "text", "level", "shape"]) fun _ _ _ _ _ _ us hl => match us, hl with | [_, _, _, _], _ => rfl
  have F6 := fun_mk (st := s_shape_of_items) l6 c6 k6
  have b6 := F6.binds (ps := ["items", "limits"]) fun _ _ _ _ _ _ us hl => match us, hl with | [_, _], _ => rfl
  have F7 := fun_mk (st := s__law_of) l7 c7 k7
  have b7 := F7.binds (ps := ["_law_bag_here", "_law_some"]) fun _ _ _ _ _ _ us hl => match us, hl with | [_, _], _ => rfl
  have F8 := fun_mk (st := s__law_signs) l8 c8 k8
  have b8 := F8.binds (ps := ["_law_bag_here", "_law_many"]) fun _ _ _ _ _ _ us hl => match us, hl with | [_, _], _ => rfl
  have F9 := fun_mk (st := s__law_are_items) l9 c9 k9
  have b9 := F9.binds (ps := ["_law_items", "_law_least", "_law_most", "_law_ahead", "_law_behind"]) fun _ _ _ _ _ _ us hl => match us, hl with | [_, _, _, _, _], _ => rfl
  have F10 := supFun_mk (P := l.prog) (mg := mg) (st := s_LabelPattern_init) l10 c10 lc10 hv10 hf10 hcc10 hcl10 hm10 (PySem.W.mg_none_of X G zsuper) topsup is10 tb10 l5 tpany
  have b10 := Binds.all (K := K) (fd := PySem.W.fnX "__init__" "LabelPattern.__init__" (defArgs s_LabelPattern_init) (defBody s_LabelPattern_init) (defScope s_LabelPattern_init) [("__class__", cc10)] .none kV10 dc10 pm10 an10 (.ref cda10) ct10) (ps := ["self", "text"]) fun us hl => match us, hl with | [_, _], _ => rfl
  have F11 := fun_mk (st := s_host_shape) l11 c11 k11
  have b11 := F11.binds (ps := ["thing"]) fun _ _ _ _ _ _ us hl => match us, hl with | [_], _ => rfl
  have F12 := fun_mk (st := s_path_shape) l12 c12 k12
  have b12 := F12.binds (ps := ["thing"]) fun _ _ _ _ _ _ us hl => match us, hl with | [_], _ => rfl
  have F13 := fun_mk (st := s__law_label) l13 c13 k13
  have b13 := F13.binds (ps := ["_law_bag_here", "_law_signs_here", "_law_most"]) fun _ _ _ _ _ _ us hl => match us, hl with | [_, _, _], _ => rfl
  have F14 := fun_mk (st := s__law_glob) l14 c14 k14
  have b14 := F14.binds (ps := ["_law_bag_here", "_law_signs_here", "_law_most"]) fun _ _ _ _ _ _ us hl => match us, hl with | [_, _, _], _ => rfl
  have F15 := fun_mk (st := s__law_due) l15 c15 k15
  have b15 := F15.binds (ps := ["_law_level", "_law_text_here"]) fun _ _ _ _ _ _ us hl => match us, hl with | [_, _], _ => rfl
  have F16 := fun_mk (st := s__law_text) l16 c16 k16
  have b16 := F16.binds (ps := ["_law_bag_here", "_law_signs_here"]) fun _ _ _ _ _ _ us hl => match us, hl with | [_, _], _ => rfl
  have F17 := supFun_mk (P := l.prog) (mg := mg) (st := s_HostPattern_init) l17 c17 lc17 hv17 hf17 hcc17 hcl17 hm17 (PySem.W.mg_none_of X G zsuper) topsup is17 tb17 l5 tpany
  have b17 := Binds.all (K := K) (fd := PySem.W.fnX "__init__" "HostPattern.__init__" (defArgs s_HostPattern_init) (defBody s_HostPattern_init) (defScope s_HostPattern_init) [("__class__", cc17)] .none kV17 dc17 pm17 an17 (.ref cda17) ct17) (ps := ["self", "text"]) fun us hl => match us, hl with | [_, _], _ => rfl
  have F18 := supFun_mk (P := l.prog) (mg := mg) (st := s_PathPattern_init) l18 c18 lc18 hv18 hf18 hcc18 hcl18 hm18 (PySem.W.mg_none_of X G zsuper) topsup is18 tb18 l5 tpany
  have b18 := Binds.all (K := K) (fd := PySem.W.fnX "__init__" "PathPattern.__init__" (defArgs s_PathPattern_init) (defBody s_PathPattern_init) (defScope s_PathPattern_init) [("__class__", cc18)] .none kV18 dc18 pm18 an18 (.ref cda18) ct18) (ps := ["self", "text"]) fun us hl => match us, hl with | [_, _], _ => rfl
  have F19 := fun_mk (st := s__law_asked) l19 c19 k19
  have b19 := F19.binds (ps := ["_law_level", "_law_thing"]) fun _ _ _ _ _ _ us hl => match us, hl with | [_, _], _ => rfl
  have F20 := fun_mk (st := s_law) l20 c20 k20
  have b20 := F20.binds (ps := ["_law_script"]) fun _ _ _ _ _ _ us hl => match us, hl with | [_], _ => rfl
  have T : Txt l.prog K mg ⟨_, _, _, _, _, _, _, _, _, _, _, _, _, _, _, _, _, _, _, _, _, _, _, _, _, _, _, _, _, _, _, _, _, _, _, _, _, _, _, _, _, _, _, _, _, _, _, _, _⟩ := ⟨PySem.W.mg_of X G a0, F0, b0, PySem.W.mg_of X G a1, F1, b1, PySem.W.mg_of X G a2, F2, b2, PySem.W.mg_of X G a3, F3, b3, PySem.W.mg_of X G a4, F4, b4, F5, b5, PySem.W.mg_of X G a6, F6, b6, PySem.W.mg_of X G a7, F7, b7, PySem.W.mg_of X G a8, F8, b8, PySem.W.mg_of X G a9, F9, b9, F10, b10, PySem.W.mg_of X G a11, F11, b11, PySem.W.mg_of X G a12, F12, b12, PySem.W.mg_of X G a13, F13, b13, PySem.W.mg_of X G a14, F14, b14, PySem.W.mg_of X G a15, F15, b15, PySem.W.mg_of X G a16, F16, b16, F17, b17, F18, b18, PySem.W.mg_of X G a19, F19, b19, PySem.W.mg_of X G a20, F20, b20, ⟨PySem.W.mg_of X G aC_HostPattern, ⟨pg_HostPattern, hd_HostPattern, po_HostPattern, sa_HostPattern⟩, ca_HostPattern, cn_HostPattern, ct_HostPattern, cm_HostPattern⟩, (fun f hf => by
      simp only [List.mem_cons, List.not_mem_nil, or_false] at hf
      rcases hf with rfl | rfl | rfl | rfl | rfl
      · exact nf_HostPattern_text
      · exact nf_HostPattern_level
      · exact nf_HostPattern_head
      · exact nf_HostPattern_tail
      · exact nf_HostPattern_gap), ⟨mk_HostPattern, ai_HostPattern, fi_HostPattern, kc_HostPattern⟩, ⟨PySem.W.mg_of X G aC_LabelPattern, ⟨pg_LabelPattern, hd_LabelPattern, po_LabelPattern, sa_LabelPattern⟩, ca_LabelPattern, cn_LabelPattern, ct_LabelPattern, cm_LabelPattern⟩, (fun f hf => by
      simp only [List.mem_cons, List.not_mem_nil, or_false] at hf
      rcases hf with rfl | rfl | rfl | rfl | rfl
      · exact nf_LabelPattern_text
      · exact nf_LabelPattern_level
      · exact nf_LabelPattern_head
      · exact nf_LabelPattern_tail
      · exact nf_LabelPattern_gap), ⟨mk_LabelPattern, ai_LabelPattern, fi_LabelPattern, kc_LabelPattern⟩, ⟨PySem.W.mg_of X G aC_PathPattern, ⟨pg_PathPattern, hd_PathPattern, po_PathPattern, sa_PathPattern⟩, ca_PathPattern, cn_PathPattern, ct_PathPattern, cm_PathPattern⟩, (fun f hf => by
      simp only [List.mem_cons, List.not_mem_nil, or_false] at hf
      rcases hf with rfl | rfl | rfl | rfl | rfl
      · exact nf_PathPattern_text
      · exact nf_PathPattern_level
      · exact nf_PathPattern_head
      · exact nf_PathPattern_tail
      · exact nf_PathPattern_gap), ⟨mk_PathPattern, ai_PathPattern, fi_PathPattern, kc_PathPattern⟩, { fs := by decide, fb := by decide, bind := fun _ _ _ _ _ _ _ _ _ _ _ _ _ => rfl, gC := PySem.W.mg_of X G aC_BadItem, cls := xL_BadItem, sa := sa_BadItem, ga := ga_BadItem, gg := gg_BadItem, noN := nb_BadItem, iC := ai_BadItem, tC := ti_BadItem, kC := kC_BadItem, exC := eC_BadItem, tyC := tC_BadItem, hdC := hC_BadItem, te := exm_self eC_BadItem iC_BadItem tC_BadItem sC_BadItem, fn := ⟨_, _, _, _, _, _, _, _, _, _, _, _, _, _, li_BadItem, ci_BadItem⟩ }, { fs := by decide, fb := by decide, bind := fun _ _ _ _ _ _ _ _ _ _ _ _ _ => rfl, gC := PySem.W.mg_of X G aC_BadPattern, cls := xL_BadPattern, sa := sa_BadPattern, ga := ga_BadPattern, gg := gg_BadPattern, noN := nb_BadPattern, iC := ai_BadPattern, tC := ti_BadPattern, kC := kC_BadPattern, exC := eC_BadPattern, tyC := tC_BadPattern, hdC := hC_BadPattern, te := exm_self eC_BadPattern iC_BadPattern tC_BadPattern sC_BadPattern, fn := ⟨_, _, _, _, _, _, _, _, _, _, _, _, _, _, li_BadPattern, ci_BadPattern⟩ }, ⟨ga_BadPattern, gg_BadPattern, eC_BadPattern, hC_BadPattern, ea_BadPattern, en_BadPattern, et_BadPattern, em_BadPattern⟩, (kit_subT (by decide +kernel) ki_BadPattern_ValueError), (kit_subO iC_BadItem tC_BadItem sC_BadItem kn_BadPattern_BadItem), (fun q hq C1 hC1 => by
      simp only [List.mem_cons, List.not_mem_nil, or_false] at hq
      rcases hq with rfl | rfl
      · cases (PySem.W.mg_of X G aC_BadItem).symm.trans hC1; exact (exm_sub eC_BadItem iC_BadItem tC_BadItem kn_BadItem_BadItem).trans (by decide +kernel)
      · cases (PySem.W.mg_of X G aC_BadPattern).symm.trans hC1; exact (exm_sub eC_BadItem iC_BadItem tC_BadItem kn_BadPattern_BadItem).trans (by decide +kernel)), (fun q hq C1 hC1 => by
      simp only [List.mem_cons, List.not_mem_nil, or_false] at hq
      rcases hq with rfl | rfl
      · cases (PySem.W.mg_of X G aC_BadItem).symm.trans hC1; exact (exm_sub eC_BadPattern iC_BadPattern tC_BadPattern kn_BadItem_BadPattern).trans (by decide +kernel)
      · cases (PySem.W.mg_of X G aC_BadPattern).symm.trans hC1; exact (exm_sub eC_BadPattern iC_BadPattern tC_BadPattern kn_BadPattern_BadPattern).trans (by decide +kernel)), PySem.W.mg_none_of X G z_ValueError, PySem.W.mg_none_of X G z_abs, PySem.W.mg_none_of X G z_all, PySem.W.mg_none_of X G z_enumerate, PySem.W.mg_none_of X G z_int, PySem.W.mg_none_of X G z_isinstance, PySem.W.mg_none_of X G z_len, PySem.W.mg_none_of X G z_list, PySem.W.mg_none_of X G z_max, PySem.W.mg_none_of X G z_min, PySem.W.mg_none_of X G z_range, PySem.W.mg_none_of X G z_repr, PySem.W.mg_none_of X G z_str, PySem.W.mg_none_of X G z_tuple, globS (PySem.W.mg_of X G g_CHARACTERS) (by decide +kernel) (by decide), globS (PySem.W.mg_of X G g_GAP) (by decide +kernel) (by decide), globS (PySem.W.mg_of X G g_HOST) (by decide +kernel) (by decide), ⟨.ref tc_HOST_LIMITS, .ref tc_HOST_LIMITS, PySem.W.mg_of X G g_HOST_LIMITS, rfl, gl_HOST_LIMITS⟩, globS (PySem.W.mg_of X G g_LABEL) (by decide +kernel) (by decide), globI (PySem.W.mg_of X G g_LONGEST_TEXT), globS (PySem.W.mg_of X G g_PATH) (by decide +kernel) (by decide), ⟨.ref tc_PATH_LIMITS, .ref tc_PATH_LIMITS, PySem.W.mg_of X G g_PATH_LIMITS, rfl, gl_PATH_LIMITS⟩⟩
  exact ⟨_, fun s v => .of_eq rfl, fun base _ _ => g_law T⟩
end K09
namespace K09
open PySem L2 DL FN
def ex0 (K : PySem.W.Frag) : Bool := decide (PySem.W.nsIn K mainGlobals "HostPattern" = some (some (.ref (He.ga K "HostPattern")))) && (PySem.W.plainGet K (He.ga K "HostPattern") Str.empty && (PySem.W.hasDictIn K (He.ga K "HostPattern") && (PySem.W.plainOver K (He.ga K "HostPattern") && (decide (PySem.W.findIn K (.ref (He.ga K "HostPattern")) "__setattr__" = some (some (.builtin "object.__setattr__"))) && (decide (PySem.W.findIn K (.ref (He.ga K "HostPattern")) "__class__" = some (some (.builtin "object.__class__"))) && (decide (PySem.W.specialIn K (.builtin "object.__class__") "__get__" = some (some (.builtin "getset_descriptor.__get__"))) && (decide (PySem.W.takesIn K (.builtin "object.__class__") = some true) && (decide (PySem.W.mroIn K (He.ga K "HostPattern") (.type "object") = some true) && (decide (PySem.W.findIn K (.ref (He.ga K "HostPattern")) "text" = some none))))))))))
def ex1 (K : PySem.W.Frag) : Bool := decide (PySem.W.findIn K (.ref (He.ga K "HostPattern")) "level" = some none) && (decide (PySem.W.findIn K (.ref (He.ga K "HostPattern")) "head" = some none) && (decide (PySem.W.findIn K (.ref (He.ga K "HostPattern")) "tail" = some none) && (decide (PySem.W.findIn K (.ref (He.ga K "HostPattern")) "gap" = some none) && (PySem.W.makesIn K (He.ga K "HostPattern") && (PySem.W.keepIn K (.ref (He.ga K "HostPattern")) && (decide (PySem.W.findIn K (.ref (He.ga K "HostPattern")) "__init__" = some (some (.ref (He.ma K (He.ga K "HostPattern") "__init__")))) && (PySem.W.isFn K (.ref (He.ma K (He.ga K "HostPattern") "__init__")) && (decide (PySem.W.nsIn K mainGlobals "LabelPattern" = some (some (.ref (He.ga K "LabelPattern")))) && (PySem.W.plainGet K (He.ga K "LabelPattern") Str.empty)))))))))
def ex2 (K : PySem.W.Frag) : Bool := PySem.W.hasDictIn K (He.ga K "LabelPattern") && (PySem.W.plainOver K (He.ga K "LabelPattern") && (decide (PySem.W.findIn K (.ref (He.ga K "LabelPattern")) "__setattr__" = some (some (.builtin "object.__setattr__"))) && (decide (PySem.W.findIn K (.ref (He.ga K "LabelPattern")) "__class__" = some (some (.builtin "object.__class__"))) && (decide (PySem.W.specialIn K (.builtin "object.__class__") "__get__" = some (some (.builtin "getset_descriptor.__get__"))) && (decide (PySem.W.takesIn K (.builtin "object.__class__") = some true) && (decide (PySem.W.mroIn K (He.ga K "LabelPattern") (.type "object") = some true) && (decide (PySem.W.findIn K (.ref (He.ga K "LabelPattern")) "text" = some none) && (decide (PySem.W.findIn K (.ref (He.ga K "LabelPattern")) "level" = some none) && (decide (PySem.W.findIn K (.ref (He.ga K "LabelPattern")) "head" = some none))))))))))
def ex3 (K : PySem.W.Frag) : Bool := decide (PySem.W.findIn K (.ref (He.ga K "LabelPattern")) "tail" = some none) && (decide (PySem.W.findIn K (.ref (He.ga K "LabelPattern")) "gap" = some none) && (PySem.W.makesIn K (He.ga K "LabelPattern") && (PySem.W.keepIn K (.ref (He.ga K "LabelPattern")) && (decide (PySem.W.findIn K (.ref (He.ga K "LabelPattern")) "__init__" = some (some (.ref (He.ma K (He.ga K "LabelPattern") "__init__")))) && (PySem.W.isFn K (.ref (He.ma K (He.ga K "LabelPattern") "__init__")) && (decide (PySem.W.nsIn K mainGlobals "PathPattern" = some (some (.ref (He.ga K "PathPattern")))) && (PySem.W.plainGet K (He.ga K "PathPattern") Str.empty && (PySem.W.hasDictIn K (He.ga K "PathPattern") && (PySem.W.plainOver K (He.ga K "PathPattern"))))))))))
def ex4 (K : PySem.W.Frag) : Bool := decide (PySem.W.findIn K (.ref (He.ga K "PathPattern")) "__setattr__" = some (some (.builtin "object.__setattr__"))) && (decide (PySem.W.findIn K (.ref (He.ga K "PathPattern")) "__class__" = some (some (.builtin "object.__class__"))) && (decide (PySem.W.specialIn K (.builtin "object.__class__") "__get__" = some (some (.builtin "getset_descriptor.__get__"))) && (decide (PySem.W.takesIn K (.builtin "object.__class__") = some true) && (decide (PySem.W.mroIn K (He.ga K "PathPattern") (.type "object") = some true) && (decide (PySem.W.findIn K (.ref (He.ga K "PathPattern")) "text" = some none) && (decide (PySem.W.findIn K (.ref (He.ga K "PathPattern")) "level" = some none) && (decide (PySem.W.findIn K (.ref (He.ga K "PathPattern")) "head" = some none) && (decide (PySem.W.findIn K (.ref (He.ga K "PathPattern")) "tail" = some none) && (decide (PySem.W.findIn K (.ref (He.ga K "PathPattern")) "gap" = some none))))))))))
def ex5 (K : PySem.W.Frag) : Bool := PySem.W.makesIn K (He.ga K "PathPattern") && (PySem.W.keepIn K (.ref (He.ga K "PathPattern")) && (decide (PySem.W.findIn K (.ref (He.ga K "PathPattern")) "__init__" = some (some (.ref (He.ma K (He.ga K "PathPattern") "__init__")))) && (PySem.W.isFn K (.ref (He.ma K (He.ga K "PathPattern") "__init__")) && (decide (PySem.W.nsIn K mainGlobals "Pattern" = some (some (.ref (He.ga K "Pattern")))) && (decide (PySem.W.findIn K (.ref (He.ga K "Pattern")) "__init__" = some (some (.ref (He.ma K (He.ga K "Pattern") "__init__")))) && (decide (PySem.W.nsIn K mainGlobals "super" = some none) && (decide (PySem.W.nsIn K cStatics "thirdparty.any" = some none) && (decide (PySem.W.nsIn K mainGlobals "label_shape" = some (some (.ref (He.ga K "label_shape")))) && (PySem.W.keepIn K (.ref (He.ga K "label_shape")))))))))))
def ex6 (K : PySem.W.Frag) : Bool := decide (PySem.W.nsIn K mainGlobals "is_label_text" = some (some (.ref (He.ga K "is_label_text")))) && (PySem.W.keepIn K (.ref (He.ga K "is_label_text")) && (decide (PySem.W.nsIn K mainGlobals "_law_bag" = some (some (.ref (He.ga K "_law_bag")))) && (PySem.W.keepIn K (.ref (He.ga K "_law_bag")) && (decide (PySem.W.nsIn K mainGlobals "_law_take" = some (some (.ref (He.ga K "_law_take")))) && (PySem.W.keepIn K (.ref (He.ga K "_law_take")) && (decide (PySem.W.nsIn K mainGlobals "_law_is_glob" = some (some (.ref (He.ga K "_law_is_glob")))) && (PySem.W.keepIn K (.ref (He.ga K "_law_is_glob")) && (PySem.W.keepIn K (.ref (He.ma K (He.ga K "Pattern") "__init__")) && (decide (PySem.W.nsIn K mainGlobals "shape_of_items" = some (some (.ref (He.ga K "shape_of_items")))))))))))))
def ex7 (K : PySem.W.Frag) : Bool := PySem.W.keepIn K (.ref (He.ga K "shape_of_items")) && (decide (PySem.W.nsIn K mainGlobals "_law_of" = some (some (.ref (He.ga K "_law_of")))) && (PySem.W.keepIn K (.ref (He.ga K "_law_of")) && (decide (PySem.W.nsIn K mainGlobals "_law_signs" = some (some (.ref (He.ga K "_law_signs")))) && (PySem.W.keepIn K (.ref (He.ga K "_law_signs")) && (decide (PySem.W.nsIn K mainGlobals "_law_are_items" = some (some (.ref (He.ga K "_law_are_items")))) && (PySem.W.keepIn K (.ref (He.ga K "_law_are_items")) && (PySem.W.keepIn K (.ref (He.ma K (He.ga K "LabelPattern") "__init__")) && (PySem.W.isClsIn K (He.ga K "LabelPattern") && (decide (PySem.W.mroIn K (He.ga K "LabelPattern") (.ref (He.ga K "LabelPattern")) = some true))))))))))
def ex8 (K : PySem.W.Frag) : Bool := decide (PySem.W.typeIn K (.ref (He.ma K (He.ga K "Pattern") "__init__")) = some (.type "function")) && (decide (PySem.W.ks_superIn K (He.ga K "LabelPattern") (He.ga K "LabelPattern") "__init__" = some (some (.ref (He.ma K (He.ga K "Pattern") "__init__")))) && (decide (PySem.W.nsIn K mainGlobals "host_shape" = some (some (.ref (He.ga K "host_shape")))) && (PySem.W.keepIn K (.ref (He.ga K "host_shape")) && (decide (PySem.W.nsIn K mainGlobals "path_shape" = some (some (.ref (He.ga K "path_shape")))) && (PySem.W.keepIn K (.ref (He.ga K "path_shape")) && (decide (PySem.W.nsIn K mainGlobals "_law_label" = some (some (.ref (He.ga K "_law_label")))) && (PySem.W.keepIn K (.ref (He.ga K "_law_label")) && (decide (PySem.W.nsIn K mainGlobals "_law_glob" = some (some (.ref (He.ga K "_law_glob")))) && (PySem.W.keepIn K (.ref (He.ga K "_law_glob")))))))))))
def ex9 (K : PySem.W.Frag) : Bool := decide (PySem.W.nsIn K mainGlobals "_law_due" = some (some (.ref (He.ga K "_law_due")))) && (PySem.W.keepIn K (.ref (He.ga K "_law_due")) && (decide (PySem.W.nsIn K mainGlobals "_law_text" = some (some (.ref (He.ga K "_law_text")))) && (PySem.W.keepIn K (.ref (He.ga K "_law_text")) && (PySem.W.keepIn K (.ref (He.ma K (He.ga K "HostPattern") "__init__")) && (PySem.W.isClsIn K (He.ga K "HostPattern") && (decide (PySem.W.mroIn K (He.ga K "HostPattern") (.ref (He.ga K "HostPattern")) = some true) && (decide (PySem.W.typeIn K (.ref (He.ma K (He.ga K "Pattern") "__init__")) = some (.type "function")) && (decide (PySem.W.ks_superIn K (He.ga K "HostPattern") (He.ga K "HostPattern") "__init__" = some (some (.ref (He.ma K (He.ga K "Pattern") "__init__")))) && (PySem.W.keepIn K (.ref (He.ma K (He.ga K "PathPattern") "__init__")))))))))))
def ex10 (K : PySem.W.Frag) : Bool := PySem.W.isClsIn K (He.ga K "PathPattern") && (decide (PySem.W.mroIn K (He.ga K "PathPattern") (.ref (He.ga K "PathPattern")) = some true) && (decide (PySem.W.typeIn K (.ref (He.ma K (He.ga K "Pattern") "__init__")) = some (.type "function")) && (decide (PySem.W.ks_superIn K (He.ga K "PathPattern") (He.ga K "PathPattern") "__init__" = some (some (.ref (He.ma K (He.ga K "Pattern") "__init__")))) && (decide (PySem.W.nsIn K mainGlobals "_law_asked" = some (some (.ref (He.ga K "_law_asked")))) && (PySem.W.keepIn K (.ref (He.ga K "_law_asked")) && (decide (PySem.W.nsIn K mainGlobals "law" = some (some (.ref (He.ga K "law")))) && (PySem.W.keepIn K (.ref (He.ga K "law")) && (decide (PySem.W.nsIn K mainGlobals "BadItem" = some (some (.ref (He.ga K "BadItem")))) && (xcB K (He.ga K "BadItem") .ve)))))))))
def ex11 (K : PySem.W.Frag) : Bool := decide (PySem.W.findIn K (.ref (He.ga K "BadItem")) "__setattr__" = some (some (.builtin "object.__setattr__"))) && (decide (PySem.W.findIn K (.ref (He.ga K "BadItem")) "__getattribute__" = some (some (.builtin "BaseException.__getattribute__"))) && (decide (PySem.W.findIn K (.ref (He.ga K "BadItem")) "__getattr__" = some none) && (decide (PySem.W.findIn K (.ref (He.ga K "BadItem")) "item" = some none) && (decide (PySem.W.findIn K (.ref (He.ga K "BadItem")) "__init__" = some (some (.ref (He.ma K (He.ga K "BadItem") "__init__")))) && (decide (PySem.W.typeIn K (.ref (He.ma K (He.ga K "BadItem") "__init__")) = some (.type "function")) && (codB K (He.ma K (He.ga K "BadItem") "__init__") "BadItem.__init__" && (kwN K (He.ma K (He.ga K "BadItem") "__init__") && (PySem.W.keepIn K (.ref (He.ga K "BadItem")) && (decide (PySem.W.subIn K (.ref (He.ga K "BadItem")) (.type "BaseException") = some true))))))))))
def ex12 (K : PySem.W.Frag) : Bool := decide (PySem.W.typeIn K (.ref (He.ga K "BadItem")) = some (.type "type")) && (PySem.W.hasDictIn K (He.ga K "BadItem") && (PySem.W.isClsIn K (He.ga K "BadItem") && (decide (PySem.W.subIn K (.ref (He.ga K "BadItem")) (.ref (He.ga K "BadItem")) = some true) && (decide (PySem.W.nsIn K mainGlobals "BadPattern" = some (some (.ref (He.ga K "BadPattern")))) && (xcB K (He.ga K "BadPattern") .ve && (decide (PySem.W.findIn K (.ref (He.ga K "BadPattern")) "__setattr__" = some (some (.builtin "object.__setattr__"))) && (decide (PySem.W.findIn K (.ref (He.ga K "BadPattern")) "__getattribute__" = some (some (.builtin "BaseException.__getattribute__"))) && (decide (PySem.W.findIn K (.ref (He.ga K "BadPattern")) "__getattr__" = some none) && (decide (PySem.W.findIn K (.ref (He.ga K "BadPattern")) "pattern" = some none))))))))))
def ex13 (K : PySem.W.Frag) : Bool := decide (PySem.W.findIn K (.ref (He.ga K "BadPattern")) "__init__" = some (some (.ref (He.ma K (He.ga K "BadPattern") "__init__")))) && (decide (PySem.W.typeIn K (.ref (He.ma K (He.ga K "BadPattern") "__init__")) = some (.type "function")) && (codB K (He.ma K (He.ga K "BadPattern") "__init__") "BadPattern.__init__" && (kwN K (He.ma K (He.ga K "BadPattern") "__init__") && (PySem.W.keepIn K (.ref (He.ga K "BadPattern")) && (decide (PySem.W.subIn K (.ref (He.ga K "BadPattern")) (.type "BaseException") = some true) && (decide (PySem.W.typeIn K (.ref (He.ga K "BadPattern")) = some (.type "type")) && (PySem.W.hasDictIn K (He.ga K "BadPattern") && (PySem.W.isClsIn K (He.ga K "BadPattern") && (decide (PySem.W.subIn K (.ref (He.ga K "BadPattern")) (.ref (He.ga K "BadPattern")) = some true))))))))))
def ex14 (K : PySem.W.Frag) : Bool := decide (PySem.W.findIn K (.ref (He.ga K "BadPattern")) "__class__" = some (some (.builtin "object.__class__"))) && (decide (PySem.W.specialIn K (.builtin "object.__class__") "__get__" = some (some (.builtin "getset_descriptor.__get__"))) && (decide (PySem.W.takesIn K (.builtin "object.__class__") = some true) && (decide (PySem.W.mroIn K (He.ga K "BadPattern") (.type "object") = some true) && (decide (PySem.W.subIn K (.ref (He.ga K "BadPattern")) (.type "ValueError") = some true) && (decide (PySem.W.subIn K (.ref (He.ga K "BadItem")) (.ref (He.ga K "BadItem")) = some true) && (decide (PySem.W.subIn K (.ref (He.ga K "BadPattern")) (.ref (He.ga K "BadItem")) = some false) && (decide (PySem.W.subIn K (.ref (He.ga K "BadItem")) (.ref (He.ga K "BadPattern")) = some false) && (decide (PySem.W.subIn K (.ref (He.ga K "BadPattern")) (.ref (He.ga K "BadPattern")) = some true) && (decide (PySem.W.nsIn K mainGlobals "ValueError" = some none))))))))))
def ex15 (K : PySem.W.Frag) : Bool := decide (PySem.W.nsIn K mainGlobals "abs" = some none) && (decide (PySem.W.nsIn K mainGlobals "all" = some none) && (decide (PySem.W.nsIn K mainGlobals "enumerate" = some none) && (decide (PySem.W.nsIn K mainGlobals "int" = some none) && (decide (PySem.W.nsIn K mainGlobals "isinstance" = some none) && (decide (PySem.W.nsIn K mainGlobals "len" = some none) && (decide (PySem.W.nsIn K mainGlobals "list" = some none) && (decide (PySem.W.nsIn K mainGlobals "max" = some none) && (decide (PySem.W.nsIn K mainGlobals "min" = some none) && (decide (PySem.W.nsIn K mainGlobals "range" = some none))))))))))
def ex16 (K : PySem.W.Frag) : Bool := decide (PySem.W.nsIn K mainGlobals "repr" = some none) && (decide (PySem.W.nsIn K mainGlobals "str" = some none) && (decide (PySem.W.nsIn K mainGlobals "tuple" = some none) && (strB (PySem.W.nsIn K mainGlobals "CHARACTERS") "0123456789abcdefghijklmnopqrstuvwxyz" && (strB (PySem.W.nsIn K mainGlobals "GAP") "**" && (strB (PySem.W.nsIn K mainGlobals "HOST") "host" && (decide (PySem.W.nsIn K mainGlobals "HOST_LIMITS" = some (some (.ref (He.ga K "HOST_LIMITS")))) && (tupVB K (He.ga K "HOST_LIMITS") [.int 1, .int 4, .int 3, .int 2] && (strB (PySem.W.nsIn K mainGlobals "LABEL") "label" && (intB (PySem.W.nsIn K mainGlobals "LONGEST_TEXT") (8))))))))))
def ex17 (K : PySem.W.Frag) : Bool := strB (PySem.W.nsIn K mainGlobals "PATH") "path" && (decide (PySem.W.nsIn K mainGlobals "PATH_LIMITS" = some (some (.ref (He.ga K "PATH_LIMITS")))) && (tupVB K (He.ga K "PATH_LIMITS") [.int 0, .int 3, .int 2, .int 2] && (codB K (He.ga K "label_shape") "label_shape" && (codB K (He.ga K "is_label_text") "is_label_text" && (codB K (He.ga K "_law_bag") "_law_bag" && (codB K (He.ga K "_law_take") "_law_take" && (codB K (He.ga K "_law_is_glob") "_law_is_glob" && (codB K (He.ma K (He.ga K "Pattern") "__init__") "Pattern.__init__" && (codB K (He.ga K "shape_of_items") "shape_of_items")))))))))
def ex18 (K : PySem.W.Frag) : Bool := codB K (He.ga K "_law_of") "_law_of" && (codB K (He.ga K "_law_signs") "_law_signs" && (codB K (He.ga K "_law_are_items") "_law_are_items" && (codB K (He.ma K (He.ga K "LabelPattern") "__init__") "LabelPattern.__init__" && (supB K (He.ma K (He.ga K "LabelPattern") "__init__") (He.ga K "LabelPattern") PySem.Challenge.pw_offeredentry_k09_texts_of_patterns_refus.main.file && (codB K (He.ga K "host_shape") "host_shape" && (codB K (He.ga K "path_shape") "path_shape" && (codB K (He.ga K "_law_label") "_law_label" && (codB K (He.ga K "_law_glob") "_law_glob" && (codB K (He.ga K "_law_due") "_law_due")))))))))
def ex19 (K : PySem.W.Frag) : Bool := codB K (He.ga K "_law_text") "_law_text" && (codB K (He.ma K (He.ga K "HostPattern") "__init__") "HostPattern.__init__" && (supB K (He.ma K (He.ga K "HostPattern") "__init__") (He.ga K "HostPattern") PySem.Challenge.pw_offeredentry_k09_texts_of_patterns_refus.main.file && (codB K (He.ma K (He.ga K "PathPattern") "__init__") "PathPattern.__init__" && (supB K (He.ma K (He.ga K "PathPattern") "__init__") (He.ga K "PathPattern") PySem.Challenge.pw_offeredentry_k09_texts_of_patterns_refus.main.file && (codB K (He.ga K "_law_asked") "_law_asked" && (codB K (He.ga K "law") "law"))))))
def exs (K : PySem.W.Frag) : Bool := ex0 K && (ex1 K && (ex2 K && (ex3 K && (ex4 K && (ex5 K && (ex6 K && (ex7 K && (ex8 K && (ex9 K && (ex10 K && (ex11 K && (ex12 K && (ex13 K && (ex14 K && (ex15 K && (ex16 K && (ex17 K && (ex18 K && (ex19 K)))))))))))))))))))
def fs0 (K : PySem.W.Frag) : List FnV := [fnV K (He.ma K (He.ga K "BadItem") "__init__"), fnV K (He.ma K (He.ga K "BadPattern") "__init__"), fnV K (He.ga K "label_shape"), fnV K (He.ga K "is_label_text"), fnV K (He.ga K "_law_bag"), fnV K (He.ga K "_law_take"), fnV K (He.ga K "_law_is_glob"), fnV K (He.ma K (He.ga K "Pattern") "__init__"), fnV K (He.ga K "shape_of_items"), fnV K (He.ga K "_law_of")]
def fv0 : List FnV := [some ("__init__", "BadItem.__init__", PySem.OwnX.iA "item" ⟨11, 17, 11, 21⟩ ⟨11, 23, 11, 27⟩, .stmts (PySem.OwnX.iB "item" ⟨12, 8, 12, 12⟩ ⟨12, 8, 12, 17⟩ ⟨12, 20, 12, 24⟩ ⟨12, 8, 12, 24⟩), PySem.OwnX.iS "item", mainGlobals, [], builtinsNs), some ("__init__", "BadPattern.__init__", PySem.OwnX.iA "pattern" ⟨7, 17, 7, 21⟩ ⟨7, 23, 7, 30⟩, .stmts (PySem.OwnX.iB "pattern" ⟨8, 8, 8, 12⟩ ⟨8, 8, 8, 20⟩ ⟨8, 23, 8, 30⟩ ⟨8, 8, 8, 30⟩), PySem.OwnX.iS "pattern", mainGlobals, [], builtinsNs), fnT "label_shape" "label_shape" s_label_shape [], fnT "is_label_text" "is_label_text" s_is_label_text [], fnT "_law_bag" "_law_bag" s__law_bag [], fnT "_law_take" "_law_take" s__law_take [], fnT "_law_is_glob" "_law_is_glob" s__law_is_glob [], fnT "__init__" "Pattern.__init__" s_Pattern_init [], fnT "shape_of_items" "shape_of_items" s_shape_of_items [], fnT "_law_of" "_law_of" s__law_of []]
def fs1 (K : PySem.W.Frag) : List FnV := [fnV K (He.ga K "_law_signs"), fnV K (He.ga K "_law_are_items"), fnV K (He.ma K (He.ga K "LabelPattern") "__init__"), fnV K (He.ga K "host_shape"), fnV K (He.ga K "path_shape"), fnV K (He.ga K "_law_label"), fnV K (He.ga K "_law_glob"), fnV K (He.ga K "_law_due"), fnV K (He.ga K "_law_text"), fnV K (He.ma K (He.ga K "HostPattern") "__init__")]
def fv1 : List FnV := [fnT "_law_signs" "_law_signs" s__law_signs [], fnT "_law_are_items" "_law_are_items" s__law_are_items [], fnT "__init__" "LabelPattern.__init__" s_LabelPattern_init ["__class__"], fnT "host_shape" "host_shape" s_host_shape [], fnT "path_shape" "path_shape" s_path_shape [], fnT "_law_label" "_law_label" s__law_label [], fnT "_law_glob" "_law_glob" s__law_glob [], fnT "_law_due" "_law_due" s__law_due [], fnT "_law_text" "_law_text" s__law_text [], fnT "__init__" "HostPattern.__init__" s_HostPattern_init ["__class__"]]
def fs2 (K : PySem.W.Frag) : List FnV := [fnV K (He.ma K (He.ga K "PathPattern") "__init__"), fnV K (He.ga K "_law_asked"), fnV K (He.ga K "law")]
def fv2 : List FnV := [fnT "__init__" "PathPattern.__init__" s_PathPattern_init ["__class__"], fnT "_law_asked" "_law_asked" s__law_asked [], fnT "law" "law" s_law []]
def fss (K : PySem.W.Frag) : List FnV := fs0 K ++ (fs1 K ++ (fs2 K))
def fvs : List FnV := fv0 ++ (fv1 ++ (fv2))
theorem facts {w : World} {K : PySem.W.Frag} {h : Heap} {mg : Str → Option Value} {fa : Addr} (X : K.In h) (G : h.Ns mainGlobals mg) (hfa : mg "law" = some (.ref fa)) (ce : exs K = true) (cf : fss K = fvs) (topsup : (PySem.Challenge.pw_offeredentry_k09_texts_of_patterns_refus.main.scope.names.lookup ("super" : Str)).isSome = false)
    : ∃ fd : FuncData, (∀ (s : Shared) (v : Value), BindsTo s fd ⟨[v], []⟩ [("_law_script", v)]) ∧ ∀ base : Heap, K.In base → base.Ns mainGlobals mg → FnG PySem.Challenge.rw_offeredentry_k09_texts_of_patterns_refus.prog w K mg base 7 fa fd ["_law_script"] (spR K mg false 1 FN.m_law_8576) := by
  obtain ⟨ce0, ce⟩ := He.ba ce
  obtain ⟨ce1, ce⟩ := He.ba ce
  obtain ⟨ce2, ce⟩ := He.ba ce
  obtain ⟨ce3, ce⟩ := He.ba ce
  obtain ⟨ce4, ce⟩ := He.ba ce
  obtain ⟨ce5, ce⟩ := He.ba ce
  obtain ⟨ce6, ce⟩ := He.ba ce
  obtain ⟨ce7, ce⟩ := He.ba ce
  obtain ⟨ce8, ce⟩ := He.ba ce
  obtain ⟨ce9, ce⟩ := He.ba ce
  obtain ⟨ce10, ce⟩ := He.ba ce
  obtain ⟨ce11, ce⟩ := He.ba ce
  obtain ⟨ce12, ce⟩ := He.ba ce
  obtain ⟨ce13, ce⟩ := He.ba ce
  obtain ⟨ce14, ce⟩ := He.ba ce
  obtain ⟨ce15, ce⟩ := He.ba ce
  obtain ⟨ce16, ce⟩ := He.ba ce
  obtain ⟨ce17, ce⟩ := He.ba ce
  obtain ⟨ce18, ce⟩ := He.ba ce
  have ce19 := ce
  obtain ⟨b_aC_HostPattern, ce0⟩ := He.ba ce0
  obtain ⟨b_pg_HostPattern, ce0⟩ := He.ba ce0
  obtain ⟨b_hd_HostPattern, ce0⟩ := He.ba ce0
  obtain ⟨b_po_HostPattern, ce0⟩ := He.ba ce0
  obtain ⟨b_sa_HostPattern, ce0⟩ := He.ba ce0
  obtain ⟨b_ca_HostPattern, ce0⟩ := He.ba ce0
  obtain ⟨b_cn_HostPattern, ce0⟩ := He.ba ce0
  obtain ⟨b_ct_HostPattern, ce0⟩ := He.ba ce0
  obtain ⟨b_cm_HostPattern, ce0⟩ := He.ba ce0
  have b_nf_HostPattern_text := ce0
  obtain ⟨b_nf_HostPattern_level, ce1⟩ := He.ba ce1
  obtain ⟨b_nf_HostPattern_head, ce1⟩ := He.ba ce1
  obtain ⟨b_nf_HostPattern_tail, ce1⟩ := He.ba ce1
  obtain ⟨b_nf_HostPattern_gap, ce1⟩ := He.ba ce1
  obtain ⟨b_mk_HostPattern, ce1⟩ := He.ba ce1
  obtain ⟨b_kc_HostPattern, ce1⟩ := He.ba ce1
  obtain ⟨b_ai_HostPattern, ce1⟩ := He.ba ce1
  obtain ⟨b_fi_HostPattern, ce1⟩ := He.ba ce1
  obtain ⟨b_aC_LabelPattern, ce1⟩ := He.ba ce1
  have b_pg_LabelPattern := ce1
  obtain ⟨b_hd_LabelPattern, ce2⟩ := He.ba ce2
  obtain ⟨b_po_LabelPattern, ce2⟩ := He.ba ce2
  obtain ⟨b_sa_LabelPattern, ce2⟩ := He.ba ce2
  obtain ⟨b_ca_LabelPattern, ce2⟩ := He.ba ce2
  obtain ⟨b_cn_LabelPattern, ce2⟩ := He.ba ce2
  obtain ⟨b_ct_LabelPattern, ce2⟩ := He.ba ce2
  obtain ⟨b_cm_LabelPattern, ce2⟩ := He.ba ce2
  obtain ⟨b_nf_LabelPattern_text, ce2⟩ := He.ba ce2
  obtain ⟨b_nf_LabelPattern_level, ce2⟩ := He.ba ce2
  have b_nf_LabelPattern_head := ce2
  obtain ⟨b_nf_LabelPattern_tail, ce3⟩ := He.ba ce3
  obtain ⟨b_nf_LabelPattern_gap, ce3⟩ := He.ba ce3
  obtain ⟨b_mk_LabelPattern, ce3⟩ := He.ba ce3
  obtain ⟨b_kc_LabelPattern, ce3⟩ := He.ba ce3
  obtain ⟨b_ai_LabelPattern, ce3⟩ := He.ba ce3
  obtain ⟨b_fi_LabelPattern, ce3⟩ := He.ba ce3
  obtain ⟨b_aC_PathPattern, ce3⟩ := He.ba ce3
  obtain ⟨b_pg_PathPattern, ce3⟩ := He.ba ce3
  obtain ⟨b_hd_PathPattern, ce3⟩ := He.ba ce3
  have b_po_PathPattern := ce3
  obtain ⟨b_sa_PathPattern, ce4⟩ := He.ba ce4
  obtain ⟨b_ca_PathPattern, ce4⟩ := He.ba ce4
  obtain ⟨b_cn_PathPattern, ce4⟩ := He.ba ce4
  obtain ⟨b_ct_PathPattern, ce4⟩ := He.ba ce4
  obtain ⟨b_cm_PathPattern, ce4⟩ := He.ba ce4
  obtain ⟨b_nf_PathPattern_text, ce4⟩ := He.ba ce4
  obtain ⟨b_nf_PathPattern_level, ce4⟩ := He.ba ce4
  obtain ⟨b_nf_PathPattern_head, ce4⟩ := He.ba ce4
  obtain ⟨b_nf_PathPattern_tail, ce4⟩ := He.ba ce4
  have b_nf_PathPattern_gap := ce4
  obtain ⟨b_mk_PathPattern, ce5⟩ := He.ba ce5
  obtain ⟨b_kc_PathPattern, ce5⟩ := He.ba ce5
  obtain ⟨b_ai_PathPattern, ce5⟩ := He.ba ce5
  obtain ⟨b_fi_PathPattern, ce5⟩ := He.ba ce5
  obtain ⟨b_aC_Pattern, ce5⟩ := He.ba ce5
  obtain ⟨b_ai_Pattern, ce5⟩ := He.ba ce5
  obtain ⟨b_zsuper, ce5⟩ := He.ba ce5
  obtain ⟨b_tpany, ce5⟩ := He.ba ce5
  obtain ⟨b_a0, ce5⟩ := He.ba ce5
  have b_k0 := ce5
  obtain ⟨b_a1, ce6⟩ := He.ba ce6
  obtain ⟨b_k1, ce6⟩ := He.ba ce6
  obtain ⟨b_a2, ce6⟩ := He.ba ce6
  obtain ⟨b_k2, ce6⟩ := He.ba ce6
  obtain ⟨b_a3, ce6⟩ := He.ba ce6
  obtain ⟨b_k3, ce6⟩ := He.ba ce6
  obtain ⟨b_a4, ce6⟩ := He.ba ce6
  obtain ⟨b_k4, ce6⟩ := He.ba ce6
  obtain ⟨b_k5, ce6⟩ := He.ba ce6
  have b_a6 := ce6
  obtain ⟨b_k6, ce7⟩ := He.ba ce7
  obtain ⟨b_a7, ce7⟩ := He.ba ce7
  obtain ⟨b_k7, ce7⟩ := He.ba ce7
  obtain ⟨b_a8, ce7⟩ := He.ba ce7
  obtain ⟨b_k8, ce7⟩ := He.ba ce7
  obtain ⟨b_a9, ce7⟩ := He.ba ce7
  obtain ⟨b_k9, ce7⟩ := He.ba ce7
  obtain ⟨b_k10, ce7⟩ := He.ba ce7
  obtain ⟨b_hcl10, ce7⟩ := He.ba ce7
  have b_hm10 := ce7
  obtain ⟨b_tb10, ce8⟩ := He.ba ce8
  obtain ⟨b_is10, ce8⟩ := He.ba ce8
  obtain ⟨b_a11, ce8⟩ := He.ba ce8
  obtain ⟨b_k11, ce8⟩ := He.ba ce8
  obtain ⟨b_a12, ce8⟩ := He.ba ce8
  obtain ⟨b_k12, ce8⟩ := He.ba ce8
  obtain ⟨b_a13, ce8⟩ := He.ba ce8
  obtain ⟨b_k13, ce8⟩ := He.ba ce8
  obtain ⟨b_a14, ce8⟩ := He.ba ce8
  have b_k14 := ce8
  obtain ⟨b_a15, ce9⟩ := He.ba ce9
  obtain ⟨b_k15, ce9⟩ := He.ba ce9
  obtain ⟨b_a16, ce9⟩ := He.ba ce9
  obtain ⟨b_k16, ce9⟩ := He.ba ce9
  obtain ⟨b_k17, ce9⟩ := He.ba ce9
  obtain ⟨b_hcl17, ce9⟩ := He.ba ce9
  obtain ⟨b_hm17, ce9⟩ := He.ba ce9
  obtain ⟨b_tb17, ce9⟩ := He.ba ce9
  obtain ⟨b_is17, ce9⟩ := He.ba ce9
  have b_k18 := ce9
  obtain ⟨b_hcl18, ce10⟩ := He.ba ce10
  obtain ⟨b_hm18, ce10⟩ := He.ba ce10
  obtain ⟨b_tb18, ce10⟩ := He.ba ce10
  obtain ⟨b_is18, ce10⟩ := He.ba ce10
  obtain ⟨b_a19, ce10⟩ := He.ba ce10
  obtain ⟨b_k19, ce10⟩ := He.ba ce10
  obtain ⟨b_a20, ce10⟩ := He.ba ce10
  obtain ⟨b_k20, ce10⟩ := He.ba ce10
  obtain ⟨b_aC_BadItem, ce10⟩ := He.ba ce10
  have b_xL_BadItem := ce10
  obtain ⟨b_sa_BadItem, ce11⟩ := He.ba ce11
  obtain ⟨b_ga_BadItem, ce11⟩ := He.ba ce11
  obtain ⟨b_gg_BadItem, ce11⟩ := He.ba ce11
  obtain ⟨b_nb_BadItem, ce11⟩ := He.ba ce11
  obtain ⟨b_ai_BadItem, ce11⟩ := He.ba ce11
  obtain ⟨b_ti_BadItem, ce11⟩ := He.ba ce11
  obtain ⟨b_cb_BadItem, ce11⟩ := He.ba ce11
  obtain ⟨b_cn_BadItem, ce11⟩ := He.ba ce11
  obtain ⟨b_kC_BadItem, ce11⟩ := He.ba ce11
  have b_eC_BadItem := ce11
  obtain ⟨b_tC_BadItem, ce12⟩ := He.ba ce12
  obtain ⟨b_hC_BadItem, ce12⟩ := He.ba ce12
  obtain ⟨b_iC_BadItem, ce12⟩ := He.ba ce12
  obtain ⟨b_sC_BadItem, ce12⟩ := He.ba ce12
  obtain ⟨b_aC_BadPattern, ce12⟩ := He.ba ce12
  obtain ⟨b_xL_BadPattern, ce12⟩ := He.ba ce12
  obtain ⟨b_sa_BadPattern, ce12⟩ := He.ba ce12
  obtain ⟨b_ga_BadPattern, ce12⟩ := He.ba ce12
  obtain ⟨b_gg_BadPattern, ce12⟩ := He.ba ce12
  have b_nb_BadPattern := ce12
  obtain ⟨b_ai_BadPattern, ce13⟩ := He.ba ce13
  obtain ⟨b_ti_BadPattern, ce13⟩ := He.ba ce13
  obtain ⟨b_cb_BadPattern, ce13⟩ := He.ba ce13
  obtain ⟨b_cn_BadPattern, ce13⟩ := He.ba ce13
  obtain ⟨b_kC_BadPattern, ce13⟩ := He.ba ce13
  obtain ⟨b_eC_BadPattern, ce13⟩ := He.ba ce13
  obtain ⟨b_tC_BadPattern, ce13⟩ := He.ba ce13
  obtain ⟨b_hC_BadPattern, ce13⟩ := He.ba ce13
  obtain ⟨b_iC_BadPattern, ce13⟩ := He.ba ce13
  have b_sC_BadPattern := ce13
  obtain ⟨b_ea_BadPattern, ce14⟩ := He.ba ce14
  obtain ⟨b_en_BadPattern, ce14⟩ := He.ba ce14
  obtain ⟨b_et_BadPattern, ce14⟩ := He.ba ce14
  obtain ⟨b_em_BadPattern, ce14⟩ := He.ba ce14
  obtain ⟨b_ki_BadPattern_ValueError, ce14⟩ := He.ba ce14
  obtain ⟨b_kn_BadItem_BadItem, ce14⟩ := He.ba ce14
  obtain ⟨b_kn_BadPattern_BadItem, ce14⟩ := He.ba ce14
  obtain ⟨b_kn_BadItem_BadPattern, ce14⟩ := He.ba ce14
  obtain ⟨b_kn_BadPattern_BadPattern, ce14⟩ := He.ba ce14
  have b_z_ValueError := ce14
  obtain ⟨b_z_abs, ce15⟩ := He.ba ce15
  obtain ⟨b_z_all, ce15⟩ := He.ba ce15
  obtain ⟨b_z_enumerate, ce15⟩ := He.ba ce15
  obtain ⟨b_z_int, ce15⟩ := He.ba ce15
  obtain ⟨b_z_isinstance, ce15⟩ := He.ba ce15
  obtain ⟨b_z_len, ce15⟩ := He.ba ce15
  obtain ⟨b_z_list, ce15⟩ := He.ba ce15
  obtain ⟨b_z_max, ce15⟩ := He.ba ce15
  obtain ⟨b_z_min, ce15⟩ := He.ba ce15
  have b_z_range := ce15
  obtain ⟨b_z_repr, ce16⟩ := He.ba ce16
  obtain ⟨b_z_str, ce16⟩ := He.ba ce16
  obtain ⟨b_z_tuple, ce16⟩ := He.ba ce16
  obtain ⟨b_g_CHARACTERS, ce16⟩ := He.ba ce16
  obtain ⟨b_g_GAP, ce16⟩ := He.ba ce16
  obtain ⟨b_g_HOST, ce16⟩ := He.ba ce16
  obtain ⟨b_g_HOST_LIMITS, ce16⟩ := He.ba ce16
  obtain ⟨b_gl_HOST_LIMITS, ce16⟩ := He.ba ce16
  obtain ⟨b_g_LABEL, ce16⟩ := He.ba ce16
  have b_g_LONGEST_TEXT := ce16
  obtain ⟨b_g_PATH, ce17⟩ := He.ba ce17
  obtain ⟨b_g_PATH_LIMITS, ce17⟩ := He.ba ce17
  obtain ⟨b_gl_PATH_LIMITS, ce17⟩ := He.ba ce17
  obtain ⟨b_cb0, ce17⟩ := He.ba ce17
  obtain ⟨b_cb1, ce17⟩ := He.ba ce17
  obtain ⟨b_cb2, ce17⟩ := He.ba ce17
  obtain ⟨b_cb3, ce17⟩ := He.ba ce17
  obtain ⟨b_cb4, ce17⟩ := He.ba ce17
  obtain ⟨b_cb5, ce17⟩ := He.ba ce17
  have b_cb6 := ce17
  obtain ⟨b_cb7, ce18⟩ := He.ba ce18
  obtain ⟨b_cb8, ce18⟩ := He.ba ce18
  obtain ⟨b_cb9, ce18⟩ := He.ba ce18
  obtain ⟨b_cb10, ce18⟩ := He.ba ce18
  obtain ⟨b_sb10, ce18⟩ := He.ba ce18
  obtain ⟨b_cb11, ce18⟩ := He.ba ce18
  obtain ⟨b_cb12, ce18⟩ := He.ba ce18
  obtain ⟨b_cb13, ce18⟩ := He.ba ce18
  obtain ⟨b_cb14, ce18⟩ := He.ba ce18
  have b_cb15 := ce18
  obtain ⟨b_cb16, ce19⟩ := He.ba ce19
  obtain ⟨b_cb17, ce19⟩ := He.ba ce19
  obtain ⟨b_sb17, ce19⟩ := He.ba ce19
  obtain ⟨b_cb18, ce19⟩ := He.ba ce19
  obtain ⟨b_sb18, ce19⟩ := He.ba ce19
  obtain ⟨b_cb19, ce19⟩ := He.ba ce19
  have b_cb20 := ce19
  obtain ⟨cf0, cf⟩ := List.append_inj (show fs0 K ++ _ = fv0 ++ _ from cf) rfl
  obtain ⟨cf1, cf⟩ := List.append_inj (show fs1 K ++ _ = fv1 ++ _ from cf) rfl
  have cf2 := cf
  obtain ⟨d0, cf0⟩ := List.cons.inj cf0
  obtain ⟨d1, cf0⟩ := List.cons.inj cf0
  obtain ⟨d2, cf0⟩ := List.cons.inj cf0
  obtain ⟨d3, cf0⟩ := List.cons.inj cf0
  obtain ⟨d4, cf0⟩ := List.cons.inj cf0
  obtain ⟨d5, cf0⟩ := List.cons.inj cf0
  obtain ⟨d6, cf0⟩ := List.cons.inj cf0
  obtain ⟨d7, cf0⟩ := List.cons.inj cf0
  obtain ⟨d8, cf0⟩ := List.cons.inj cf0
  obtain ⟨d9, cf0⟩ := List.cons.inj cf0
  obtain ⟨d10, cf1⟩ := List.cons.inj cf1
  obtain ⟨d11, cf1⟩ := List.cons.inj cf1
  obtain ⟨d12, cf1⟩ := List.cons.inj cf1
  obtain ⟨d13, cf1⟩ := List.cons.inj cf1
  obtain ⟨d14, cf1⟩ := List.cons.inj cf1
  obtain ⟨d15, cf1⟩ := List.cons.inj cf1
  obtain ⟨d16, cf1⟩ := List.cons.inj cf1
  obtain ⟨d17, cf1⟩ := List.cons.inj cf1
  obtain ⟨d18, cf1⟩ := List.cons.inj cf1
  obtain ⟨d19, cf1⟩ := List.cons.inj cf1
  obtain ⟨d20, cf2⟩ := List.cons.inj cf2
  obtain ⟨d21, cf2⟩ := List.cons.inj cf2
  obtain ⟨d22, cf2⟩ := List.cons.inj cf2
  obtain ⟨ocx_BadItem, odx_BadItem, dcx_BadItem, pmx_BadItem, anx_BadItem, cdx_BadItem, ctx_BadItem, slx_BadItem, li_BadItem, ci_BadItem⟩ := funN_of d0 b_cb_BadItem b_cn_BadItem
  obtain ⟨ocx_BadPattern, odx_BadPattern, dcx_BadPattern, pmx_BadPattern, anx_BadPattern, cdx_BadPattern, ctx_BadPattern, slx_BadPattern, li_BadPattern, ci_BadPattern⟩ := funN_of d1 b_cb_BadPattern b_cn_BadPattern
  obtain ⟨t_CHARACTERS, h_g_CHARACTERS⟩ := strB_ok b_g_CHARACTERS
  obtain ⟨t_GAP, h_g_GAP⟩ := strB_ok b_g_GAP
  obtain ⟨t_HOST, h_g_HOST⟩ := strB_ok b_g_HOST
  obtain ⟨t_LABEL, h_g_LABEL⟩ := strB_ok b_g_LABEL
  obtain ⟨t_LONGEST_TEXT, h_g_LONGEST_TEXT⟩ := intB_ok b_g_LONGEST_TEXT
  obtain ⟨t_PATH, h_g_PATH⟩ := strB_ok b_g_PATH
  obtain ⟨oc0, od0, kV0, dc0, pm0, an0, cd0, ct0, sl0, l0, c0⟩ := fun_of (pa := defArgs s_label_shape) (bo := defBody s_label_shape) (sc := defScope s_label_shape) d2 b_cb0
  obtain ⟨oc1, od1, kV1, dc1, pm1, an1, cd1, ct1, sl1, l1, c1⟩ := fun_of (pa := defArgs s_is_label_text) (bo := defBody s_is_label_text) (sc := defScope s_is_label_text) d3 b_cb1
  obtain ⟨oc2, od2, kV2, dc2, pm2, an2, cd2, ct2, sl2, l2, c2⟩ := fun_of (pa := defArgs s__law_bag) (bo := defBody s__law_bag) (sc := defScope s__law_bag) d4 b_cb2
  obtain ⟨oc3, od3, kV3, dc3, pm3, an3, cd3, ct3, sl3, l3, c3⟩ := fun_of (pa := defArgs s__law_take) (bo := defBody s__law_take) (sc := defScope s__law_take) d5 b_cb3
  obtain ⟨oc4, od4, kV4, dc4, pm4, an4, cd4, ct4, sl4, l4, c4⟩ := fun_of (pa := defArgs s__law_is_glob) (bo := defBody s__law_is_glob) (sc := defScope s__law_is_glob) d6 b_cb4
  obtain ⟨oc5, od5, kV5, dc5, pm5, an5, cd5, ct5, sl5, l5, c5⟩ := fun_of (pa := defArgs s_Pattern_init) (bo := defBody s_Pattern_init) (sc := defScope s_Pattern_init) d7 b_cb5
  obtain ⟨oc6, od6, kV6, dc6, pm6, an6, cd6, ct6, sl6, l6, c6⟩ := fun_of (pa := defArgs s_shape_of_items) (bo := defBody s_shape_of_items) (sc := defScope s_shape_of_items) d8 b_cb6
  obtain ⟨oc7, od7, kV7, dc7, pm7, an7, cd7, ct7, sl7, l7, c7⟩ := fun_of (pa := defArgs s__law_of) (bo := defBody s__law_of) (sc := defScope s__law_of) d9 b_cb7
  obtain ⟨oc8, od8, kV8, dc8, pm8, an8, cd8, ct8, sl8, l8, c8⟩ := fun_of (pa := defArgs s__law_signs) (bo := defBody s__law_signs) (sc := defScope s__law_signs) d10 b_cb8
  obtain ⟨oc9, od9, kV9, dc9, pm9, an9, cd9, ct9, sl9, l9, c9⟩ := fun_of (pa := defArgs s__law_are_items) (bo := defBody s__law_are_items) (sc := defScope s__law_are_items) d11 b_cb9
  obtain ⟨oc10, od10, kV10, dc10, pm10, an10, cda10, ct10, sl10, cc10, ccl10, cdd10, vs10, ccs10, file10, tf10, cl10, cld10, csl10, l10, c10, lc10, hv10, hf10, hcc10⟩ := funX_of (st := s_LabelPattern_init) d12 b_cb10 b_sb10
  obtain ⟨oc11, od11, kV11, dc11, pm11, an11, cd11, ct11, sl11, l11, c11⟩ := fun_of (pa := defArgs s_host_shape) (bo := defBody s_host_shape) (sc := defScope s_host_shape) d13 b_cb11
  obtain ⟨oc12, od12, kV12, dc12, pm12, an12, cd12, ct12, sl12, l12, c12⟩ := fun_of (pa := defArgs s_path_shape) (bo := defBody s_path_shape) (sc := defScope s_path_shape) d14 b_cb12
  obtain ⟨oc13, od13, kV13, dc13, pm13, an13, cd13, ct13, sl13, l13, c13⟩ := fun_of (pa := defArgs s__law_label) (bo := defBody s__law_label) (sc := defScope s__law_label) d15 b_cb13
  obtain ⟨oc14, od14, kV14, dc14, pm14, an14, cd14, ct14, sl14, l14, c14⟩ := fun_of (pa := defArgs s__law_glob) (bo := defBody s__law_glob) (sc := defScope s__law_glob) d16 b_cb14
  obtain ⟨oc15, od15, kV15, dc15, pm15, an15, cd15, ct15, sl15, l15, c15⟩ := fun_of (pa := defArgs s__law_due) (bo := defBody s__law_due) (sc := defScope s__law_due) d17 b_cb15
  obtain ⟨oc16, od16, kV16, dc16, pm16, an16, cd16, ct16, sl16, l16, c16⟩ := fun_of (pa := defArgs s__law_text) (bo := defBody s__law_text) (sc := defScope s__law_text) d18 b_cb16
  obtain ⟨oc17, od17, kV17, dc17, pm17, an17, cda17, ct17, sl17, cc17, ccl17, cdd17, vs17, ccs17, file17, tf17, cl17, cld17, csl17, l17, c17, lc17, hv17, hf17, hcc17⟩ := funX_of (st := s_HostPattern_init) d19 b_cb17 b_sb17
  obtain ⟨oc18, od18, kV18, dc18, pm18, an18, cda18, ct18, sl18, cc18, ccl18, cdd18, vs18, ccs18, file18, tf18, cl18, cld18, csl18, l18, c18, lc18, hv18, hf18, hcc18⟩ := funX_of (st := s_PathPattern_init) d20 b_cb18 b_sb18
  obtain ⟨oc19, od19, kV19, dc19, pm19, an19, cd19, ct19, sl19, l19, c19⟩ := fun_of (pa := defArgs s__law_asked) (bo := defBody s__law_asked) (sc := defScope s__law_asked) d21 b_cb19
  obtain ⟨oc20, od20, kV20, dc20, pm20, an20, cd20, ct20, sl20, l20, c20⟩ := fun_of (pa := defArgs s_law) (bo := defBody s_law) (sc := defScope s_law) d22 b_cb20
  exact all_mk (l := PySem.Challenge.rw_offeredentry_k09_texts_of_patterns_refus) X G hfa (of_decide_eq_true b_aC_HostPattern) b_pg_HostPattern b_hd_HostPattern b_po_HostPattern (of_decide_eq_true b_sa_HostPattern) (of_decide_eq_true b_ca_HostPattern) (of_decide_eq_true b_cn_HostPattern) (of_decide_eq_true b_ct_HostPattern) (of_decide_eq_true b_cm_HostPattern) (of_decide_eq_true b_nf_HostPattern_text) (of_decide_eq_true b_nf_HostPattern_level) (of_decide_eq_true b_nf_HostPattern_head) (of_decide_eq_true b_nf_HostPattern_tail) (of_decide_eq_true b_nf_HostPattern_gap) b_mk_HostPattern b_kc_HostPattern (of_decide_eq_true b_ai_HostPattern) b_fi_HostPattern (of_decide_eq_true b_aC_LabelPattern) b_pg_LabelPattern b_hd_LabelPattern b_po_LabelPattern (of_decide_eq_true b_sa_LabelPattern) (of_decide_eq_true b_ca_LabelPattern) (of_decide_eq_true b_cn_LabelPattern) (of_decide_eq_true b_ct_LabelPattern) (of_decide_eq_true b_cm_LabelPattern) (of_decide_eq_true b_nf_LabelPattern_text) (of_decide_eq_true b_nf_LabelPattern_level) (of_decide_eq_true b_nf_LabelPattern_head) (of_decide_eq_true b_nf_LabelPattern_tail) (of_decide_eq_true b_nf_LabelPattern_gap) b_mk_LabelPattern b_kc_LabelPattern (of_decide_eq_true b_ai_LabelPattern) b_fi_LabelPattern (of_decide_eq_true b_aC_PathPattern) b_pg_PathPattern b_hd_PathPattern b_po_PathPattern (of_decide_eq_true b_sa_PathPattern) (of_decide_eq_true b_ca_PathPattern) (of_decide_eq_true b_cn_PathPattern) (of_decide_eq_true b_ct_PathPattern) (of_decide_eq_true b_cm_PathPattern) (of_decide_eq_true b_nf_PathPattern_text) (of_decide_eq_true b_nf_PathPattern_level) (of_decide_eq_true b_nf_PathPattern_head) (of_decide_eq_true b_nf_PathPattern_tail) (of_decide_eq_true b_nf_PathPattern_gap) b_mk_PathPattern b_kc_PathPattern (of_decide_eq_true b_ai_PathPattern) b_fi_PathPattern (of_decide_eq_true b_aC_Pattern) (of_decide_eq_true b_ai_Pattern) (of_decide_eq_true b_zsuper) (of_decide_eq_true b_tpany) topsup (of_decide_eq_true b_a0) l0 c0 b_k0 (of_decide_eq_true b_a1) l1 c1 b_k1 (of_decide_eq_true b_a2) l2 c2 b_k2 (of_decide_eq_true b_a3) l3 c3 b_k3 (of_decide_eq_true b_a4) l4 c4 b_k4 l5 c5 b_k5 (of_decide_eq_true b_a6) l6 c6 b_k6 (of_decide_eq_true b_a7) l7 c7 b_k7 (of_decide_eq_true b_a8) l8 c8 b_k8 (of_decide_eq_true b_a9) l9 c9 b_k9 l10 c10 b_k10 lc10 hv10 hf10 hcc10 b_hcl10 (of_decide_eq_true b_hm10) (of_decide_eq_true b_tb10) (of_decide_eq_true b_is10) (of_decide_eq_true b_a11) l11 c11 b_k11 (of_decide_eq_true b_a12) l12 c12 b_k12 (of_decide_eq_true b_a13) l13 c13 b_k13 (of_decide_eq_true b_a14) l14 c14 b_k14 (of_decide_eq_true b_a15) l15 c15 b_k15 (of_decide_eq_true b_a16) l16 c16 b_k16 l17 c17 b_k17 lc17 hv17 hf17 hcc17 b_hcl17 (of_decide_eq_true b_hm17) (of_decide_eq_true b_tb17) (of_decide_eq_true b_is17) l18 c18 b_k18 lc18 hv18 hf18 hcc18 b_hcl18 (of_decide_eq_true b_hm18) (of_decide_eq_true b_tb18) (of_decide_eq_true b_is18) (of_decide_eq_true b_a19) l19 c19 b_k19 (of_decide_eq_true b_a20) l20 c20 b_k20 (of_decide_eq_true b_aC_BadItem) (xc_of b_xL_BadItem) (of_decide_eq_true b_sa_BadItem) (of_decide_eq_true b_ga_BadItem) (of_decide_eq_true b_gg_BadItem) (of_decide_eq_true b_nb_BadItem) (of_decide_eq_true b_ai_BadItem) (of_decide_eq_true b_ti_BadItem) li_BadItem ci_BadItem b_kC_BadItem (of_decide_eq_true b_eC_BadItem) (of_decide_eq_true b_tC_BadItem) b_hC_BadItem b_iC_BadItem (of_decide_eq_true b_sC_BadItem) (of_decide_eq_true b_aC_BadPattern) (xc_of b_xL_BadPattern) (of_decide_eq_true b_sa_BadPattern) (of_decide_eq_true b_ga_BadPattern) (of_decide_eq_true b_gg_BadPattern) (of_decide_eq_true b_nb_BadPattern) (of_decide_eq_true b_ai_BadPattern) (of_decide_eq_true b_ti_BadPattern) li_BadPattern ci_BadPattern b_kC_BadPattern (of_decide_eq_true b_eC_BadPattern) (of_decide_eq_true b_tC_BadPattern) b_hC_BadPattern b_iC_BadPattern (of_decide_eq_true b_sC_BadPattern) (of_decide_eq_true b_ea_BadPattern) (of_decide_eq_true b_en_BadPattern) (of_decide_eq_true b_et_BadPattern) (of_decide_eq_true b_em_BadPattern) (of_decide_eq_true b_ki_BadPattern_ValueError) (of_decide_eq_true b_kn_BadItem_BadItem) (of_decide_eq_true b_kn_BadPattern_BadItem) (of_decide_eq_true b_kn_BadItem_BadPattern) (of_decide_eq_true b_kn_BadPattern_BadPattern) (of_decide_eq_true b_z_ValueError) (of_decide_eq_true b_z_abs) (of_decide_eq_true b_z_all) (of_decide_eq_true b_z_enumerate) (of_decide_eq_true b_z_int) (of_decide_eq_true b_z_isinstance) (of_decide_eq_true b_z_len) (of_decide_eq_true b_z_list) (of_decide_eq_true b_z_max) (of_decide_eq_true b_z_min) (of_decide_eq_true b_z_range) (of_decide_eq_true b_z_repr) (of_decide_eq_true b_z_str) (of_decide_eq_true b_z_tuple) h_g_CHARACTERS h_g_GAP h_g_HOST (of_decide_eq_true b_g_HOST_LIMITS) (tupVB_is (vs := [.int 1, .int 4, .int 3, .int 2]) b_gl_HOST_LIMITS (.cons (is_int _) (.cons (is_int _) (.cons (is_int _) (.cons (is_int _) .nil)))) (by decide)) h_g_LABEL h_g_LONGEST_TEXT h_g_PATH (of_decide_eq_true b_g_PATH_LIMITS) (tupVB_is (vs := [.int 0, .int 3, .int 2, .int 2]) b_gl_PATH_LIMITS (.cons (is_int _) (.cons (is_int _) (.cons (is_int _) (.cons (is_int _) .nil)))) (by decide))
end K09
namespace K09
open PySem PySem.W PySem.Calls PyProof.Rows
def names0 : List PySem.Str := ["_wall", "__name__", "BadPattern", "BadItem", "CHARACTERS", "LONGEST_LABEL", "MOST_LABELS", "is_label", "is_path", "is_host", "LABEL", "HOST", "PATH", "label_shape", "label_fits", "row_fits", "LONGEST_TEXT", "GAP", "HOST_LIMITS", "PATH_LIMITS", "is_label_text", "shape_of_items", "host_shape", "path_shape", "Pattern", "LabelPattern", "HostPattern", "PathPattern", "_law_bag", "_law_take"]
def names1 : List PySem.Str := ["_law_of", "_law_signs", "_law_label", "_law_glob", "_law_fits", "_law_grown", "_law_is_glob", "_law_are_items", "_law_due", "_law_asked", "_law_text"]
def names : List PySem.Str := names0 ++ (names1)
abbrev RR : OpenRow := OpenLaw.row PySem.Challenge.rw_offeredentry_k09_texts_of_patterns_refus
set_option maxHeartbeats 0 in
theorem run0 (w : World) : DL.PartEq RR 40000 w (fun s => (HandSHeadRun.looksF RR.prog (boot_heap w.params) s.abs, HandSHeadRun.seenQ (view RR.prog [45]) names (importedModules RR.prog.main.body) (fun s => xlAt (view RR.prog [45]) [] s && recOk RR.toRowW.records s) s.abs)) (true, openGood (view RR.prog [45]) names) := by
  intro os
  kernel_rfl
set_option maxHeartbeats 0 in
theorem runF (w : World) : DL.PartEq RR 40000 w (fun s => DL.obF fss (HandSHeadRun.getT s)) fvs := by
  intro os
  kernel_rfl
def gx0 (K : PySem.W.Frag) : Bool := ex0 K && (ex1 K && (ex2 K && (ex3 K && (ex4 K && (ex5 K && (ex6 K && (ex7 K && (ex8 K && (ex9 K && (ex10 K && (ex11 K && (ex12 K && (ex13 K && (ex14 K && (ex15 K && (ex16 K && (ex17 K && (ex18 K && (ex19 K)))))))))))))))))))
set_option maxHeartbeats 0 in
theorem runG0 (w : World) : DL.PartEq RR 40000 w (fun s => DL.obF gx0 (HandSHeadRun.getT s)) true := by
  intro os
  kernel_rfl
def gxs (K : PySem.W.Frag) : Bool := gx0 K
theorem run (w : World) : HandSHeadRun.RunEq RR (view RR.prog [45]) (DL.hookH gxs fss fvs) (DL.obH gxs fss) 40000 names w := DL.PartEq.run (run0 w) (runG0 w) (runF w)
theorem gxs_all {K : PySem.W.Frag} (c : gxs K = true) : exs K = true := by
  unfold gxs gx0 at c
  simp only [Bool.and_eq_true] at c
  unfold exs
  simp only [Bool.and_eq_true, c, and_self]
end K09
open PySem PySem.W PyProof.Rows in
set_option maxRecDepth 100000 in
set_option maxHeartbeats 0 in
theorem PySem.Challenge.cw_offeredentry_k09_texts_of_patterns_refus_holds : PySem.Challenge.rw_offeredentry_k09_texts_of_patterns_refus.Holds := by
  w_on; o_law
  refine HandSHeadRun.head_any (r := OpenLaw.row PySem.Challenge.rw_offeredentry_k09_texts_of_patterns_refus) (q := view (OpenLaw.row PySem.Challenge.rw_offeredentry_k09_texts_of_patterns_refus).prog [45]) (H := DL.hookH K09.gxs K09.fss K09.fvs) (ob := DL.obH K09.gxs K09.fss) (M := 40000) (loose := K09.names) (d := HandSHeadRun.topDef (OpenLaw.row PySem.Challenge.rw_offeredentry_k09_texts_of_patterns_refus).prog 45) (kwd := []) DL.obH_eq
    (by kernel_rfl) (fun s => by kernel_rfl) K09.run (by kernel_rfl) (by kernel_rfl) (by kernel_rfl) (by rfl) (by first | assumption | decide +kernel) (by decide +kernel) ⟨rfl, rfl, rfl, rfl, rfl, by decide +kernel⟩ ?hw ?hc
  case hw => w_witness2
  case hc =>
    refine DL.walk_gE (l := PySem.Challenge.rw_offeredentry_k09_texts_of_patterns_refus) (n := 63) (k := 7) (x := "_law_script") (g := FN.m_law_8576) rfl (by decide) (by kernel_rfl) ⟨rfl, by decide, by decide⟩ ?F FN.law_8576_true
    intro w mg fa h Y G hmg0
    obtain ⟨K, KX, ce, cf⟩ := Y
    have hmg : mg ("law" : PySem.Str) = some (.ref fa) := by
      have e : (HandSHeadRun.topDef (OpenLaw.row PySem.Challenge.rw_offeredentry_k09_texts_of_patterns_refus).prog 45).name = ("law" : PySem.Str) := by kernel_rfl
      rw [← e]
      exact hmg0
    obtain ⟨fd, hb, hF⟩ := K09.facts (w := w) KX G hmg (K09.gxs_all ce) cf (by first | rfl | decide +kernel | kernel_rfl)
    exact ⟨K, fd, KX, hb, hF⟩
