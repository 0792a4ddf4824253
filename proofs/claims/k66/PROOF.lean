import PyProof.Rows.All
import Wide.All
import OpenK.AllK
import Wide.FinOn
import HandS.ForMost
import HandS.ForExc
import HandS.Flow
import HandS.Wide
import HandS.TupAny
import HandS.Deep
import HandS.Style
import HandS.IsInst
import KE.DataCmp
import HandS.Conv
import HandS.Ends
import HandS.TryOnly
import HandS.TryMany
import HandS.More
import HandS.Zip
import KE.KExcIs
import HandS.ExcIs
import HandS.Property
import HandS.MakeKwOnly
import HandS.Star
import HandS.SlotsOwn
import PyProof.InstEq
import HandS.RaiseMore
import HandS.FStr
import HandS.Codes
import HandS.ClsMeth
import HandS.Replace
import PyProof.AssignAttr
import PyProof.ReprLen
import HandS.Text
import HandS.ReplaceLit
import HandS.ReplaceDef
import HandS.ReplaceList
import HandS.Nested
import KE.KSuper
import KE.KDictZip
import KE.KDictItemsList
import HandS.Zip0
import HandS.ListItems
import HandS.StrMore
import KE.GoesEnum
import HandS.Iter
import PyProof.ListNew
import PySem.Challenge.RW_offeredentry_k66_whole_sites
set_option Elab.async false
set_option linter.all false
set_option maxRecDepth 100000
set_option maxHeartbeats 4000000
namespace DL
open PySem L2
/-! ### data -/
inductive D where
  | non
  | bl (b : Bool)
  | int (i : Int)
  | str (s : List Nat)
  | tup (ds : List D)
  | lst (ds : List D)
  | dic (ks vs : List D)
  | ins (c : Str) (ns : List Str) (ds : List D)
  | scr (is : List Int)
  /-- a caught error: its object, its dict, its field -/
  | xc (a dd : Addr) (f : Str) (d : D)
instance : Inhabited D := ⟨.non⟩
structure Exn where
  c : Str
  f : Str
  d : D
/-! ### two monads -/
inductive R (α : Type) where
  | ok (a : α)
  | ex (e : Exn)
  | stuck
@[simp] def R.bd {α β : Type} : R α → (α → R β) → R β
  | .ok a, f => f a
  | .ex e, _ => .ex e
  | .stuck, _ => .stuck
instance : Monad R where
  pure := .ok
  bind := R.bd
@[simp] theorem R.pure_eq {α : Type} (a : α) : (pure a : R α) = .ok a := rfl
@[simp] theorem R.bind_eq {α β : Type} (x : R α) (f : α → R β) : (x >>= f) = x.bd f := rfl
/-- the bag's content -/
structure S where
  x : Int
  y : Int
  z : Int
  l : List Int
  w : Bool
inductive MO (α : Type) where
  | ok (a : α) (s : S)
  | ex (e : Exn) (s : S)
  | stuck
def M (α : Type) : Type := S → MO α
@[simp] def MO.bd {α β : Type} : MO α → (α → M β) → MO β
  | .ok a s, f => f a s
  | .ex e s, _ => .ex e s
  | .stuck, _ => .stuck
instance : Monad M where
  pure := fun a s => .ok a s
  bind := fun x f s => (x s).bd f
theorem M.bind_ap {α β : Type} (x : M α) (f : α → M β) (s : S) : (x >>= f) s = (x s).bd f := rfl
class Mo (m : Type → Type) extends Monad m where
  lift : {α : Type} → R α → m α
  wp : {α : Type} → m α → S → (α → S → Prop) → (Exn → S → Prop) → Prop
  wp_mono : ∀ {α : Type} {x : m α} {s : S} {Q Q' : α → S → Prop} {E E' : Exn → S → Prop}, wp x s Q E → (∀ a s, Q a s → Q' a s) → (∀ e s, E e s → E' e s) → wp x s Q' E'
  wp_pure : ∀ {α : Type} {a : α} {s : S} {Q : α → S → Prop} {E : Exn → S → Prop}, wp (pure a) s Q E → Q a s
  wp_bind : ∀ {α β : Type} {x : m α} {f : α → m β} {s : S} {Q : β → S → Prop} {E : Exn → S → Prop}, wp (x >>= f) s Q E → wp x s (fun a s' => wp (f a) s' Q E) E
  tryC : {α : Type} → m α → (Exn → m α) → m α
  wp_try : ∀ {α : Type} {x : m α} {h : Exn → m α} {s : S} {Q : α → S → Prop} {E : Exn → S → Prop}, wp (tryC x h) s Q E → wp x s Q (fun e s' => wp (h e) s' Q E)
  noex : {α : Type} → m α → m α
  wp_noex : ∀ {α : Type} {x : m α} {s : S} {Q : α → S → Prop} {E : Exn → S → Prop}, wp (noex x) s Q E → wp x s Q (fun _ _ => False)
  wp_lift : ∀ {α : Type} {r : R α} {s : S} {Q : α → S → Prop} {E : Exn → S → Prop}, wp (lift r) s Q E → (match r with | .ok a => Q a s | .ex e => E e s | .stuck => False)
def R.wp {α : Type} (x : R α) (s : S) (Q : α → S → Prop) (E : Exn → S → Prop) : Prop := match x with
  | .ok a => Q a s
  | .ex e => E e s
  | .stuck => False
def MO.wp {α : Type} (x : MO α) (Q : α → S → Prop) (E : Exn → S → Prop) : Prop := match x with
  | .ok a s => Q a s
  | .ex e s => E e s
  | .stuck => False
/-- an exception is none here -/
@[simp] def R.nx {α : Type} : R α → R α
  | .ok a => .ok a
  | .ex _ => .stuck
  | .stuck => .stuck
@[simp] def MO.nx {α : Type} : MO α → MO α
  | .ok a s => .ok a s
  | .ex _ _ => .stuck
  | .stuck => .stuck
def M.nx {α : Type} (x : M α) : M α := fun s => (x s).nx
@[simp] def R.tr {α : Type} : R α → (Exn → R α) → R α
  | .ok a, _ => .ok a
  | .ex e, h => h e
  | .stuck, _ => .stuck
@[simp] def MO.tr {α : Type} : MO α → (Exn → M α) → MO α
  | .ok a s, _ => .ok a s
  | .ex e s, h => h e s
  | .stuck, _ => .stuck
def M.tr {α : Type} (x : M α) (h : Exn → M α) : M α := fun s => (x s).tr h
instance : Mo R where
  tryC := R.tr
  wp_try := fun {α x h s Q E} w => by
    cases x with
    | ok a => exact w
    | ex e => exact w
    | stuck => exact w
  noex := R.nx
  wp_noex := fun {α x s Q E} h => by
    cases x with
    | ok a => exact h
    | ex e => exact h
    | stuck => exact h
  lift := fun x => x
  wp := R.wp
  wp_mono := fun {α x s Q Q' E E'} h hq he => by
    cases x with
    | ok a => exact hq _ _ h
    | ex e => exact he _ _ h
    | stuck => exact h
  wp_pure := fun h => h
  wp_bind := fun {α β x f s Q E} h => by
    cases x with
    | ok a => exact h
    | ex e => exact h
    | stuck => exact h
  wp_lift := fun {α r s Q E} h => by cases r <;> exact h
def liftM' {α : Type} (r : R α) : M α := fun s => match r with
  | .ok a => .ok a s
  | .ex e => .ex e s
  | .stuck => .stuck
instance : Mo M where
  tryC := M.tr
  wp_try := fun {α x h s Q E} w => by
    have w' : ((x s).tr h).wp Q E := w
    show (x s).wp _ _
    cases e : x s with
    | ok a s' => rw [e] at w'; exact w'
    | ex ee s' => rw [e] at w'; exact w'
    | stuck => rw [e] at w'; exact w'
  noex := M.nx
  wp_noex := fun {α x s Q E} h => by
    have h' : ((x s).nx).wp Q E := h
    show (x s).wp _ _
    cases e : x s with
    | ok a s' => rw [e] at h'; exact h'
    | ex ee s' => rw [e] at h'; exact h'
    | stuck => rw [e] at h'; exact h'
  lift := liftM'
  wp := fun x s Q E => (x s).wp Q E
  wp_mono := fun {α x s Q Q' E E'} h hq he => by
    show (x s).wp Q' E'
    have h' : (x s).wp Q E := h
    cases e : x s with
    | ok a s' => rw [e] at h'; exact hq _ _ h'
    | ex ee s' => rw [e] at h'; exact he _ _ h'
    | stuck => rw [e] at h'; exact h'
  wp_pure := fun h => h
  wp_bind := fun {α β x f s Q E} h => by
    have h' : ((x s).bd f).wp Q E := h
    show (x s).wp _ _
    cases e : x s with
    | ok a s' => rw [e] at h'; exact h'
    | ex ee s' => rw [e] at h'; exact h'
    | stuck => rw [e] at h'; exact h'
  wp_lift := fun {α r s Q E} h => by cases r <;> exact h
end DL
namespace DL
open PySem L2
/-! ### a datum stands at a value -/
def Sub (H H' : Hp) : Prop := ∀ a o, H a = some o → H' a = some o
theorem Sub.refl (H : Hp) : Sub H H := fun _ _ h => h
theorem Sub.trans {H H1 H2 : Hp} (a : Sub H H1) (b : Sub H1 H2) : Sub H H2 := fun x o h => b x o (a x o h)
theorem Sub.rd {H H' : Hp} {a : Addr} {u : HO} (e : Sub H H') (h : Rd H a u) : Rd H' a u := by
  rcases h with h | ⟨o, h⟩
  · exact .inl (e a _ h)
  · exact .inr ⟨o, e a _ h⟩
theorem Sub.sql {K : PySem.W.Frag} {H H' : Hp} {a : Addr} {xs : List V} (e : Sub H H') (h : SqL K H a xs) : SqL K H' a xs := by
  rcases h with h | h
  · exact .inl (e.rd h)
  · exact .inr h
theorem Sub.sqt {K : PySem.W.Frag} {H H' : Hp} {a : Addr} {xs : List V} (e : Sub H H') (h : SqT K H a xs) : SqT K H' a xs := by
  rcases h with h | h
  · exact .inl (e.rd h)
  · exact .inr h
/-- the script's list: frozen, or of the module (no list that a def has made) -/
def ScL (K : PySem.W.Frag) (H : Hp) (a : Addr) (xs : List V) : Prop := (∃ o, H a = some (.frz o (.lst xs))) ∨ ∃ (o : Obj) (its : Array Value) (n : Nat), K.lookup a = some o ∧ o.cls = .type "list" ∧ o.dict = none ∧ o.data = .seq its n ∧ its.size ≤ sizeLine ∧ Vals xs its.toList
theorem ScL.sq {K : PySem.W.Frag} {H : Hp} {a : Addr} {xs : List V} : ScL K H a xs → SqL K H a xs
  | .inl h => .inl (.inr h)
  | .inr h => .inr h
theorem Sub.scl {K : PySem.W.Frag} {H H' : Hp} {a : Addr} {xs : List V} (e : Sub H H') : ScL K H a xs → ScL K H' a xs
  | .inl ⟨o, h⟩ => .inl ⟨o, e _ _ h⟩
  | .inr h => .inr h
section
variable (K : PySem.W.Frag) (mg : Str → Option Value)
mutual
def Is (H : Hp) : D → V → Prop
  | .non, v => v = .non
  | .bl b, v => v = .bl b
  | .int i, v => v = .int i
  | .str s, v => v = .str ⟨s.toArray⟩ ∧ s.length ≤ sizeLine
  | .tup ds, v => ds.length ≤ sizeLine ∧ ∃ a vs, v = .ref a ∧ SqT K H a vs ∧ IsL H ds vs
  | .lst ds, v => ds.length ≤ sizeLine ∧ ∃ a vs, v = .ref a ∧ H a = some (.lst vs) ∧ IsL H ds vs
  | .dic ks ds, v => ∃ a kvs, v = .ref a ∧ Rd H a (.dK kvs) ∧ IsL H ks (kvs.map fun p => kV p.1) ∧ IsL H ds (kvs.map fun p => p.2)
  | .ins c ns ds, v => ∃ a C dx vs, v = .ref a ∧ mg c = some (.ref C) ∧ H a = some (.ins C dx (ns.zip vs)) ∧ ns.length = vs.length ∧ IsL H ds vs
  | .scr is, v => is.length ≤ sizeLine ∧ ∃ a, v = .ref a ∧ ScL K H a (is.map V.int)
  | .xc a dd f d, v => v = .ref a ∧ ∃ u, H dd = some (.xd [(f, u)]) ∧ Is H d u
def IsL (H : Hp) : List D → List V → Prop
  | [], vs => vs = []
  | d :: ds, vs => ∃ v r, vs = v :: r ∧ Is H d v ∧ IsL H ds r
end
end
section
variable {K : PySem.W.Frag} {mg : Str → Option Value}
mutual
theorem Is.mono {H H' : Hp} (s : Sub H H') : ∀ {d : D} {v : V}, Is K mg H d v → Is K mg H' d v
  | .non, _, h => h
  | .bl _, _, h => h
  | .int _, _, h => h
  | .str _, _, h => h
  | .tup ds, _, h => by
    obtain ⟨z, a, vs, e, t, l⟩ := h
    exact ⟨z, a, vs, e, s.sqt t, IsL.mono s l⟩
  | .lst ds, _, h => by
    obtain ⟨z, a, vs, e, t, l⟩ := h
    exact ⟨z, a, vs, e, s _ _ t, IsL.mono s l⟩
  | .dic ks ds, _, h => by
    obtain ⟨a, kvs, e, t, l, l'⟩ := h
    exact ⟨a, kvs, e, s.rd t, IsL.mono s l, IsL.mono s l'⟩
  | .ins c ns ds, _, h => by
    obtain ⟨a, C, dx, vs, e, m, t, n, l⟩ := h
    exact ⟨a, C, dx, vs, e, m, s _ _ t, n, IsL.mono s l⟩
  | .scr is, _, h => by
    obtain ⟨z, a, e, t⟩ := h
    exact ⟨z, a, e, s.scl t⟩
  | .xc a dd f d, _, h => by
    obtain ⟨e, u, q, i⟩ := h
    exact ⟨e, u, s _ _ q, Is.mono s i⟩
theorem IsL.mono {H H' : Hp} (s : Sub H H') : ∀ {ds : List D} {vs : List V}, IsL K mg H ds vs → IsL K mg H' ds vs
  | [], _, h => h
  | d :: ds, _, h => by
    obtain ⟨v, r, e, i, l⟩ := h
    exact ⟨v, r, e, Is.mono s i, IsL.mono s l⟩
end
theorem IsL.nil {H : Hp} : IsL K mg H [] [] := rfl
theorem IsL.cons {H : Hp} {d : D} {ds : List D} {v : V} {vs : List V} (h : Is K mg H d v) (l : IsL K mg H ds vs) : IsL K mg H (d :: ds) (v :: vs) := ⟨v, vs, rfl, h, l⟩
theorem IsL.len {H : Hp} : ∀ {ds : List D} {vs : List V}, IsL K mg H ds vs → ds.length = vs.length
  | [], _, h => by cases h; rfl
  | d :: ds, _, h => by
    obtain ⟨v, r, rfl, _, l⟩ := h
    simp [IsL.len l]
theorem IsL.app {H : Hp} : ∀ {ds es : List D} {vs ws : List V}, IsL K mg H ds vs → IsL K mg H es ws → IsL K mg H (ds ++ es) (vs ++ ws)
  | [], _, _, _, h, l => by cases h; exact l
  | d :: ds, _, _, _, h, l => by
    obtain ⟨v, r, rfl, i, t⟩ := h
    exact ⟨v, r ++ _, rfl, i, IsL.app t l⟩
theorem IsL.get {H : Hp} : ∀ {ds : List D} {vs : List V} {i : Nat} {d : D}, IsL K mg H ds vs → ds[i]? = some d → ∃ v, vs[i]? = some v ∧ Is K mg H d v
  | [], _, _, _, h, e => by simp at e
  | d :: ds, _, 0, _, h, e => by
    obtain ⟨v, r, rfl, i, t⟩ := h
    simp at e; subst e
    exact ⟨v, rfl, i⟩
  | d :: ds, _, i + 1, _, h, e => by
    obtain ⟨v, r, rfl, _, t⟩ := h
    simpa using IsL.get (i := i) t (by simpa using e)
theorem IsL.drop {H : Hp} : ∀ {ds : List D} {vs : List V} (n : Nat), IsL K mg H ds vs → IsL K mg H (ds.drop n) (vs.drop n)
  | _, _, 0, h => h
  | [], _, n + 1, h => by cases h; exact rfl
  | d :: ds, _, n + 1, h => by
    obtain ⟨v, r, rfl, _, t⟩ := h
    exact IsL.drop n t
theorem IsL.take {H : Hp} : ∀ {ds : List D} {vs : List V} (n : Nat), IsL K mg H ds vs → IsL K mg H (ds.take n) (vs.take n)
  | _, _, 0, h => rfl
  | [], _, n + 1, h => by cases h; exact rfl
  | d :: ds, _, n + 1, h => by
    obtain ⟨v, r, rfl, i, t⟩ := h
    exact ⟨v, _, rfl, i, IsL.take n t⟩
theorem IsL.set {H : Hp} {d' : D} {v' : V} (h' : Is K mg H d' v') : ∀ {ds : List D} {vs : List V} (n : Nat), IsL K mg H ds vs → IsL K mg H (ds.set n d') (vs.set n v')
  | [], _, _, h => by cases h; exact rfl
  | d :: ds, _, 0, h => by
    obtain ⟨v, r, rfl, _, t⟩ := h
    exact ⟨v', r, rfl, h', t⟩
  | d :: ds, _, n + 1, h => by
    obtain ⟨v, r, rfl, i, t⟩ := h
    exact ⟨v, _, rfl, i, IsL.set h' n t⟩
theorem IsL.reverse {H : Hp} : ∀ {ds : List D} {vs : List V}, IsL K mg H ds vs → IsL K mg H ds.reverse vs.reverse
  | [], _, h => by cases h; exact rfl
  | d :: ds, _, h => by
    obtain ⟨v, r, rfl, i, t⟩ := h
    rw [List.reverse_cons, List.reverse_cons]
    exact (IsL.reverse t).app (.cons i .nil)
end
/-! ### the state -/
/-- the bag's content stands -/
def BagAt (bag : List Addr) (H : Hp) (s : S) : Prop := match bag with
  | [] => True
  | [b] => s.w = false ∧ H b = some (.lst [.int s.x, .int s.y])
  | b :: c :: _ => s.w = true ∧ b ≠ c ∧ H b = some (.lst [.ref c, .int s.y, .int s.z]) ∧ H c = some (.lst (s.l.map V.int))
structure Ste (bag : List Addr) (Hf H Hf' H' : Hp) : Prop where
  sub : Sub Hf Hf'
  top : Sub Hf' H'
  keep : ∀ a o, H a = some o → a ∉ bag → H' a = some o
  dom : ∀ a, H a ≠ none → H' a ≠ none
  fresh : ∀ a o, Hf' a = some o → Hf a = some o ∨ H a = none
theorem Ste.refl {bag : List Addr} {Hf H : Hp} (h : Sub Hf H) : Ste bag Hf H Hf H := ⟨.refl _, h, fun _ _ e _ => e, fun _ e => e, fun _ _ e => .inl e⟩
theorem Ste.trans {bag : List Addr} {Hf H Hf1 H1 Hf2 H2 : Hp} (a : Ste bag Hf H Hf1 H1) (b : Ste bag Hf1 H1 Hf2 H2) : Ste bag Hf H Hf2 H2 :=
  ⟨a.sub.trans b.sub, b.top, fun x o e n => b.keep x o (a.keep x o e n) n, fun x e => b.dom x (a.dom x e), fun x o e => by
    rcases b.fresh x o e with h | h
    · exact a.fresh x o h
    · refine .inr ?_
      cases q : H x with
      | none => rfl
      | some u => exact absurd h (a.dom x (by rw [q]; simp))⟩
theorem Ste.wide {bag : List Addr} {Hf H Hf' H' : Hp} (a : Ste [] Hf H Hf' H') : Ste bag Hf H Hf' H' :=
  ⟨a.sub, a.top, fun x o e _ => a.keep x o e (by simp), a.dom, a.fresh⟩
theorem Ste.bag {bag : List Addr} {Hf H Hf' H' : Hp} {s : S} (a : Ste [] Hf H Hf' H') (h : BagAt bag H s) : BagAt bag H' s := by
  match bag, h with
  | [], _ => trivial
  | [b], ⟨hw, h⟩ => exact ⟨hw, a.keep _ _ h (by simp)⟩
  | b :: c :: _, ⟨hw, h0, h1, h2⟩ => exact ⟨hw, h0, a.keep _ _ h1 (by simp), a.keep _ _ h2 (by simp)⟩
/-- a new object, frozen at once -/
theorem Ste.new {bag : List Addr} {Hf H : Hp} {p : Addr} {o : HO} (h : Sub Hf H) (hp : H p = none) : Ste bag Hf H (upd Hf p o) (upd H p o) := by
  have hf : Hf p = none := by
    cases q : Hf p with
    | none => rfl
    | some u => rw [h _ _ q] at hp; cases hp
  refine ⟨fun a u e => ?_, fun a u e => ?_, fun a u e _ => ?_, fun a e => ?_, fun a u e => ?_⟩
  · rw [upd_ne (ne_of_none e hf)]; exact e
  · by_cases q : a = p
    · subst q; rw [upd_same] at e ⊢; exact e
    · rw [upd_ne q] at e ⊢; exact h _ _ e
  · rw [upd_ne (ne_of_none e hp)]; exact e
  · by_cases q : a = p
    · subst q; exact absurd hp e
    · rw [upd_ne q]; exact e
  · by_cases q : a = p
    · subst q; exact .inr hp
    · rw [upd_ne q] at e; exact .inl e
/-- a new object, not frozen -/
theorem Ste.new' {bag : List Addr} {Hf H : Hp} {p : Addr} {o : HO} (h : Sub Hf H) (hp : H p = none) : Ste bag Hf H Hf (upd H p o) := by
  refine ⟨.refl _, fun a u e => ?_, fun a u e _ => ?_, fun a e => ?_, fun a u e => .inl e⟩
  · have : H a = some u := h _ _ e
    rw [upd_ne (ne_of_none this hp)]; exact this
  · rw [upd_ne (ne_of_none e hp)]; exact e
  · by_cases q : a = p
    · subst q; exact absurd hp e
    · rw [upd_ne q]; exact e
theorem Sub.none {Hf H : Hp} (h : Sub Hf H) {p : Addr} (hp : H p = none) : Hf p = none := by
  cases q : Hf p with
  | none => rfl
  | some u => rw [h _ _ q] at hp; cases hp
/-- a slot: forgotten, a datum, a list of the frame's own, the bag -/
inductive Sl where
  | un
  | im (d : D)
  | ow (ds : List D)
  | bg
  /-- a dict of the frame's own -/
  | od (ks ds : List D)
  /-- the object that is being made -/
  | ob (ns : List Str) (ds : List D)
structure Fx where
  bag : List Addr
  H0 : Hp
  Hf0 : Hp
  W : WX
  /-- what stands of the slots where an exception leaves -/
  gx : Option (List Sl)
  /-- the def's answers are new lists -/
  nr : Bool
  /-- the object that is being made -/
  me : List Addr
  /-- its attributes' names -/
  nas : List Str
section
variable (K : PySem.W.Frag) (mg : Str → Option Value)
def SlOk (fx : Fx) (Hf H : Hp) (o : Option (Option V)) : Sl → Prop
  | .un => True
  | .im d => ∃ v, o = some (some v) ∧ Is K mg Hf d v
  | .ow ds => ∃ p vs, o = some (some (.ref p)) ∧ H p = some (.lst vs) ∧ Hf p = none ∧ fx.H0 p = none ∧ p ∉ fx.bag ∧ IsL K mg Hf ds vs ∧ ds.length ≤ sizeLine
  | .bg => ∃ b r, fx.bag = b :: r ∧ o = some (some (.ref b))
  | .od ks ds => ∃ p kvs, o = some (some (.ref p)) ∧ H p = some (.dK kvs) ∧ Hf p = none ∧ fx.H0 p = none ∧ p ∉ fx.bag ∧ IsL K mg Hf ks (kvs.map fun p => kV p.1) ∧ IsL K mg Hf ds (kvs.map fun p => p.2) ∧ ks.length ≤ sizeLine
  | .ob ns ds => ∃ p C dx vs, o = some (some (.ref p)) ∧ H p = some (.ins C dx (ns.zip vs)) ∧ Hf p = none ∧ (p ∈ fx.me ∧ ∃ f0, fx.H0 p = some (.ins C dx f0)) ∧ p ∉ fx.bag ∧ (Cls K C ∧ ∀ f ∈ fx.nas, NoAttr K C f) ∧ ns.length = vs.length ∧ IsL K mg Hf ds vs
/-- how a def's answer stands: a datum, or a new list of its own -/
def RtOk : Bool → Hp → Hp → Hp → D → V → Prop
  | false, _, Hf', _, d, v => Is K mg Hf' d v
  | true, H0, Hf', H', d, v => ∃ p vs ds, d = .lst ds ∧ v = .ref p ∧ H' p = some (.lst vs) ∧ Hf' p = none ∧ H0 p = none ∧ IsL K mg Hf' ds vs ∧ ds.length ≤ sizeLine
def isOw : Sl → Bool
  | .ow _ => true
  | .od _ _ => true
  | .ob _ _ => true
  | _ => false
structure StS (fx : Fx) (Hf H : Hp) (σ : L2.St) (G : List Sl) (s : S) : Prop where
  ste : Ste (fx.me ++ fx.bag) fx.Hf0 fx.H0 Hf H
  bag : BagAt fx.bag H s
  bagg : ∀ b ∈ fx.me ++ fx.bag, Hf b = none ∧ H b ≠ none ∧ (b ∈ fx.me → fx.H0 b ≠ none)
  len : σ.length = G.length
  sl : ∀ (i : Nat) (x : Sl), G[i]? = some x → SlOk K mg fx Hf H σ[i]? x
  dis : ∀ (i j : Nat) (x y : Sl) (p : Addr), i ≠ j → G[i]? = some x → G[j]? = some y → isOw x = true → isOw y = true → σ[i]? = some (some (.ref p)) → σ[j]? = some (some (.ref p)) → False
end
section
variable {K : PySem.W.Frag} {mg : Str → Option Value} {fx : Fx} {Hf H Hf' H' : Hp} {σ : L2.St} {G G' : List Sl} {s s' : S}
theorem StS.bagf (st : StS K mg fx Hf H σ G s) : ∀ b ∈ fx.bag, Hf b = none ∧ H b ≠ none := fun b m => ⟨(st.bagg b (List.mem_append_right _ m)).1, (st.bagg b (List.mem_append_right _ m)).2.1⟩
/-- an own place is not of the bag, nor the object's that is made -/
theorem StS.owNb (st : StS K mg fx Hf H σ G s) {p : Addr} (h0 : fx.H0 p = none) (nb : p ∉ fx.bag) : p ∉ fx.me ++ fx.bag := fun m => by
  rcases List.mem_append.mp m with q | q
  · exact (st.bagg p m).2.2 q h0
  · exact nb q
theorem Ste.wider {bag bag' : List Addr} {Hf H Hf' H' : Hp} (a : Ste bag Hf H Hf' H') : Ste (bag' ++ bag) Hf H Hf' H' :=
  ⟨a.sub, a.top, fun x o e n => a.keep x o e fun z => n (List.mem_append_right _ z), a.dom, a.fresh⟩
theorem StS.top (st : StS K mg fx Hf H σ G s) : Sub Hf H := st.ste.top
theorem Ste.stayNone {bag : List Addr} {Hf H Hf' H' : Hp} (a : Ste bag Hf H Hf' H') {p : Addr} (hf : Hf p = none) (h : H p ≠ none) : Hf' p = none := by
  cases q : Hf' p with
  | none => rfl
  | some u =>
    rcases a.fresh _ _ q with z | z
    · rw [hf] at z; cases z
    · exact absurd z h
theorem SlOk.step {o : Option (Option V)} (a : Ste fx.bag Hf H Hf' H') : ∀ {x : Sl}, SlOk K mg fx Hf H o x → SlOk K mg fx Hf' H' o x
  | .un, _ => trivial
  | .im d, ⟨v, e, i⟩ => ⟨v, e, i.mono a.sub⟩
  | .ow ds, ⟨p, vs, e, h, hf, h0, nb, l, z⟩ => ⟨p, vs, e, a.keep _ _ h nb, a.stayNone hf (by rw [h]; simp), h0, nb, l.mono a.sub, z⟩
  | .bg, h => h
  | .od ks ds, ⟨p, vs, e, h, hf, h0, nb, l, l', z⟩ => ⟨p, vs, e, a.keep _ _ h nb, a.stayNone hf (by rw [h]; simp), h0, nb, l.mono a.sub, l'.mono a.sub, z⟩
  | .ob ns ds, ⟨p, C, dx, vs, e, h, hf, h0, nb, c, hn, l⟩ => ⟨p, C, dx, vs, e, a.keep _ _ h nb, a.stayNone hf (by rw [h]; simp), h0, nb, c, hn, l.mono a.sub⟩
theorem StS.step (st : StS K mg fx Hf H σ G s) (a : Ste fx.bag Hf H Hf' H') (hb : BagAt fx.bag H' s') : StS K mg fx Hf' H' σ G s' :=
  ⟨st.ste.trans a.wider, hb, fun b m => ⟨a.stayNone (st.bagg b m).1 (st.bagg b m).2.1, a.dom _ (st.bagg b m).2.1, (st.bagg b m).2.2⟩, st.len, fun i x e => (st.sl i x e).step a, st.dis⟩
/-- weaker slots -/
def Wk : List Sl → List Sl → Prop
  | [], [] => True
  | x :: xs, y :: ys => (x = y ∨ y = .un) ∧ Wk xs ys
  | _, _ => False
theorem Wk.len : ∀ {G G' : List Sl}, Wk G G' → G.length = G'.length
  | [], [], _ => rfl
  | _ :: _, _ :: _, h => by simp [Wk.len h.2]
  | [], _ :: _, h => h.elim
  | _ :: _, [], h => h.elim
theorem Wk.get : ∀ {G G' : List Sl} {i : Nat} {y : Sl}, Wk G G' → G'[i]? = some y → ∃ x, G[i]? = some x ∧ (x = y ∨ y = .un)
  | [], [], _, _, _, e => by simp at e
  | x :: _, y :: _, 0, _, h, e => by simp at e; subst e; exact ⟨x, rfl, h.1⟩
  | _ :: _, _ :: _, i + 1, _, h, e => by simpa using Wk.get (i := i) h.2 (by simpa using e)
  | [], _ :: _, _, _, h, _ => h.elim
  | _ :: _, [], _, _, h, _ => h.elim
theorem Wk.refl : ∀ (G : List Sl), Wk G G
  | [] => trivial
  | x :: xs => ⟨.inl rfl, Wk.refl xs⟩
theorem StS.weak (st : StS K mg fx Hf H σ G s) (w : Wk G G') : StS K mg fx Hf H σ G' s :=
  ⟨st.ste, st.bag, st.bagg, st.len.trans w.len, fun i y e => by
    obtain ⟨x, ex, h⟩ := w.get e
    rcases h with rfl | rfl
    · exact st.sl i x ex
    · trivial, fun i j x y p hij ex ey ox oy => by
    obtain ⟨x', ex', hx⟩ := w.get ex
    obtain ⟨y', ey', hy⟩ := w.get ey
    rcases hx with rfl | rfl
    · rcases hy with rfl | rfl
      · exact st.dis i j _ _ p hij ex' ey' ox oy
      · cases oy
    · cases ox⟩
/-- a datum is stored -/
theorem StS.set {i : Nat} {d : D} {v : V} (st : StS K mg fx Hf H σ G s) (h : Is K mg Hf d v) : StS K mg fx Hf H (σ.set i (some v)) (G.set i (.im d)) s := by
  refine ⟨st.ste, st.bag, st.bagg, by simpa using st.len, fun j x e => ?_, fun j k x y p hjk ex ey ox oy e1 e2 => ?_⟩
  · by_cases q : i = j
    · subst q
      have hi : i < G.length := by
        have := (List.getElem?_eq_some_iff.mp e).1
        simpa using this
      rw [List.getElem?_set_self hi] at e
      cases e
      exact ⟨v, List.getElem?_set_self (by rw [st.len]; exact hi), h⟩
    · rw [List.getElem?_set_ne q] at e
      rw [List.getElem?_set_ne q]
      exact st.sl j x e
  · have nj : i ≠ j := by
      rintro rfl
      have hi : i < G.length := by
        have := (List.getElem?_eq_some_iff.mp ex).1
        simpa using this
      rw [List.getElem?_set_self hi] at ex
      cases ex; cases ox
    have nk : i ≠ k := by
      rintro rfl
      have hi : i < G.length := by
        have := (List.getElem?_eq_some_iff.mp ey).1
        simpa using this
      rw [List.getElem?_set_self hi] at ey
      cases ey; cases oy
    rw [List.getElem?_set_ne nj] at ex e1
    rw [List.getElem?_set_ne nk] at ey e2
    exact st.dis j k x y p hjk ex ey ox oy e1 e2
/-- a new list of one's own is stored -/
theorem StS.setOw {i : Nat} {ds : List D} {p : Addr} {vs : List V} (st : StS K mg fx Hf H σ G s) (hn : ∀ (j : Nat) (q : Addr), σ[j]? = some (some (.ref q)) → (∀ x, G[j]? = some x → isOw x = true → q ≠ p)) (h : H p = some (.lst vs)) (hf : Hf p = none) (h0 : fx.H0 p = none) (nb : p ∉ fx.bag) (l : IsL K mg Hf ds vs) (hz : ds.length ≤ sizeLine) :
    StS K mg fx Hf H (σ.set i (some (.ref p))) (G.set i (.ow ds)) s := by
  refine ⟨st.ste, st.bag, st.bagg, by simpa using st.len, fun j x e => ?_, fun j k x y q hjk ex ey ox oy e1 e2 => ?_⟩
  · by_cases q : i = j
    · subst q
      have hi : i < G.length := by
        have := (List.getElem?_eq_some_iff.mp e).1
        simpa using this
      rw [List.getElem?_set_self hi] at e
      cases e
      exact ⟨p, vs, List.getElem?_set_self (by rw [st.len]; exact hi), h, hf, h0, nb, l, hz⟩
    · rw [List.getElem?_set_ne q] at e
      rw [List.getElem?_set_ne q]
      exact st.sl j x e
  · have hi : ∀ {z : Sl}, (G.set i (.ow ds))[i]? = some z → i < σ.length := fun e => by
      have := (List.getElem?_eq_some_iff.mp e).1
      rw [st.len]
      simpa using this
    by_cases a : i = j
    · subst a
      rw [List.getElem?_set_self (hi ex)] at e1
      have hk : i ≠ k := hjk
      rw [List.getElem?_set_ne hk] at ey e2
      cases e1
      exact hn k p e2 y ey oy rfl
    · rw [List.getElem?_set_ne a] at ex e1
      by_cases b : i = k
      · subst b
        rw [List.getElem?_set_self (hi ey)] at e2
        cases e2
        exact hn j p e1 x ex ox rfl
      · rw [List.getElem?_set_ne b] at ey e2
        exact st.dis j k x y q hjk ex ey ox oy e1 e2
end
theorem BagAt.upd {bag : List Addr} {H : Hp} {s : S} {p : Addr} {o : HO} (h : BagAt bag H s) (nb : p ∉ bag) : BagAt bag (L2.upd H p o) s := by
  match bag, h, nb with
  | [], _, _ => trivial
  | [b], h, nb =>
    have e : H b = some (.lst [.int s.x, .int s.y]) := h.2
    refine ⟨h.1, ?_⟩
    rw [upd_ne (fun z => nb (by simp [z]))]
    exact e
  | b :: c :: r, ⟨hw, h0, h1, h2⟩, nb =>
    refine ⟨hw, h0, ?_, ?_⟩
    · rw [upd_ne (fun z => nb (by simp [z]))]; exact h1
    · rw [upd_ne (fun z => nb (by simp [z]))]; exact h2
section
variable {K : PySem.W.Frag} {mg : Str → Option Value} {fx : Fx} {Hf H : Hp} {σ : L2.St} {G : List Sl} {s : S}
theorem SlOk.ref {o : Option (Option V)} : ∀ {x : Sl}, isOw x = true → SlOk K mg fx Hf H o x → ∃ p, o = some (some (.ref p)) ∧ H p ≠ none ∧ Hf p = none ∧ p ∉ fx.bag ∧ (fx.H0 p = none ∨ p ∈ fx.me)
  | .un, h, _ => by cases h
  | .im d, h, _ => by cases h
  | .bg, h, _ => by cases h
  | .ow ds, _, ⟨p, vs, e, h, hf, h0, nb, l, z⟩ => ⟨p, e, by rw [h]; simp, hf, nb, .inl h0⟩
  | .od ks ds, _, ⟨p, vs, e, h, hf, h0, nb, l, l', z⟩ => ⟨p, e, by rw [h]; simp, hf, nb, .inl h0⟩
  | .ob ns ds, _, ⟨p, C, dx, vs, e, h, hf, h0, nb, c, hn, l⟩ => ⟨p, e, by rw [h]; simp, hf, nb, .inr h0.1⟩
theorem SlOk.upd {o : Option (Option V)} {p : Addr} {u : HO} : ∀ {x : Sl}, (∀ q, isOw x = true → o = some (some (.ref q)) → q ≠ p) → SlOk K mg fx Hf H o x → SlOk K mg fx Hf (L2.upd H p u) o x
  | .un, _, _ => trivial
  | .im d, _, h => h
  | .bg, _, h => h
  | .ow ds, w, ⟨q, vs, e, h, hf, h0, nb, l, z⟩ => ⟨q, vs, e, by rw [upd_ne (w q rfl e)]; exact h, hf, h0, nb, l, z⟩
  | .od ks ds, w, ⟨q, vs, e, h, hf, h0, nb, l, l', z⟩ => ⟨q, vs, e, by rw [upd_ne (w q rfl e)]; exact h, hf, h0, nb, l, l', z⟩
  | .ob ns ds, w, ⟨q, C, dx, vs, e, h, hf, h0, nb, c, hn, l⟩ => ⟨q, C, dx, vs, e, by rw [upd_ne (w q rfl e)]; exact h, hf, h0, nb, c, hn, l⟩
theorem SlOk.frz {o : Option (Option V)} {p : Addr} {u : HO} (sb : Sub Hf (L2.upd Hf p u)) : ∀ {x : Sl}, (∀ q, isOw x = true → o = some (some (.ref q)) → q ≠ p) → SlOk K mg fx Hf H o x → SlOk K mg fx (L2.upd Hf p u) H o x
  | .un, _, _ => trivial
  | .im d, _, ⟨v, a, b⟩ => ⟨v, a, b.mono sb⟩
  | .bg, _, h => h
  | .ow ds, w, ⟨q, vs, e, h, hf, h0, nb, l, z⟩ => ⟨q, vs, e, h, by rw [upd_ne (w q rfl e)]; exact hf, h0, nb, l.mono sb, z⟩
  | .od ks ds, w, ⟨q, vs, e, h, hf, h0, nb, l, l', z⟩ => ⟨q, vs, e, h, by rw [upd_ne (w q rfl e)]; exact hf, h0, nb, l.mono sb, l'.mono sb, z⟩
  | .ob ns ds, w, ⟨q, C, dx, vs, e, h, hf, h0, nb, c, hn, l⟩ => ⟨q, C, dx, vs, e, h, by rw [upd_ne (w q rfl e)]; exact hf, h0, nb, c, hn, l.mono sb⟩
/-- the own thing of slot i is changed -/
theorem StS.updAt {i : Nat} {x x' : Sl} {p : Addr} {u : HO} (st : StS K mg fx Hf H σ G s) (hG : G[i]? = some x) (ox : isOw x = true) (hp : σ[i]? = some (some (.ref p))) (ox' : isOw x' = true) (new : SlOk K mg fx Hf (upd H p u) (some (some (.ref p))) x') :
    StS K mg fx Hf (upd H p u) σ (G.set i x') s := by
  obtain ⟨q, e, h, hf, nb, h0⟩ := (st.sl i _ hG).ref ox
  have eq : q = p := by rw [hp] at e; cases e; rfl
  subst eq
  have hi : i < G.length := (List.getElem?_eq_some_iff.mp hG).1
  clear e
  refine ⟨⟨st.ste.sub, fun a o e => ?_, fun a o e n => ?_, fun a n => ?_, st.ste.fresh⟩, st.bag.upd nb, fun b m => ⟨(st.bagg b m).1, ?_, (st.bagg b m).2.2⟩, by simpa using st.len, fun j x ex => ?_, fun j k x y r hjk ex ey ox oy e1 e2 => ?_⟩
  · have ne : a ≠ q := fun z => by rw [z, hf] at e; cases e
    rw [upd_ne ne]
    exact st.top a o e
  · have ne : a ≠ q := fun z => by
      rcases h0 with y | y
      · rw [z, y] at e; cases e
      · exact n (List.mem_append_left _ (z ▸ y))
    rw [upd_ne ne]
    exact st.ste.keep a o e n
  · by_cases ne : a = q
    · rw [ne, upd_same]; simp
    · rw [upd_ne ne]; exact st.ste.dom a n
  · by_cases ne : b = q
    · rw [ne, upd_same]; simp
    · rw [upd_ne ne]
      exact (st.bagg b m).2.1
  · by_cases c : i = j
    · subst c
      rw [List.getElem?_set_self hi] at ex
      cases ex
      rw [hp]
      exact new
    · rw [List.getElem?_set_ne c] at ex
      exact (st.sl j x ex).upd fun q2 o2 e2 z => st.dis i j _ _ q c hG ex ox o2 hp (by rw [e2, z])
  · have get : ∀ {n : Nat} {z : Sl}, (G.set i x')[n]? = some z → isOw z = true → ∃ z', G[n]? = some z' ∧ isOw z' = true := fun {n z} e o => by
      by_cases c : i = n
      · subst c; exact ⟨_, hG, by assumption⟩
      · rw [List.getElem?_set_ne c] at e; exact ⟨z, e, o⟩
    obtain ⟨x1, ex', ox1⟩ := get ex ox
    obtain ⟨y1, ey', oy1⟩ := get ey oy
    exact st.dis j k x1 y1 r hjk ex' ey' ox1 oy1 e1 e2
/-- the own list of slot i is changed -/
theorem StS.updOw {i : Nat} {ds ds' : List D} {p : Addr} {vs' : List V} (st : StS K mg fx Hf H σ G s) (hG : G[i]? = some (.ow ds)) (hp : σ[i]? = some (some (.ref p))) (l : IsL K mg Hf ds' vs') (hz : ds'.length ≤ sizeLine) :
    StS K mg fx Hf (upd H p (.lst vs')) σ (G.set i (.ow ds')) s := by
  obtain ⟨q, vs, e, h, hf, h0, nb, l0, z0⟩ := st.sl i _ hG
  have eq : q = p := by rw [hp] at e; cases e; rfl
  subst eq
  exact st.updAt hG rfl hp rfl ⟨q, vs', rfl, upd_same, hf, h0, nb, l, hz⟩
/-- a slot's own thing becomes a datum -/
theorem StS.freezeAt {i : Nat} {x : Sl} {d : D} {p : Addr} {u : HO} (st : StS K mg fx Hf H σ G s) (hG : G[i]? = some x) (ox : isOw x = true) (hp : σ[i]? = some (some (.ref p))) (hu : H p = some u) (h0 : fx.H0 p = none) (is : ∀ Hf', Sub Hf Hf' → Hf' p = some u → Is K mg Hf' d (.ref p)) :
    ∃ Hf', (Sub Hf Hf' ∧ ∀ a o, Hf' a = some o → Hf a = some o ∨ o = u) ∧ StS K mg fx Hf' H σ (G.set i (.im d)) s := by
  obtain ⟨q, e, h, hf, nb, _⟩ := (st.sl i _ hG).ref ox
  have eq : q = p := by rw [hp] at e; cases e; rfl
  subst eq
  have hi : i < G.length := (List.getElem?_eq_some_iff.mp hG).1
  have sb : Sub Hf (upd Hf q u) := fun a o z => by
    have ne : a ≠ q := fun y => by rw [y, hf] at z; cases z
    rw [upd_ne ne]; exact z
  refine ⟨upd Hf q u, ⟨sb, fun a o z => by
    by_cases c : a = q
    · subst c; rw [upd_same] at z; cases z; exact .inr rfl
    · rw [upd_ne c] at z; exact .inl z⟩, ⟨st.ste.sub.trans sb, fun a o z => ?_, st.ste.keep, st.ste.dom, fun a o z => ?_⟩, st.bag, fun b m => ⟨?_, (st.bagg b m).2⟩, by simpa using st.len, fun j x ex => ?_, fun j k x y r hjk ex ey ox oy e1 e2 => ?_⟩
  · by_cases c : a = q
    · subst c; rw [upd_same] at z; cases z; exact hu
    · rw [upd_ne c] at z; exact st.top a o z
  · by_cases c : a = q
    · subst c; exact .inr h0
    · rw [upd_ne c] at z; exact st.ste.fresh a o z
  · have ne : b ≠ q := fun z => st.owNb h0 nb (z ▸ m)
    rw [upd_ne ne]; exact (st.bagg b m).1
  · by_cases c : i = j
    · subst c
      rw [List.getElem?_set_self hi] at ex
      cases ex
      exact ⟨_, e, is _ sb upd_same⟩
    · rw [List.getElem?_set_ne c] at ex
      exact (st.sl j x ex).frz sb fun q2 o2 e2 z => st.dis i j _ _ q c hG ex ox o2 hp (by rw [e2, z])
  · have nx : i ≠ j := fun z => by subst z; rw [List.getElem?_set_self hi] at ex; cases ex; cases ox
    have ny : i ≠ k := fun z => by subst z; rw [List.getElem?_set_self hi] at ey; cases ey; cases oy
    rw [List.getElem?_set_ne nx] at ex
    rw [List.getElem?_set_ne ny] at ey
    exact st.dis j k x y r hjk ex ey ox oy e1 e2
/-- a slot's own list becomes a datum -/
theorem StS.freeze {i : Nat} {ds : List D} (st : StS K mg fx Hf H σ G s) (hG : G[i]? = some (.ow ds)) : ∃ Hf', Sub Hf Hf' ∧ StS K mg fx Hf' H σ (G.set i (.im (.lst ds))) s := by
  obtain ⟨p, vs, e, h, hf, h0, nb, l0, z0⟩ := st.sl i _ hG
  obtain ⟨Hf', ⟨sb, _⟩, st'⟩ := st.freezeAt (d := .lst ds) hG rfl e h h0 fun Hf' sb z => ⟨z0, p, vs, rfl, z, l0.mono sb⟩
  exact ⟨Hf', sb, st'⟩
/-- an address that the heap does not know is not of the entry, nor the bag's -/
theorem StS.new0 (st : StS K mg fx Hf H σ G s) {p : Addr} (h : H p = none) : fx.H0 p = none ∧ p ∉ fx.bag ∧ Hf p = none := by
  refine ⟨?_, fun m => (st.bagf p m).2 h, st.top.none h⟩
  cases q : fx.H0 p with
  | none => rfl
  | some o => exact absurd h (st.ste.dom p (by rw [q]; simp))
theorem StS.owNe (st : StS K mg fx Hf H σ G s) {p : Addr} (h : H p = none) : ∀ (j : Nat) (q : Addr), σ[j]? = some (some (.ref q)) → (∀ x, G[j]? = some x → isOw x = true → q ≠ p) := fun j q e x ex ox z => by
  obtain ⟨q2, e2, h2, _⟩ := (st.sl j _ ex).ref ox
  rw [e] at e2
  cases e2
  rw [z] at h2
  exact h2 h
end
end DL
namespace DL
open PySem L2
/-! ### judgements -/
section
variable (K : PySem.W.Frag) (mg : Str → Option Value) (fx : Fx)
def ExIs (Hf H : Hp) (e : Exn) (cls : Value) (dd : Option Addr) : Prop :=
  ∃ C a v, mg e.c = some (.ref C) ∧ cls = .ref C ∧ dd = some a ∧ Hf a = some (.xd [(e.f, v)]) ∧ Is K mg Hf e.d v
/-- what is wanted of an exception -/
def EX (G : List Sl) (σ : L2.St) : Exn → S → Prop := fun e s' => ∀ cls dd Hf' H', StS K mg fx Hf' H' σ G s' → ExIs K mg Hf' H' e cls dd → fx.W cls dd σ H'
variable {m : Type → Type} [Mo m] {α β : Type}
def tX (G : List Sl) (rl : Hp → α → β → Prop) (x : m α) (Hf : Hp) (s : S) (σ : L2.St) (H : Hp) (Q : β → Hp → Prop) : Prop :=
  StS K mg fx Hf H σ G s ∧ Mo.wp x s (fun a s' => ∀ b Hf' H', Ste fx.bag Hf H Hf' H' → BagAt fx.bag H' s' → rl Hf' a b → Q b H') (EX K mg fx G σ)
def tG (G : List Sl) (rl : Hp → α → β → Prop) (x : m α) : L2.St → Hp → (β → Hp → Prop) → Prop := fun σ H Q => ∃ Hf s, tX K mg fx G rl x Hf s σ H Q
abbrev tE (G : List Sl) (x : m D) : TE := tG K mg fx G (fun H d v => Is K mg H d v) x
abbrev tT (G : List Sl) (x : m Bool) : TT := tG K mg fx G (fun _ a b => b = a) x
abbrev tA (G : List Sl) (x : m (List D)) : TA := tG K mg fx G (fun H d v => IsL K mg H d v) x
end
section
variable {K : PySem.W.Frag} {mg : Str → Option Value} {fx : Fx} {m : Type → Type} [Mo m] {α β γ δ : Type} {G : List Sl} {rl : Hp → α → β → Prop} {rm : Hp → γ → δ → Prop}
theorem tX.mono {x : m α} {Hf : Hp} {s : S} {σ : L2.St} {H : Hp} {Q Q' : β → Hp → Prop} (h : tX K mg fx G rl x Hf s σ H Q) (q : ∀ b H', Q b H' → Q' b H') : tX K mg fx G rl x Hf s σ H Q' :=
  ⟨h.1, Mo.wp_mono h.2 (fun a s' k b Hf' H' e bg r => q b H' (k b Hf' H' e bg r)) fun e s' k => k⟩
theorem tX.bind {x : m α} {k : α → m γ} {Hf : Hp} {s : S} {σ : L2.St} {H : Hp} {Q : δ → Hp → Prop} (h : tX K mg fx G rm (x >>= k) Hf s σ H Q) :
    tX K mg fx G rl x Hf s σ H (fun b H1 => ∃ a Hf1 s1, Sub Hf Hf1 ∧ rl Hf1 a b ∧ tX K mg fx G rm (k a) Hf1 s1 σ H1 Q) :=
  ⟨h.1, Mo.wp_mono (Mo.wp_bind h.2) (fun a s1 h1 b Hf1 H1 ste bag r => ⟨a, Hf1, s1, ste.sub, r, h.1.step ste bag,
      Mo.wp_mono h1 (fun c s2 h2 d Hf2 H2 ste2 bag2 r2 => h2 d Hf2 H2 (ste.trans ste2) bag2 r2) fun e s2 h2 => h2⟩)
    fun e s' k => k⟩
theorem tX.pure {a : α} {Hf : Hp} {s : S} {σ : L2.St} {H : Hp} {Q : β → Hp → Prop} (h : tX K mg fx G rl (Pure.pure a : m α) Hf s σ H Q) {b : β} (r : rl Hf a b) : Q b H :=
  (Mo.wp_pure h.2) b Hf H (.refl h.1.top) h.1.bag r
theorem tX.to {x : m α} {Hf : Hp} {s : S} {σ : L2.St} {H : Hp} {Q : β → Hp → Prop} (h : tX K mg fx G rl x Hf s σ H Q) : tG K mg fx G rl x σ H Q := ⟨Hf, s, h⟩
end
/-- a question with an answer or none -/
def ask {m : Type → Type} [Mo m] {α : Type} (o : Option α) : m α := Mo.lift (match o with | some a => .ok a | none => .stuck)
@[simp] theorem ask_some {α : Type} (a : α) : (ask (some a) : R α) = .ok a := rfl
@[simp] theorem ask_none {α : Type} : (ask (none : Option α) : R α) = .stuck := rfl
@[simp] theorem askM_some {α : Type} (a : α) (s : S) : (ask (some a) : M α) s = .ok a s := rfl
@[simp] theorem askM_none {α : Type} (s : S) : (ask (none : Option α) : M α) s = .stuck := rfl
section
variable {K : PySem.W.Frag} {mg : Str → Option Value} {fx : Fx} {m : Type → Type} [Mo m] {α β : Type} {G : List Sl} {rl : Hp → α → β → Prop}
/-- what follows from an answer -/
theorem tX.ask {o : Option α} {Hf : Hp} {s : S} {σ : L2.St} {H : Hp} {Q : β → Hp → Prop} (h : tX K mg fx G rl (DL.ask o : m α) Hf s σ H Q) :
    ∃ a, o = some a ∧ ∀ b Hf' H', Ste [] Hf H Hf' H' → rl Hf' a b → Q b H' := by
  have h2 := Mo.wp_lift h.2
  cases o with
  | none => exact h2.elim
  | some a => exact ⟨a, rfl, fun b Hf' H' e r => h2 b Hf' H' e.wide (e.bag h.1.bag) r⟩
end
section
variable {X : Cx}
theorem peI {e : Expr} {t t' : TE} (h : PE X e t) (w : ∀ σ H Q, t' σ H Q → t σ H Q) : PE X e t' := ⟨fun pins s σ H Q I q => h.run pins s σ H Q I (w _ _ _ q)⟩
theorem ptI {e : Expr} {t t' : TT} (h : PT X e t) (w : ∀ σ H Q, t' σ H Q → t σ H Q) : PT X e t' := ⟨fun pins s σ H Q I q => h.run pins s σ H Q I (w _ _ _ q)⟩
theorem pwI {e : Expr} {t t' : TT} (h : PW X e t) (w : ∀ σ H Q, t' σ H Q → t σ H Q) : PW X e t' := ⟨fun wh pins s σ H Q I q => h.run wh pins s σ H Q I (w _ _ _ q)⟩
theorem paI {e : List Expr} {t t' : TA} (h : PA X e t) (w : ∀ σ H Q, t' σ H Q → t σ H Q) : PA X e t' := ⟨fun pos pins s σ H Q I q => h.run pos pins s σ H Q I (w _ _ _ q)⟩
theorem pssI {e : List Stmt} {t t' : TS} (h : PSs X e t) (w : ∀ D σ H, t' D σ H → t D σ H) : PSs X e t' := ⟨fun pins s σ H D I q => h.run pins s σ H D I (w _ _ _ q)⟩
end
/-! ### operators by data -/
section
variable (K : PySem.W.Frag) (mg : Str → Option Value)
/-- a function of data, of two values -/
def rD2 (f : D → D → Option D) : R2 := fun x y H Q => ∃ Hf dx dy d, Sub Hf H ∧ Is K mg Hf dx x ∧ Is K mg Hf dy y ∧ f dx dy = some d ∧ ∀ u Hf' H', Ste [] Hf H Hf' H' → Is K mg Hf' d u → Q u H'
def rDs (f : List D → Option D) : List V → Hp → VK → Prop := fun xs H Q => ∃ Hf ds d, Sub Hf H ∧ IsL K mg Hf ds xs ∧ f ds = some d ∧ ∀ u Hf' H', Ste [] Hf H Hf' H' → Is K mg Hf' d u → Q u H'
end
section
variable {X : Cx} {fx : Fx} {m : Type → Type} [Mo m] {G : List Sl} {a b c : Expr} {es : List Expr} {pos : Pos} {x y z : m D} {ys : m (List D)} {f : D → D → Option D}
theorem de_op {op : Operator} (ho : OpR X (binaryOp op) (rD2 X.K X.mg f)) (ha : PE X a (tE X.K X.mg fx G x)) (hb : PE X b (tE X.K X.mg fx G y)) :
    PE X (.BinOp a op b pos) (tE X.K X.mg fx G (do let u ← x; let v ← y; ask (f u v))) := peI (pe_op ho ha hb) fun σ H Q ⟨Hf, s, h⟩ =>
  (h.bind.mono fun v1 H1 ⟨d1, Hf1, s1, sb1, r1, h1⟩ => (h1.bind.mono fun v2 H2 ⟨d2, Hf2, s2, sb2, r2, h2⟩ => by
    obtain ⟨d, e, q⟩ := h2.ask
    exact ⟨Hf2, d1, d2, d, h2.1.top, r1.mono sb2, r2, e, q⟩).to).to
theorem de_cmp {op : CmpOp} (ho : OpR X (compareOp op) (rD2 X.K X.mg f)) (ha : PE X a (tE X.K X.mg fx G x)) (hb : PE X b (tE X.K X.mg fx G y)) (hm : behindInMarks op b = false) :
    PE X (.Compare a [op] [b] pos) (tE X.K X.mg fx G (do let u ← x; let v ← y; ask (f u v))) := peI (pe_cmpR ho ha hb hm) fun σ H Q ⟨Hf, s, h⟩ =>
  (h.bind.mono fun v1 H1 ⟨d1, Hf1, s1, sb1, r1, h1⟩ => (h1.bind.mono fun v2 H2 ⟨d2, Hf2, s2, sb2, r2, h2⟩ => by
    obtain ⟨d, e, q⟩ := h2.ask
    exact ⟨Hf2, d1, d2, d, h2.1.top, r1.mono sb2, r2, e, q⟩).to).to
/-- a truth value as a test -/
def bOf : D → Option Bool
  | .bl b => some b
  | _ => none
theorem dt_cmp {op : CmpOp} (ho : OpR X (compareOp op) (rD2 X.K X.mg f)) (ha : PE X a (tE X.K X.mg fx G x)) (hb : PE X b (tE X.K X.mg fx G y)) (hm : behindInMarks op b = false) :
    PT X (.Compare a [op] [b] pos) (tT X.K X.mg fx G (do let u ← x; let v ← y; ask ((f u v).bind bOf))) := ptI (pt_cmpR ho ha hb hm) fun σ H Q ⟨Hf, s, h⟩ =>
  (h.bind.mono fun v1 H1 ⟨d1, Hf1, s1, sb1, r1, h1⟩ => (h1.bind.mono fun v2 H2 ⟨d2, Hf2, s2, sb2, r2, h2⟩ => by
    obtain ⟨k, e, q⟩ := h2.ask
    cases e' : f d1 d2 with
    | none => rw [e'] at e; cases e
    | some d =>
      rw [e'] at e
      cases d with
      | bl b' =>
        have : b' = k := Option.some.inj e
        subst this
        exact ⟨Hf2, d1, d2, _, h2.1.top, r1.mono sb2, r2, e', fun u Hf' H' st i => ⟨b', i, q b' Hf' H' st rfl⟩⟩
      | _ => cases e).to).to
theorem da_nil : PA X [] (tA X.K X.mg fx G (pure [] : m (List D))) := paI pa_nil fun σ H Q ⟨Hf, s, h⟩ => h.pure rfl
theorem da_cons (ha : PE X a (tE X.K X.mg fx G x)) (hr : PA X es (tA X.K X.mg fx G ys)) (hs : starEach (a :: es) X.env = (false, eval a X.env) :: starEach es X.env := by rfl) :
    PA X (a :: es) (tA X.K X.mg fx G (do let d ← x; let ds ← ys; pure (d :: ds))) := paI (pa_cons ha hr hs) fun σ H Q ⟨Hf, s, h⟩ =>
  (h.bind.mono fun v1 H1 ⟨d1, Hf1, s1, sb1, r1, h1⟩ => (h1.bind.mono fun v2 H2 ⟨d2, Hf2, s2, sb2, r2, h2⟩ => h2.pure (IsL.cons (r1.mono sb2) r2)).to).to
theorem de_callB {g : List D → Option D} {id : String} {n : Str} {p : Pos} {e : Expr} (hc : CallR X (.builtin id) (rDs X.K X.mg g)) (hg : Gl X n) (hm : X.mg n = none) (hv : bootBuiltins n = some (.builtin id)) (ha : PA X (e :: es) (tA X.K X.mg fx G ys))
    (hn : n ≠ "__name__" := by decide) (hdb : (n == ("__debug__" : Str)) = false := by decide) (he : starEach (e :: es) X.env = (false, eval e X.env) :: starEach es X.env := by rfl) (hpl : (backTo pos (starEach es X.env)).any (·.1) = false := by rfl) :
    PE X (.Call (.Name n p) (e :: es) [] pos) (tE X.K X.mg fx G (do let ds ← ys; ask (g ds))) := peI (pe_callB hc hg hm hv ha hn hdb he hpl) fun σ H Q ⟨Hf, s, h⟩ =>
  (h.bind.mono fun v1 H1 ⟨d1, Hf1, s1, sb1, r1, h1⟩ => by
    obtain ⟨d, e, q⟩ := h1.ask
    exact ⟨Hf1, d1, d, h1.1.top, r1, e, q⟩).to
theorem de_callTy {g : List D → Option D} {T : String} {n : Str} {p : Pos} {e : Expr} (hc : CallR X (.type T) (rDs X.K X.mg g)) (hg : Gl X n) (hm : X.mg n = none) (hv : bootBuiltins n = some (.type T)) (ha : PA X (e :: es) (tA X.K X.mg fx G ys))
    (hn : n ≠ "__name__" := by decide) (hdb : (n == ("__debug__" : Str)) = false := by decide) (he : starEach (e :: es) X.env = (false, eval e X.env) :: starEach es X.env := by rfl) (hpl : (backTo pos (starEach es X.env)).any (·.1) = false := by rfl) :
    PE X (.Call (.Name n p) (e :: es) [] pos) (tE X.K X.mg fx G (do let ds ← ys; ask (g ds))) := peI (pe_callTy hc hg hm hv ha hn hdb he hpl) fun σ H Q ⟨Hf, s, h⟩ =>
  (h.bind.mono fun v1 H1 ⟨d1, Hf1, s1, sb1, r1, h1⟩ => by
    obtain ⟨d, e, q⟩ := h1.ask
    exact ⟨Hf1, d1, d, h1.1.top, r1, e, q⟩).to
theorem de_var (i : Nat) {d : D} {n : Str} (hG : G[i]? = some (.im d) := by rfl) (hN : X.N[i]? = some n := by rfl) (hv : Vis X.env.scope n := by first | exact Or.inl rfl | exact Or.inr (Or.inl rfl) | exact Or.inr (Or.inr rfl))
    (hd : (n == ("__debug__" : Str)) = false := by decide) (hcd : (n == ("__classdict__" : Str)) = false := by decide) : PE X (.Name n pos) (tE X.K X.mg fx G (pure d : m D)) :=
  peI (pe_var hN hv hd hcd) fun σ H Q ⟨Hf, s, h⟩ => by
    obtain ⟨v, e, i⟩ := h.1.sl i _ hG
    exact ⟨v, e, h.pure i⟩
theorem de_int {j : Nat} {i : Int} : PE X (.Constant (.int i) j pos) (tE X.K X.mg fx G (pure (.int i) : m D)) := peI pe_int fun σ H Q ⟨Hf, s, h⟩ => h.pure (by rw [Is])
theorem de_bl {j : Nat} {i : Bool} : PE X (.Constant (.bool i) j pos) (tE X.K X.mg fx G (pure (.bl i) : m D)) := peI pe_bl fun σ H Q ⟨Hf, s, h⟩ => h.pure (by rw [Is])
theorem de_non {j : Nat} : PE X (.Constant .none j pos) (tE X.K X.mg fx G (pure .non : m D)) := peI pe_non fun σ H Q ⟨Hf, s, h⟩ => h.pure (by rw [Is])
theorem de_str {j : Nat} {t : Str} (l : List Nat) (ht : t = ⟨l.toArray⟩ := by first | rfl | decide +kernel) (hl : l.length ≤ 1000 := by decide) : PE X (.Constant (.str t) j pos) (tE X.K X.mg fx G (pure (.str l) : m D)) :=
  peI pe_str fun σ H Q ⟨Hf, s, h⟩ => h.pure (by rw [Is, ht]; exact ⟨rfl, Nat.le_of_lt (small1000 hl)⟩)
/-- a global constant -/
theorem de_glob {n : Str} {u : Value} {v : V} {d : D} (hg : Gl X n) (hm : X.mg n = some u) (r : RelV v u) (hi : Is X.K X.mg (fun _ => none) d v) (hd : (n == ("__debug__" : Str)) = false := by decide) : PE X (.Name n pos) (tE X.K X.mg fx G (pure d : m D)) :=
  peI (pe_glob hg hm r hd) fun σ H Q ⟨Hf, s, h⟩ => h.pure (hi.mono fun a o e => by cases e)
end
end DL
namespace DL
open PySem L2
/-! ### statements -/
inductive Fl (α β : Type) where
  | nx (a : α)
  | rt (d : D)
  | bk (b : β)
  | ct (b : β)
section
variable {m : Type → Type} [Mo m] {α β γ : Type}
def seqF (x : m (Fl α β)) (k : α → m (Fl γ β)) : m (Fl γ β) := do
  match ← x with
  | .nx a => k a
  | .rt d => pure (.rt d)
  | .bk b => pure (.bk b)
  | .ct b => pure (.ct b)
def forF (u : D → Option γ) (xb : α → γ → m (Fl α α)) : List D → α → m (Fl α β)
  | [], a => pure (.nx a)
  | d :: ds, a => do
    let c ← ask (u d)
    match ← xb a c with
    | .nx a' => forF u xb ds a'
    | .ct a' => forF u xb ds a'
    | .bk a' => pure (.nx a')
    | .rt d => pure (.rt d)
end
section
variable (K : PySem.W.Frag) (mg : Str → Option Value) (fx : Fx)
def GxOk (G : List Sl) : Prop := match fx.gx with
  | none => True
  | some g => Wk G g
/-- where an exception leaves a statement -/
def XSt (Hf H : Hp) (σ : L2.St) (s : S) : Prop := match fx.gx with
  | none => Ste (fx.me ++ fx.bag) fx.Hf0 fx.H0 Hf H ∧ BagAt fx.bag H s
  | some g => StS K mg fx Hf H σ g s
def EXS : Exn → S → Prop := fun e s' => ∀ cls dd σ' Hf' H', XSt K mg fx Hf' H' σ' s' → ExIs K mg Hf' H' e cls dd → fx.W cls dd σ' H'
variable {α β : Type}
def FP (Hf : Hp) (ex : α → List Sl) (exb : β → List Sl) (De : Ends) : Fl α β → S → Prop := fun f s' => match f with
  | .nx a => ∀ Hf' H' σ', Sub Hf Hf' → StS K mg fx Hf' H' σ' (ex a) s' → De.nx σ' H'
  | .rt d => ∀ v Hf' H', Ste (fx.me ++ fx.bag) fx.Hf0 fx.H0 Hf' H' → BagAt fx.bag H' s' → RtOk K mg fx.nr fx.H0 Hf' H' d v → De.rt v H'
  | .bk b => ∀ Hf' H' σ', Sub Hf Hf' → StS K mg fx Hf' H' σ' (exb b) s' → De.bk σ' H'
  | .ct b => ∀ Hf' H' σ', Sub Hf Hf' → StS K mg fx Hf' H' σ' (exb b) s' → De.ct σ' H'
variable {m : Type → Type} [Mo m]
def tSX (G : List Sl) (ex : α → List Sl) (exb : β → List Sl) (x : m (Fl α β)) (Hf : Hp) (s : S) (De : Ends) (σ : L2.St) (H : Hp) : Prop :=
  StS K mg fx Hf H σ G s ∧ Mo.wp x s (FP K mg fx Hf ex exb De) (EXS K mg fx)
def tS (G : List Sl) (ex : α → List Sl) (exb : β → List Sl) (x : m (Fl α β)) : TS := fun De σ H => ∃ Hf s, tSX K mg fx G ex exb x Hf s De σ H
end
section
variable {K : PySem.W.Frag} {mg : Str → Option Value} {fx : Fx} {m : Type → Type} [Mo m] {α β γ δ ε : Type} {G G' : List Sl} {ex : α → List Sl} {exb : β → List Sl} {rm : Hp → γ → δ → Prop}
theorem exs_ex {σ : L2.St} {e : Exn} {s : S} (hx : GxOk fx G) (h : EXS K mg fx e s) : EX K mg fx G σ e s := fun cls dd Hf' H' st xi => by
  refine h cls dd σ Hf' H' ?_ xi
  unfold XSt
  unfold GxOk at hx
  cases q : fx.gx with
  | none => exact ⟨st.ste, st.bag⟩
  | some g =>
    rw [q] at hx
    exact st.weak hx
theorem FP.up {Hf Hf1 : Hp} {De : Ends} {f : Fl α β} {s : S} (sb : Sub Hf Hf1) (h : FP K mg fx Hf ex exb De f s) : FP K mg fx Hf1 ex exb De f s := by
  cases f with
  | nx a => exact fun Hf' H' σ' sb' => h Hf' H' σ' (sb.trans sb')
  | rt d => exact h
  | bk b => exact fun Hf' H' σ' sb' => h Hf' H' σ' (sb.trans sb')
  | ct b => exact fun Hf' H' σ' sb' => h Hf' H' σ' (sb.trans sb')
theorem tSX.to {x : m (Fl α β)} {Hf : Hp} {s : S} {σ : L2.St} {H : Hp} {De : Ends} (h : tSX K mg fx G ex exb x Hf s De σ H) : tS K mg fx G ex exb x De σ H := ⟨Hf, s, h⟩
theorem tSX.bind {x : m γ} {k : γ → m (Fl α β)} {Hf : Hp} {s : S} {σ : L2.St} {H : Hp} {De : Ends} (h : tSX K mg fx G ex exb (x >>= k) Hf s De σ H) (hx : GxOk fx G) :
    tX K mg fx G rm x Hf s σ H (fun b H1 => ∃ a Hf1 s1, Sub Hf Hf1 ∧ rm Hf1 a b ∧ tSX K mg fx G ex exb (k a) Hf1 s1 De σ H1) :=
  ⟨h.1, Mo.wp_mono (Mo.wp_bind h.2) (fun a s1 h1 b Hf1 H1 ste bag r => ⟨a, Hf1, s1, ste.sub, r, h.1.step ste bag, Mo.wp_mono h1 (fun f s2 h2 => h2.up ste.sub) fun e s' k => k⟩) fun e s' k => exs_ex hx k⟩
theorem tSX.weak {x : m (Fl α β)} {Hf : Hp} {s : S} {σ : L2.St} {H : Hp} {De : Ends} (h : tSX K mg fx G ex exb x Hf s De σ H) (w : Wk G G') : tSX K mg fx G' ex exb x Hf s De σ H := ⟨h.1.weak w, h.2⟩
theorem tSX.seq {exA : ε → List Sl} {x : m (Fl ε β)} {k : ε → m (Fl α β)} {Hf : Hp} {s : S} {σ : L2.St} {H : Hp} {De : Ends} (h : tSX K mg fx G ex exb (seqF x k) Hf s De σ H) :
    tSX K mg fx G exA exb x Hf s { De with nx := fun σ' H' => ∃ a, tS K mg fx (exA a) ex exb (k a) De σ' H' } σ H :=
  ⟨h.1, Mo.wp_mono (Mo.wp_bind h.2) (fun f s1 h1 => by
    cases f with
    | nx a => exact fun Hf' H' σ' sb st => ⟨a, Hf', s1, st, Mo.wp_mono h1 (fun f s2 h2 => h2.up sb) fun e s' k => k⟩
    | rt d => have z := Mo.wp_pure h1; exact z
    | bk b => have z := Mo.wp_pure h1; exact z
    | ct b => have z := Mo.wp_pure h1; exact z) fun e s' k => k⟩
end
section
variable {X : Cx}
theorem pss_ex {ι : Type} {sts : List Stmt} {t : ι → TS} (h : ∀ i, PSs X sts (t i)) : PSs X sts (fun D σ H => ∃ i, t i D σ H) := ⟨fun pins s σ H D I ⟨i, q⟩ => (h i).run pins s σ H D I q⟩
/-- what a context bears -/
structure Cok (X : Cx) (fx : Fx) (k : Nat) : Prop where
  calm : X.calm = true
  hp : PassesOwn (model X.prog X.w) X.A X.env X.xe
  tk : Takes X fx.W
  rm : Room k X.A
  nd : X.N.Nodup
  gd : X.A.guards = some []
end
section
variable {X : Cx} {fx : Fx} {m : Type → Type} [Mo m] {α β γ δ ε : Type} {G G' : List Sl} {ex : α → List Sl} {exb : β → List Sl} {exA : ε → List Sl} {rest A B : List Stmt} {pos : Pos} {kk : Nat} {x : m D} {k : D → m (Fl α β)} {e : Expr} {i : Nat}
theorem dss_nil {a : α} (w : Wk G (ex a)) : PSs X [] (tS X.K X.mg fx G ex exb (pure (.nx a) : m (Fl α β))) := pssI pss_nil fun D σ H ⟨Hf, s, h⟩ =>
  (Mo.wp_pure h.2) Hf H σ (.refl _) (h.1.weak w)
theorem dss_cont {b : β} (w : Wk G (exb b)) : PSs X (.Continue pos :: rest) (tS X.K X.mg fx G ex exb (pure (.ct b) : m (Fl α β))) := pssI (pss_cons ps_continue pss_never) fun D σ H ⟨Hf, s, h⟩ =>
  (Mo.wp_pure h.2) Hf H σ (.refl _) (h.1.weak w)
/-- x = e -/
theorem dss_asg (C : Cok X fx kk) {n : Str} {pos' : Pos} (i : Nat) (he : PE X e (tE X.K X.mg fx G x)) (hr : ∀ d, PSs X rest (tS X.K X.mg fx (G.set i (.im d)) ex exb (k d))) (hi : X.N[i]? = some n := by rfl) (hx : Loc X.env.scope n := by first | exact Or.inl rfl | exact Or.inr rfl)
    (hs : swapsWith e (some (.Name n pos')) pos.line X.env = pure false := by rfl) (hf : X.fn n = true ∨ X.env.scope.names.lookup n = some .local := by first | exact .inl rfl | exact .inr rfl) (hg : GxOk fx G := by first | exact True.intro | repeat' (first | exact True.intro | exact Or.inl rfl | exact Or.inr rfl | refine And.intro ?_ ?_)) :
    PSs X (.Assign [.Name n pos'] e pos :: rest) (tS X.K X.mg fx G ex exb (x >>= k)) := pssI (pss_cons (ps_set C.nd hi hx he hs hf) (pss_ex hr)) fun D σ H ⟨Hf, s, h⟩ =>
  ((h.bind hg).mono fun v H1 ⟨d, Hf1, s1, sb, r, h1⟩ => ⟨d, Hf1, s1, h1.1.set r, h1.2⟩).to
/-- return e -/
theorem dss_ret (he : PE X e (tE X.K X.mg fx G x)) (hnr : fx.nr = false := by rfl) (hg : GxOk fx G := by first | exact True.intro | repeat' (first | exact True.intro | exact Or.inl rfl | exact Or.inr rfl | refine And.intro ?_ ?_)) : PSs X (.Return (some e) pos :: rest) (tS X.K X.mg fx G ex exb (do let d ← x; pure (.rt d))) := pssI (pss_cons (ps_ret he) pss_never) fun D σ H ⟨Hf, s, h⟩ =>
  ((h.bind hg).mono fun v H1 ⟨d, Hf1, s1, sb, r, h1⟩ => (Mo.wp_pure h1.2) v Hf1 H1 h1.1.ste h1.1.bag (by rw [hnr]; exact r)).to
/-- if -/
theorem dss_if {c : Expr} {xc : m Bool} {xa xb : m (Fl ε β)} {k : ε → m (Fl α β)} (hc : PT X c (tT X.K X.mg fx G xc)) (ha : PSs X A (tS X.K X.mg fx G exA exb xa)) (hb : PSs X B (tS X.K X.mg fx G exA exb xb)) (hr : ∀ a, PSs X rest (tS X.K X.mg fx (exA a) ex exb (k a))) (hg : GxOk fx G := by first | exact True.intro | repeat' (first | exact True.intro | exact Or.inl rfl | exact Or.inr rfl | refine And.intro ?_ ?_)) :
    PSs X (.If c A B pos :: rest) (tS X.K X.mg fx G ex exb (do let t ← xc; seqF (if t = true then xa else xb) k)) := pssI (pss_cons (ps_if hc ha hb) (pss_ex hr)) fun D σ H ⟨Hf, s, h⟩ =>
  ((h.bind hg).mono fun v H1 ⟨d, Hf1, s1, sb, r, h1⟩ => by
    cases r
    cases v with
    | true => exact h1.seq.to
    | false => exact h1.seq.to).to
end
/-! ### what is walked -/
section
variable (K : PySem.W.Frag) (mg : Str → Option Value)
def Yl (J : It) (Hf0 : Hp) (ds : List D) : Prop := ds.length ≤ sizeLine ∧ ∀ Hf H, Sub Hf0 Hf → Sub Hf H → ∀ i : Nat,
  (∀ d, ds[i]? = some d → J.go i H ∧ ∀ x H', J.yld i H x H' → ∃ Hf', Ste [] Hf H Hf' H' ∧ Is K mg Hf' d x) ∧ (ds.length ≤ i → J.stop i H)
abbrev tI (fx : Fx) (G : List Sl) {m : Type → Type} [Mo m] (x : m (List D)) : TI := tG K mg fx G (fun Hf ds J => Yl K mg J Hf ds) x
end
section
variable {X : Cx} {fx : Fx} {m : Type → Type} [Mo m] {α β γ : Type} {G G' : List Sl} {ex : α → List Sl} {exb : β → List Sl} {rest body : List Stmt} {pos : Pos} {kk : Nat}
/-- a target: it takes c of the datum (u), and sets slots (st) -/
def PGd (X : Cx) (fx : Fx) (tg : Expr) (g : TG) (u : D → Option γ) (st : List Sl → γ → List Sl) (is : List Nat) : Prop :=
  PG X tg g ∧ ∀ {G : List Sl} {Hf : Hp} {d : D} {v : V} {σ : L2.St} {H : Hp} {s : S} {c : γ} {Q : L2.St → Hp → Prop}, StS X.K X.mg fx Hf H σ G s → Is X.K X.mg Hf d v → u d = some c → (∀ σ', (∀ j, j ∉ is → σ'[j]? = σ[j]?) → σ'.length = σ.length → StS X.K X.mg fx Hf H σ' (st G c) s → Q σ' H) → g v σ H Q
theorem pgd_name (C : Cok X fx kk) (i : Nat) {n : Str} (hi : X.N[i]? = some n := by rfl) (hx : Loc X.env.scope n := by first | exact Or.inl rfl | exact Or.inr rfl) (hf : X.fn n = true ∨ X.env.scope.names.lookup n = some .local := by first | exact .inl rfl | exact .inr rfl) :
    PGd X fx (.Name n pos) (gName i) (fun d => some d) (fun G d => G.set i (.im d)) [i] :=
  ⟨pg_name C.nd hi hx hf, fun {G Hf d v σ H s c Q} st r e q => by
    cases e
    exact q _ (fun j hj => List.getElem?_set_ne (fun z => hj (by simp [z]))) (by simp) (st.set r)⟩
theorem dss_for {ε : Type} {exl : ε → List Sl} {tg iter : Expr} {g : TG} {u : D → Option γ} {st : List Sl → γ → List Sl} {xi : m (List D)} {xb : ε → γ → m (Fl ε ε)} {k : ε → m (Fl α β)} {is : List Nat} (a0 : ε) (C : Cok X fx kk) (hi : PI X tg iter (tI X.K X.mg fx G xi)) (hg : PGd X fx tg g u st is)
    (w : Wk G (exl a0)) (hb : ∀ a c, PSs X body (tS X.K X.mg fx (st (exl a) c) exl exl (xb a c))) (hr : ∀ a, PSs X rest (tS X.K X.mg fx (exl a) ex exb (k a))) (hs : ∀ x, foldedSetIterable iter X.env x = pure x := by intro _; rfl) (hx : GxOk fx G := by first | exact True.intro | repeat' (first | exact True.intro | exact Or.inl rfl | exact Or.inr rfl | refine And.intro ?_ ?_)) :
    PSs X (.For tg iter body [] pos :: rest) (tS X.K X.mg fx G ex exb (do let ds ← xi; seqF (forF u xb ds a0) k)) := by
  refine pssI (pss_cons (ps_for C.hp C.calm hi hg.1 (pss_ex (ι := ε × γ) (t := fun p => tS X.K X.mg fx (st (exl p.1) p.2) exl exl (xb p.1 p.2)) fun p => hb p.1 p.2) hs) (pss_ex hr)) fun D σ H ⟨Hf, s, h⟩ => ?_
  refine ((h.bind hx).mono fun J H1 ⟨ds, Hf1, s1, sb, yl, h1⟩ => ?_).to
  have h2 := h1.seq (exA := exl)
  obtain ⟨st1, w1⟩ := h2
  refine ⟨fun i m σ H => m = ds.length - i ∧ i ≤ ds.length ∧ ∃ a Hf s, Sub Hf1 Hf ∧ StS X.K X.mg fx Hf H σ (exl a) s ∧
    Mo.wp (forF (β := β) u xb (ds.drop i) a) s (FP X.K X.mg fx Hf exl exb { D with nx := fun σ' H' => ∃ a, tS X.K X.mg fx (exl a) ex exb (k a) D σ' H' }) (EXS X.K X.mg fx), ⟨ds.length, by simp, Nat.zero_le _, a0, Hf1, s1, .refl _, st1.weak w, w1⟩, ?_⟩
  rintro i m σ H ⟨rfl, hi, a, Hf2, s2, sb2, st2, w2⟩
  obtain ⟨y1, y2⟩ := yl.2 Hf2 H sb2 st2.top i
  by_cases hlt : i < ds.length
  · obtain ⟨go, yd⟩ := y1 ds[i] (List.getElem?_eq_getElem hlt)
    rw [List.drop_eq_getElem_cons hlt] at w2
    have w3 := Mo.wp_bind w2
    have w4 := Mo.wp_lift w3
    refine .inr ⟨go, fun σ' H' => i + 1 ≤ ds.length ∧ ∃ a Hf s, Sub Hf1 Hf ∧ StS X.K X.mg fx Hf H' σ' (exl a) s ∧
      Mo.wp (forF (β := β) u xb (ds.drop (i + 1)) a) s (FP X.K X.mg fx Hf exl exb { D with nx := fun σ' H' => ∃ a, tS X.K X.mg fx (exl a) ex exb (k a) D σ' H' }) (EXS X.K X.mg fx), fun σ' H' q => ⟨ds.length - (i + 1), by omega, rfl, q⟩, fun x H' y => ?_⟩
    obtain ⟨Hf3, e3, is3⟩ := yd x H' y
    cases q : u ds[i] with
    | none => rw [q] at w4; exact w4.elim
    | some c =>
      rw [q] at w4
      have st3 := st2.step e3.wide (e3.bag st2.bag)
      refine hg.2 st3 is3 q fun σ' _ _ st4 => ?_
      refine ⟨(a, c), Hf3, s2, st4, ?_⟩
      refine Mo.wp_mono (Mo.wp_bind w4) (fun f s5 h5 => ?_) fun e s' k => k
      cases f with
      | nx a' => exact fun Hf' H' σ' sb' st' => ⟨hlt, a', Hf', s5, (sb2.trans e3.sub).trans sb', st', Mo.wp_mono h5 (fun f s2 h2 => h2.up (e3.sub.trans sb')) fun e s' k => k⟩
      | ct a' => exact fun Hf' H' σ' sb' st' => ⟨hlt, a', Hf', s5, (sb2.trans e3.sub).trans sb', st', Mo.wp_mono h5 (fun f s2 h2 => h2.up (e3.sub.trans sb')) fun e s' k => k⟩
      | bk a' => have z := Mo.wp_pure h5; exact fun Hf' H' σ' sb' => z Hf' H' σ' (e3.sub.trans sb')
      | rt d => have z := Mo.wp_pure h5; exact z
  · have e : i = ds.length := by omega
    subst e
    refine .inl ⟨y2 (Nat.le_refl _), ?_⟩
    rw [List.drop_length] at w2
    exact (Mo.wp_pure w2) Hf2 H σ (.refl _) st2
end
end DL
namespace DL
open PySem L2
/-! ### defs -/
def runR (nr : Bool) : R (Fl Unit Empty) → R D
  | .ok (.nx _) => if nr = true then .stuck else .ok .non
  | .ok (.rt d) => .ok d
  | .ok (.bk b) => b.elim
  | .ok (.ct b) => b.elim
  | .ex e => .ex e
  | .stuck => .stuck
def runM (nr : Bool) (x : M (Fl Unit Empty)) : M D := fun s => match x s with
  | .ok (.nx _) s => if nr = true then .stuck else .ok .non s
  | .ok (.rt d) s => .ok d s
  | .ok (.bk b) _ => b.elim
  | .ok (.ct b) _ => b.elim
  | .ex e s => .ex e s
  | .stuck => .stuck
def unG (N : List Str) : List Sl := N.map fun _ => .un
def G0 (N : List Str) (ds : List D) : List Sl := ds.map Sl.im ++ List.replicate (N.length - ds.length) .un
def G1 (N : List Str) (ds : List D) : List Sl := .bg :: (ds.map Sl.im ++ List.replicate (N.length - ds.length - 1) .un)
abbrev fxE (bag : List Addr) (nr : Bool) (H Hf : Hp) (E : XK) : Fx := ⟨bag, H, Hf, fun cls d _ H' => E cls d H', none, nr, [], []⟩
section
variable (K : PySem.W.Frag) (mg : Str → Option Value)
def spR (nr : Bool) (n : Nat) (g : List D → R D) : Sp := fun vs H Q E => vs.length = n ∧ ∃ Hf ds, Sub Hf H ∧ IsL K mg Hf ds vs ∧ (match g ds with
  | .ok d => ∀ v Hf' H', Ste [] Hf H Hf' H' → RtOk K mg nr H Hf' H' d v → Q v H'
  | .ex e => ∀ cls dd Hf' H', Ste [] Hf H Hf' H' → ExIs K mg Hf' H' e cls dd → E cls dd H'
  | .stuck => False)
def spM (nr : Bool) (n : Nat) (g : List D → M D) : Sp := fun vs H Q E => vs.length = n ∧ ∃ bag b r Hf ds vs' s, bag = b :: r ∧ vs = .ref b :: vs' ∧ Sub Hf H ∧ (∀ b ∈ bag, Hf b = none ∧ H b ≠ none) ∧ BagAt bag H s ∧ IsL K mg Hf ds vs' ∧ (match g ds s with
  | .ok d s' => ∀ v Hf' H', Ste bag Hf H Hf' H' → BagAt bag H' s' → RtOk K mg nr H Hf' H' d v → Q v H'
  | .ex e s' => ∀ cls dd Hf' H', Ste bag Hf H Hf' H' → BagAt bag H' s' → ExIs K mg Hf' H' e cls dd → E cls dd H'
  | .stuck => False)
end
theorem start_at {N : List Str} {vs : List V} {i : Nat} {v : V} (h : vs[i]? = some v) : (start N vs)[i]? = some (some v) := by
  unfold L2.start
  have hl : i < vs.length := (List.getElem?_eq_some_iff.mp h).1
  rw [List.getElem?_append_left (by simpa using hl), List.getElem?_map, h]
  rfl
theorem start_len {N : List Str} {vs : List V} (h : vs.length ≤ N.length) : (start N vs).length = N.length := by
  unfold L2.start
  simp
  omega
theorem isOw_im {ds : List D} {n i : Nat} {x : Sl} (h : (ds.map Sl.im ++ List.replicate n .un)[i]? = some x) (o : isOw x = true) : False := by
  have hm := List.mem_of_getElem? h
  rcases List.mem_append.mp hm with hm | hm
  · obtain ⟨d, _, rfl⟩ := List.mem_map.mp hm
    cases o
  · have := List.eq_of_mem_replicate hm
    subst this
    cases o
section
variable {K : PySem.W.Frag} {mg : Str → Option Value}
theorem slOk_G0 {fx : Fx} {Hf H : Hp} {ds : List D} {vs : List V} {N : List Str} {n : Nat} (l : IsL K mg Hf ds vs) {i : Nat} {x : Sl} (e : (ds.map Sl.im ++ List.replicate n .un)[i]? = some x) : SlOk K mg fx Hf H (vs[i]?.map some) x := by
  by_cases h : i < ds.length
  · rw [List.getElem?_append_left (by simpa using h), List.getElem?_map, List.getElem?_eq_getElem h] at e
    cases e
    obtain ⟨v, hv, hi⟩ := l.get (List.getElem?_eq_getElem h)
    exact ⟨v, by rw [hv]; rfl, hi⟩
  · rw [List.getElem?_append_right (by simpa using Nat.le_of_not_lt h)] at e
    have := List.eq_of_mem_replicate (List.mem_of_getElem? e)
    subst this
    trivial
theorem StS.init0 {nr : Bool} {Hf H : Hp} {E : XK} {ds : List D} {vs : List V} {N : List Str} {s : S} (sb : Sub Hf H) (l : IsL K mg Hf ds vs) (hn : vs.length ≤ N.length) : StS K mg (fxE [] nr H Hf E) Hf H (start N vs) (G0 N ds) s := by
  refine ⟨.refl sb, trivial, fun b hb => (by cases hb), ?_, fun i x e => ?_, fun i j x y p _ ex _ ox _ => (isOw_im ex ox).elim⟩
  · rw [start_len hn]
    unfold G0
    have := l.len
    simp
    omega
  · have q := slOk_G0 (fx := fxE [] nr H Hf E) (H := H) (N := N) l e
    cases x with
    | un => trivial
    | im d =>
      obtain ⟨v, hv, hi⟩ := q
      refine ⟨v, ?_, hi⟩
      cases h : vs[i]? with
      | none => rw [h] at hv; cases hv
      | some w => rw [h] at hv; cases hv; exact start_at h
    | ow ds => exact (isOw_im e rfl).elim
    | od ks ds => exact (isOw_im e rfl).elim
    | ob ns ds => exact (isOw_im e rfl).elim
    | bg =>
      obtain ⟨b, r, e, _⟩ := q
      cases e
theorem StS.init1 {nr : Bool} {Hf H : Hp} {E : XK} {ds : List D} {vs : List V} {N : List Str} {s : S} {bag : List Addr} {b : Addr} {r : List Addr} (eb : bag = b :: r) (sb : Sub Hf H) (hb : ∀ b ∈ bag, Hf b = none ∧ H b ≠ none) (bg : BagAt bag H s) (l : IsL K mg Hf ds vs) (hn : vs.length + 1 ≤ N.length) :
    StS K mg (fxE bag nr H Hf E) Hf H (start N (.ref b :: vs)) (G1 N ds) s := by
  refine ⟨.refl sb, bg, fun b m => ⟨(hb b m).1, (hb b m).2, fun z => nomatch z⟩, ?_, fun i x e => ?_, fun i j x y p _ ex _ ox _ => ?_⟩
  · rw [start_len (by simpa using hn)]
    unfold G1
    have := l.len
    simp
    omega
  · cases i with
    | zero =>
      cases e
      exact ⟨b, r, eb, start_at rfl⟩
    | succ i =>
      have e' : (ds.map Sl.im ++ List.replicate (N.length - ds.length - 1) .un)[i]? = some x := e
      have q := slOk_G0 (fx := fxE bag nr H Hf E) (H := H) (N := N) l e'
      cases x with
      | un => trivial
      | im d =>
        obtain ⟨v, hv, hi⟩ := q
        refine ⟨v, ?_, hi⟩
        cases h : vs[i]? with
        | none => rw [h] at hv; cases hv
        | some w => rw [h] at hv; cases hv; exact start_at (by simpa using h)
      | ow ds => exact (isOw_im e' rfl).elim
      | od ks ds => exact (isOw_im e' rfl).elim
      | ob ns ds => exact (isOw_im e' rfl).elim
      | bg =>
        have hm := List.mem_of_getElem? e'
        rcases List.mem_append.mp hm with hm | hm
        · obtain ⟨d, _, z⟩ := List.mem_map.mp hm
          cases z
        · have := List.eq_of_mem_replicate hm
          cases this
  · cases i with
    | zero => cases ex; cases ox
    | succ i => exact (isOw_im (n := N.length - ds.length - 1) (ds := ds) (i := i) ex ox).elim
end
/-- a def's promise where no repr is under way -/
structure FnG (P : Program) (w : World) (K : PySem.W.Frag) (mg : Str → Option Value) (base : Heap) (k : Nat) (f : Addr) (fd : FuncData) (ps : List Str) (sp : Sp) : Prop where
  len : ∀ vs H Q E, sp vs H Q E → vs.length = ps.length
  run : ∀ (A : Around) (outer : List Env) (s : Shared) (H : Hp) (args : Args) (us : List Value) (vs : List V) (Q : VK) (E : XK), A.guards = some [] → Room k A → Env0 P w K mg base A outer s H → BindsTo s fd args (ps.zip us) → Vals vs us → sp vs H Q E →
    codeAny (model P w) A (.call (.ref f) args) (CR (L2.CX P w) outer P w H s Q E) s
/-- a call's end, for the caller -/
theorem ends_call {X : Cx} {pins : List (Addr × Obj)} {σ : L2.St} {H : Hp} {s s' : Shared} {Q : VK} {E : XK} {r : PySem.Result} (I : Inv X pins σ H s) (hx : PassesAt (L2.CX X.prog X.w) X σ E) (hq : CR (L2.CX X.prog X.w) X.stack X.prog X.w H s Q E r s') :
    match r with
    | .ok (.ret u) => EP X pins σ Q u s'
    | .ok _ => False
    | .error e => X.xe e s' := by
  cases r with
  | error e => exact hx pins H s e s' I hq
  | ok fl => cases fl <;> first | exact I.after hq | exact hq
theorem run_g {X : Cx} {k : Nat} {f : Addr} {fd : FuncData} {ps : List Str} {sp : Sp} {dvs : List V} {ds : List Value} {E : L2.St → XK} {pins : List (Addr × Obj)} {σ : L2.St} {H : Hp} {s : Shared} {Q : VK} {us : List Value} {vs : List V} (F : FnG X.prog X.w X.K X.mg X.base k f fd ps sp) (hg : X.A.guards = some []) (hr : Room k X.A) (hb : Binds X.K fd ps ds) (hd : Vals dvs ds)
    (hx : PassesAt (L2.CX X.prog X.w) X σ (E σ)) (I : Inv X pins σ H s) (r : Vals vs us) (h : sp (vs ++ dvs) H Q (E σ)) : wpAny (model X.prog X.w) X.A (call (.ref f) us) (EP X pins σ Q) X.xe s := by
  have ra := r.append hd
  have hl := F.len _ _ _ _ h
  rw [ra.length] at hl
  refine wpAny_call (codeAny_mono (F.run X.A X.stack s H ⟨us, []⟩ (us ++ ds) (vs ++ dvs) Q (E σ) hg hr I.env0 (hb s us I.kIn hl) ra h) fun r s' hq => ?_)
  have z := ends_call I hx hq
  cases r with
  | error e => exact z
  | ok fl => cases fl <;> first | exact z | exact z.elim
theorem pe_callG {X : Cx} {k : Nat} {f : Addr} {fd : FuncData} {ps : List Str} {sp : Sp} {dvs : List V} {ds : List Value} {E : L2.St → XK} {x : Str} {p pos : Pos} {e : Expr} {es : List Expr} {t : TA} (F : FnG X.prog X.w X.K X.mg X.base k f fd ps sp) (hgd : X.A.guards = some []) (hr : Room k X.A) (hg : Gl X x) (hm : X.mg x = some (.ref f)) (hk : PySem.W.keepIn X.K (.ref f) = true) (hb : Binds X.K fd ps ds) (hd : Vals dvs ds)
    (hx : ∀ σ, PassesAt (L2.CX X.prog X.w) X σ (E σ)) (ha : PA X (e :: es) t) (hdb : (x == ("__debug__" : Str)) = false := by decide) (he : starEach (e :: es) X.env = (false, eval e X.env) :: starEach es X.env := by rfl) (hpl : (backTo pos (starEach es X.env)).any (·.1) = false := by rfl) :
    PE X (.Call (.Name x p) (e :: es) [] pos) (fun σ H Q => t σ H fun vs H1 => sp (vs ++ dvs) H1 Q (E σ)) := ⟨fun pins s σ H Q I h =>
  wpAny_Call_Name_kw (ld_glob I hg hm (PySem.W.callWith_K (h₀ := X.base) I.ok.mod.kin hk (thn (ha.run pos pins s σ H _ I h) fun us s1 ⟨vs, H1, I1, r, q⟩ => ⟨I1.kIn, run_g F hgd hr hb hd (hx σ) I1 r q⟩) he hpl) hdb)⟩
section
variable {P : Program} {w : World} {K : PySem.W.Frag} {mg : Str → Option Value} {base : Heap}
open PyProof.Rows PySem.Spec in
/-- a def by its body -/
theorem fn_g {x qual : Str} {st : Stmt} {f : Addr} {fd : FuncData} {N ps : List Str} {k : Nat} {sp : Sp} (F : Fun K x qual st f fd) (Sc : FnScope N ps (defScope st)) (len : ∀ vs H Q E, sp vs H Q E → vs.length = ps.length)
    (hbody : ∀ (cdv : Value) (A : Around) (outer : List Env) (s : Shared) (H : Hp) (vs : List V) (Q : VK) (E : XK), A.guards = some [] → Room k (A.deeper (envOfC qual (defScope st) s.heap.objs.size f cdv)) → sp vs H Q E →
      ∃ t, PSs (cxOf (L2.CX P w) P w K mg base N qual (defScope st) f cdv A outer s H E) (defBody st) t ∧ t { nx := fun _ H' => Q .non H', rt := Q } (start N vs) H) : FnG P w K mg base (k + 1) f fd ps sp := by
  refine ⟨len, fun A outer s H args us vs Q E gd hr e0 hb r hsp => ?_⟩
  obtain ⟨oc, od, kV, doc, pm, an, cdv, ct, osl, rfl, lk, hcd⟩ := F.ex
  have kp := fun b o e => (e0.bs b o e).1
  have hk : ∀ y ∈ ps.zip us, (defScope st).names.lookup y.1 = some .local ∨ ((defScope st).names.lookup y.1 = some .cell ∧ ((cellsFrom (s.heap.objs.size + 1) (defScope st).names []).lookup y.1).isSome = true) := fun y hy =>
    (Sc.par y.1 (List.of_mem_zip (a := y.1) (b := y.2) hy).1).imp (fun q => q) fun q => ⟨q, PySem.W.cellsFrom_some _ _ _ (.inl q)⟩
  refine codeAny_call_function hr.depth (e0.mod.kin.keeps kp _ _ lk) rfl Sc.co Sc.gen rfl (PySem.W.codeRec_of (e0.mod.kin.keeps kp) hcd) (hb _ _ _ _ (wpAny_newFunctionEnv_cells Sc.kind hk fun env he s1 x => ?_))
  subst he
  obtain ⟨t, ht, hq⟩ := hbody cdv A outer s H vs Q E gd (hr.deeper _) hsp
  have I : Inv (cxOf (L2.CX P w) P w K mg base N qual (defScope st) f cdv A outer s H E) [] (start N vs) H s1 := inv_start Sc hr.hd e0 (len _ _ _ _ hsp) r x
  refine ⟨(e0.mod.nolimit.keeps kp).keeps x.toInCall.keep, codeAny_func (wpAny_mono (ht.run [] s1 (start N vs) H _ I hq) (fun fl s' hs => ?_) fun e s' hs => hs)⟩
  cases fl with
  | ret u =>
    obtain ⟨v, σ', H', J, rv, q⟩ := hs
    exact ⟨v, H', J.os, J.bare, J.base, J.hok, rv, q⟩
  | next =>
    obtain ⟨σ', H', J, q⟩ := hs
    exact ⟨.non, H', J.os, J.bare, J.base, J.hok, rfl, q⟩
  | brk => exact hs.elim fun _ h => h.elim fun _ h => h.2.elim
  | cont => exact hs.elim fun _ h => h.elim fun _ h => h.2.elim
/-- a def without a bag -/
theorem fnR {nr : Bool} {x qual : Str} {st : Stmt} {f : Addr} {fd : FuncData} {N ps : List Str} {k n : Nat} {g : List D → R D} (F : Fun K x qual st f fd) (Sc : FnScope N ps (defScope st)) (hn : ps.length = n) (hN : n ≤ N.length)
    (hb : ∀ (cdv : Value) (A : Around) (outer : List Env) (s : Shared) (H Hf : Hp) (E : XK) (ds : List D), Cok (cxOf (L2.CX P w) P w K mg base N qual (defScope st) f cdv A outer s H E) (fxE [] nr H Hf E) k → ds.length = n →
      ∃ body : R (Fl Unit Empty), PSs (cxOf (L2.CX P w) P w K mg base N qual (defScope st) f cdv A outer s H E) (defBody st)
        (tS (cxOf (L2.CX P w) P w K mg base N qual (defScope st) f cdv A outer s H E).K (cxOf (L2.CX P w) P w K mg base N qual (defScope st) f cdv A outer s H E).mg (fxE [] nr H Hf E) (G0 N ds) (fun _ => unG N) Empty.elim body) ∧ g ds = runR nr body) :
    FnG P w K mg base (k + 1) f fd ps (spR K mg nr n g) := by
  refine fn_g F Sc (fun vs H Q E h => h.1.trans hn.symm) (fun cdv A outer s H vs Q E gd hr h => ?_)
  obtain ⟨hl, Hf, ds, sb, l, q⟩ := h
  have C : Cok (cxOf (L2.CX P w) P w K mg base N qual (defScope st) f cdv A outer s H E) (fxE [] nr H Hf E) k := ⟨rfl, passes_of rfl, takes_of rfl rfl rfl rfl, hr, Sc.nd, gd⟩
  obtain ⟨body, hp, hg⟩ := hb cdv A outer s H Hf E ds C (l.len.trans hl)
  refine ⟨_, hp, Hf, ⟨0, 0, 0, [], false⟩, .init0 sb l (by omega), ?_⟩
  rw [hg] at q
  show R.wp body _ _ _
  cases body with
  | ok f =>
    cases f with
    | nx a =>
      cases nr with
      | true => exact (show False from q).elim
      | false => exact fun Hf' H' σ' _ st => q .non Hf' H' st.ste (rfl : V.non = V.non)
    | rt d => exact fun v Hf' H' st _ i => q v Hf' H' st i
    | bk b => exact b.elim
    | ct b => exact b.elim
  | ex e => exact fun cls dd σ' Hf' H' st x => q cls dd Hf' H' st.1 x
  | stuck => exact q
theorem fnM {nr : Bool} {x qual : Str} {st : Stmt} {f : Addr} {fd : FuncData} {N ps : List Str} {k n : Nat} {g : List D → M D} (F : Fun K x qual st f fd) (Sc : FnScope N ps (defScope st)) (hn : ps.length = n + 1) (hN : n + 1 ≤ N.length)
    (hb : ∀ (cdv : Value) (A : Around) (outer : List Env) (s : Shared) (H Hf : Hp) (bag : List Addr) (E : XK) (ds : List D), Cok (cxOf (L2.CX P w) P w K mg base N qual (defScope st) f cdv A outer s H E) (fxE bag nr H Hf E) k → ds.length = n →
      ∃ body : M (Fl Unit Empty), PSs (cxOf (L2.CX P w) P w K mg base N qual (defScope st) f cdv A outer s H E) (defBody st)
        (tS (cxOf (L2.CX P w) P w K mg base N qual (defScope st) f cdv A outer s H E).K (cxOf (L2.CX P w) P w K mg base N qual (defScope st) f cdv A outer s H E).mg (fxE bag nr H Hf E) (G1 N ds) (fun _ => unG N) Empty.elim body) ∧ g ds = runM nr body) :
    FnG P w K mg base (k + 1) f fd ps (spM K mg nr (n + 1) g) := by
  refine fn_g F Sc (fun vs H Q E h => h.1.trans hn.symm) (fun cdv A outer s H vs Q E gd hr h => ?_)
  obtain ⟨hl, bag, b, r, Hf, ds, vs', s0, eb, rfl, sb, hbb, bg, l, q⟩ := h
  have C : Cok (cxOf (L2.CX P w) P w K mg base N qual (defScope st) f cdv A outer s H E) (fxE bag nr H Hf E) k := ⟨rfl, passes_of rfl, takes_of rfl rfl rfl rfl, hr, Sc.nd, gd⟩
  have hl' : vs'.length = n := by simpa using hl
  obtain ⟨body, hp, hg⟩ := hb cdv A outer s H Hf bag E ds C (l.len.trans hl')
  refine ⟨_, hp, Hf, s0, .init1 eb sb hbb bg l (by omega), ?_⟩
  rw [hg] at q
  show (body s0).wp _ _
  have e : runM nr body s0 = (match body s0 with
    | .ok (.nx _) s => if nr = true then .stuck else .ok .non s
    | .ok (.rt d) s => .ok d s
    | .ok (.bk b) _ => b.elim
    | .ok (.ct b) _ => b.elim
    | .ex e s => .ex e s
    | .stuck => .stuck) := rfl
  rw [e] at q
  cases z : body s0 with
  | ok f s1 =>
    rw [z] at q
    cases f with
    | nx a =>
      cases nr with
      | true => exact (show False from q).elim
      | false => exact fun Hf' H' σ' _ st => q .non Hf' H' st.ste st.bag (rfl : V.non = V.non)
    | rt d => exact fun v Hf' H' st bg i => q v Hf' H' st bg i
    | bk b => exact b.elim
    | ct b => exact b.elim
  | ex e s1 => rw [z] at q; exact fun cls dd σ' Hf' H' st x => q cls dd Hf' H' st.1 st.2 x
  | stuck => rw [z] at q; exact q
end
section
variable {X : Cx} {fx : Fx} {m : Type → Type} [Mo m] {G : List Sl} {es : List Expr} {pos : Pos} {ys : m (List D)} {kk j n : Nat} {g : List D → R D} {f : Addr} {fd : FuncData} {ps : List Str} {nm : Str} {p : Pos} {e : Expr}
/-- a call of a def without a bag -/
theorem fn_core {vs : List V} {ds : List D} {Hf : Hp} {s : S} {σ : L2.St} {H : Hp} {Q : VK} (hn : vs.length = n) (r : IsL X.K X.mg Hf ds vs) (h : tX X.K X.mg fx G (fun H d v => Is X.K X.mg H d v) (Mo.lift (g ds) : m D) Hf s σ H Q) : spR X.K X.mg false n g vs H Q (WE fx.W σ) := by
  have w := Mo.wp_lift h.2
  refine ⟨hn, Hf, ds, h.1.top, r, ?_⟩
  cases z : g ds with
  | ok d => rw [z] at w; exact fun v Hf' H' st i => w v Hf' H' st.wide (st.bag h.1.bag) i
  | ex e => rw [z] at w; exact fun cls dd Hf' H' st x => w cls dd Hf' H' (h.1.step st.wide (st.bag h.1.bag)) x
  | stuck => rw [z] at w; exact w
theorem de_fn (C : Cok X fx kk) (F : FnG X.prog X.w X.K X.mg X.base j f fd ps (spR X.K X.mg false n g)) (hm : X.mg nm = some (.ref f)) (hk : PySem.W.keepIn X.K (.ref f) = true) (hb : Binds X.K fd ps []) (ha : PA X (e :: es) (tA X.K X.mg fx G ys)) (hn : ∀ ds : List D, g ds ≠ .stuck → ds.length = n)
    (hj : j ≤ kk := by decide) (hg : Gl X nm := by rfl) (hdb : (nm == ("__debug__" : Str)) = false := by decide) (he : starEach (e :: es) X.env = (false, eval e X.env) :: starEach es X.env := by rfl) (hpl : (backTo pos (starEach es X.env)).any (·.1) = false := by rfl) :
    PE X (.Call (.Name nm p) (e :: es) [] pos) (tE X.K X.mg fx G (do let ds ← ys; Mo.lift (g ds))) := peI (pe_callG (E := WE fx.W) F C.gd (C.rm.mono hj) hg hm hk hb .nil (fun σ => passAt C.tk σ) ha hdb he hpl) fun σ H Q ⟨Hf, s, h⟩ =>
  (h.bind.mono fun vs H1 ⟨ds, Hf1, s1, sb, r, h1⟩ => by
    rw [List.append_nil]
    exact fn_core (by
    have w := Mo.wp_lift h1.2
    rw [← r.len]
    refine hn ds fun z => ?_
    rw [z] at w
    exact w) r h1).to
end
section
variable {X : Cx} {fx : Fx} {G : List Sl} {es : List Expr} {pos : Pos} {ys : M (List D)} {kk j n : Nat} {g : List D → M D} {f : Addr} {fd : FuncData} {ps : List Str} {nm bn : Str} {p bp : Pos}
/-- a call of a def with the bag -/
theorem de_fnM (C : Cok X fx kk) (i : Nat) (F : FnG X.prog X.w X.K X.mg X.base j f fd ps (spM X.K X.mg false (n + 1) g)) (hm : X.mg nm = some (.ref f)) (hk : PySem.W.keepIn X.K (.ref f) = true) (hb : Binds X.K fd ps []) (ha : PA X es (tA X.K X.mg fx G ys)) (hn : ∀ ds s, g ds s ≠ .stuck → ds.length = n)
    (hG : G[i]? = some .bg := by rfl) (hN : X.N[i]? = some bn := by rfl) (hv : Vis X.env.scope bn := by first | exact Or.inl rfl | exact Or.inr (Or.inl rfl) | exact Or.inr (Or.inr rfl))
    (hj : j ≤ kk := by decide) (hg : Gl X nm := by rfl) (hdb : (nm == ("__debug__" : Str)) = false := by decide) (he : starEach (.Name bn bp :: es) X.env = (false, eval (.Name bn bp) X.env) :: starEach es X.env := by rfl) (hpl : (backTo pos (starEach es X.env)).any (·.1) = false := by rfl)
    (hd : (bn == ("__debug__" : Str)) = false := by decide) (hcd : (bn == ("__classdict__" : Str)) = false := by decide) :
    PE X (.Call (.Name nm p) (.Name bn bp :: es) [] pos) (tE X.K X.mg fx G (do let ds ← ys; g ds)) :=
  peI (pe_callG (E := WE fx.W) F C.gd (C.rm.mono hj) hg hm hk hb .nil (fun σ => passAt C.tk σ) (pa_cons (pe_var hN hv hd hcd) ha he) hdb he hpl) fun σ H Q ⟨Hf, s, h⟩ => by
    obtain ⟨b, r, eb, ev⟩ := h.1.sl i _ hG
    refine ⟨.ref b, ev, (h.bind.mono fun vs H1 ⟨ds, Hf1, s1, sb, rl, h1⟩ => ?_).to⟩
    show spM X.K X.mg false (n + 1) g ((.ref b :: vs) ++ []) H1 Q (WE fx.W σ)
    rw [List.append_nil]
    have w : (g ds s1).wp _ _ := h1.2
    have hlen : ds.length = n := hn ds s1 fun z => by rw [z] at w; exact w
    refine ⟨by rw [List.length_cons, ← rl.len, hlen], fx.bag, b, r, Hf1, ds, vs, s1, eb, rfl, h1.1.top, h1.1.bagf, h1.1.bag, rl, ?_⟩
    cases z : g ds s1 with
    | ok d s' => rw [z] at w; exact fun v Hf' H' st bg i => w v Hf' H' st bg i
    | ex e s' => rw [z] at w; exact fun cls dd Hf' H' st bg x => w cls dd Hf' H' (h1.1.step st bg) x
    | stuck => rw [z] at w; exact w
end
end DL
namespace DL
open PySem L2
/-! ### plain data -/
mutual
def toPy : D → Option PyData
  | .non => some .none
  | .bl b => some (.bool b)
  | .int i => some (.int i)
  | .str s => some (.str ⟨s.toArray⟩)
  | .tup ds => (toPyL ds).map .tuple
  | .lst ds => (toPyL ds).map .list
  | _ => none
def toPyL : List D → Option (List PyData)
  | [] => some []
  | d :: ds => do
    let x ← toPy d
    let xs ← toPyL ds
    return x :: xs
end
section
variable {K : PySem.W.Frag} {mg : Str → Option Value}
mutual
theorem Is.dp {H : Hp} : ∀ {d : D} {v : V} {p : PyData}, Is K mg H d v → toPy d = some p → Dp K H v p
  | .non, _, _, h, e => by cases e; cases h; exact .non
  | .bl b, _, _, h, e => by cases e; cases h; exact .bl b
  | .int i, _, _, h, e => by cases e; cases h; exact .int i
  | .str s, _, _, h, e => by cases e; cases h.1; exact .str _
  | .tup ds, _, _, h, e => by
    obtain ⟨_, a, vs, rfl, t, l⟩ := h
    unfold toPy at e
    cases q : toPyL ds with
    | none => rw [q] at e; cases e
    | some ps => rw [q] at e; cases e; exact .tup t (IsL.dp l q)
  | .lst ds, _, _, h, e => by
    obtain ⟨_, a, vs, rfl, t, l⟩ := h
    unfold toPy at e
    cases q : toPyL ds with
    | none => rw [q] at e; cases e
    | some ps => rw [q] at e; cases e; exact .lst (.inl (.inl t)) (IsL.dp l q)
  | .dic _ _, _, _, h, e => by unfold toPy at e; cases e
  | .ins _ _ _, _, _, h, e => by unfold toPy at e; cases e
  | .scr _, _, _, h, e => by unfold toPy at e; cases e
  | .xc _ _ _ _, _, _, h, e => by unfold toPy at e; cases e
theorem IsL.dp {H : Hp} : ∀ {ds : List D} {vs : List V} {ps : List PyData}, IsL K mg H ds vs → toPyL ds = some ps → DpAll K H vs ps
  | [], _, _, h, e => by cases h; unfold toPyL at e; cases e; exact .nil
  | d :: ds, _, _, h, e => by
    obtain ⟨v, r, rfl, i, l⟩ := h
    unfold toPyL at e
    cases q : toPy d with
    | none => rw [q] at e; cases e
    | some x =>
      cases q2 : toPyL ds with
      | none => rw [q, q2] at e; cases e
      | some xs => rw [q, q2] at e; cases e; exact .cons (Is.dp i q) (IsL.dp l q2)
end
end
/-- == of plain data -/
def eqS (a b : D) : Option Bool := match toPy a, toPy b with
  | some x, some y => if SeqAt.shaped x && SeqAt.shaped y then some (PyData.eqv x y) else none
  | _, _ => none
def eqP : D → D → Option Bool
  | .str x, .str y => some (decide (x = y))
  | .int x, .int y => some (decide (x = y))
  | .bl x, .bl y => some (decide (x = y))
  | .non, .non => some true
  | a, b => eqS a b
def eqD (a b : D) : Option D := (eqP a b).map .bl
def neD (a b : D) : Option D := (eqP a b).map fun x => .bl (!x)
def addD : D → D → Option D
  | .int i, .int j => some (.int (i + j))
  | .str a, .str b => if a.length + b.length ≤ sizeLine then some (.str (a ++ b)) else none
  | .lst a, .lst b => if a.length + b.length ≤ sizeLine then some (.lst (a ++ b)) else none
  | .tup a, .tup b => if a.length + b.length ≤ sizeLine then some (.tup (a ++ b)) else none
  | _, _ => none
def subD : D → D → Option D
  | .int i, .int j => some (.int (i - j))
  | _, _ => none
def mulD : D → D → Option D
  | .int i, .int j => if i.natAbs.log2 + j.natAbs.log2 < 1000000 then some (.int (i * j)) else none
  | .str a, .int k => if 0 ≤ k ∧ k < 1000000 ∧ a.length * k.toNat ≤ 1000000 then some (.str (List.replicate k.toNat a).flatten) else none
  | .lst a, .int k => if 0 ≤ k ∧ k < 1000000 ∧ a.length * k.toNat ≤ 1000000 then some (.lst (List.replicate k.toNat a).flatten) else none
  | _, _ => none
def fdivD : D → D → Option D
  | .int i, .int j => if 0 < j ∧ j.natAbs.log2 < 9000 then some (.int (i / j)) else none
  | _, _ => none
def modD : D → D → Option D
  | .int i, .int j => if 0 < j then some (.int (i % j)) else none
  | _, _ => none
/-- < of data that are alike -/
def ltP (a b : D) : Option Bool := match toPy a, toPy b with
  | some x, some y => if PySem.W.alike x y && decide (x.depth ≤ 60) && (isNonP x == false) then some (PySem.W.dataLt x y) else none
  | _, _ => none
where isNonP : PyData → Bool
  | .none => true
  | _ => false
def ltD : D → D → Option D
  | .int i, .int j => some (.bl (decide (i < j)))
  | .str a, .str b => some (.bl (decide (a < b)))
  | a, b => (ltP a b).map .bl
def leD : D → D → Option D
  | .int i, .int j => some (.bl (decide (i ≤ j)))
  | a, b => (leP a b).map .bl
where leP (a b : D) : Option Bool := match toPy a, toPy b with
  | some x, some y => if PySem.W.alike x y && decide (x.depth ≤ 60) && (ltP.isNonP x == false) then some (!PySem.W.dataLt y x) else none
  | _, _ => none
def gtD : D → D → Option D
  | .int i, .int j => some (.bl (decide (j < i)))
  | a, b => (gtP a b).map .bl
where gtP (a b : D) : Option Bool := match toPy a, toPy b with
  | some x, some y => if PySem.W.alike x y && decide (x.depth ≤ 60) && (ltP.isNonP x == false) then some (PySem.W.dataLt y x) else none
  | _, _ => none
def geD : D → D → Option D
  | .int i, .int j => some (.bl (decide (j ≤ i)))
  | a, b => (geP a b).map .bl
where geP (a b : D) : Option Bool := match toPy a, toPy b with
  | some x, some y => if PySem.W.alike x y && decide (x.depth ≤ 60) && (ltP.isNonP x == false) then some (!PySem.W.dataLt x y) else none
  | _, _ => none
def isNone : D → Option Bool
  | .non => some true
  | .bl _ => some false
  | .int _ => some false
  | .str _ => some false
  | .tup _ => some false
  | .lst _ => some false
  | .dic _ _ => some false
  | .ins _ _ _ => some false
  | .scr _ => some false
  | .xc _ _ _ _ => some false
/-- is: of None, of truth values -/
def isD : D → D → Option D
  | a, .non => (isNone a).map .bl
  | .bl a, .bl b => some (.bl (decide (a = b)))
  | _, _ => none
def isNotD : D → D → Option D
  | a, .non => (isNone a).map fun x => .bl (!x)
  | .bl a, .bl b => some (.bl (!decide (a = b)))
  | _, _ => none
/-- x in y -/
def inP : D → D → Option Bool
  | .str [c], .str z => some (decide (c ∈ z))
  | d, .lst ds => match toPy d, toPy (.lst ds) with
    | some x, some (.list ys) => if SeqAt.shaped x && SeqAt.shaped (.list ys) then some (ys.any fun z => PyData.eqv z x) else none
    | _, _ => none
  | d, .tup ds => match toPy d, toPy (.tup ds) with
    | some x, some (.tuple ys) => if SeqAt.shaped x && SeqAt.shaped (.tuple ys) then some (ys.any fun z => PyData.eqv z x) else none
    | _, _ => none
  | _, _ => none
def inD (a b : D) : Option D := (inP a b).map .bl
def notInD (a b : D) : Option D := (inP a b).map fun x => .bl (!x)
section
variable {X : Cx}
theorem str_tl (s : List Nat) : (⟨s.toArray⟩ : Str).cps.toList = s := by simp
theorem str_len (s : List Nat) : (⟨s.toArray⟩ : Str).length = s.length := by
  show s.toArray.size = s.length
  simp
theorem str_app (a b : List Nat) : (⟨a.toArray⟩ ++ ⟨b.toArray⟩ : Str) = ⟨(a ++ b).toArray⟩ := by
  show (⟨a.toArray ++ b.toArray⟩ : Str) = _
  simp
theorem dec_str {a b : List Nat} : decide (V.str ⟨a.toArray⟩ = V.str ⟨b.toArray⟩) = decide (a = b) := by
  by_cases h : a = b
  · subst h; simp
  · rw [decide_eq_false h, decide_eq_false]
    intro z
    apply h
    have z1 : (⟨a.toArray⟩ : Str) = ⟨b.toArray⟩ := V.str.inj z
    have z2 : a.toArray = b.toArray := Str.mk.inj z1
    simpa using z2
theorem eq_core (hu : X.A.units + 64 < cLine) {pins : List (Addr × Obj)} {s : Shared} {σ : L2.St} {H : Hp} {x y : V} {v u : Value} (I : Inv X pins σ H s) (rx : RelV x v) (ry : RelV y u) {Hf : Hp} {dx dy : D} {b : Bool} (sb : Sub Hf H) (ix : Is X.K X.mg Hf dx x) (iy : Is X.K X.mg Hf dy y) (e : eqP dx dy = some b) :
    (∀ Q : VK, Q (.bl b) H → wpAny (model X.prog X.w) X.A (compareOp .Eq v u) (EP X pins σ Q) X.xe s) ∧ (∀ Q : VK, Q (.bl (!b)) H → wpAny (model X.prog X.w) X.A (compareOp .NotEq v u) (EP X pins σ Q) X.xe s) := by
  unfold eqP at e
  split at e
  · obtain ⟨rfl, _⟩ := ix
    obtain ⟨rfl, _⟩ := iy
    cases e
    exact ⟨fun Q q => op_eq pins s σ H _ _ v u Q I rx ry ⟨rfl, by rw [dec_str]; exact q⟩, fun Q q => op_ne pins s σ H _ _ v u Q I rx ry ⟨rfl, by rw [dec_str]; exact q⟩⟩
  · cases ix; cases iy; cases e
    refine ⟨fun Q q => op_eq pins s σ H _ _ v u Q I rx ry ⟨rfl, ?_⟩, fun Q q => op_ne pins s σ H _ _ v u Q I rx ry ⟨rfl, ?_⟩⟩ <;> simpa using q
  · cases ix; cases iy; cases e
    refine ⟨fun Q q => op_eq pins s σ H _ _ v u Q I rx ry ⟨rfl, ?_⟩, fun Q q => op_ne pins s σ H _ _ v u Q I rx ry ⟨rfl, ?_⟩⟩ <;> simpa using q
  · cases ix; cases iy; cases e
    exact ⟨fun Q q => op_eq pins s σ H _ _ v u Q I rx ry ⟨rfl, by simpa using q⟩, fun Q q => op_ne pins s σ H _ _ v u Q I rx ry ⟨rfl, by simpa using q⟩⟩
  · unfold eqS at e
    cases e1 : toPy dx with
    | none => rw [e1] at e; cases e
    | some p1 =>
      cases e2 : toPy dy with
      | none => rw [e1, e2] at e; cases e
      | some p2 =>
        rw [e1, e2] at e
        by_cases c : (SeqAt.shaped p1 && SeqAt.shaped p2) = true
        · simp only [c, if_true, Option.some.injEq] at e
          subst e
          rw [Bool.and_eq_true] at c
          exact ⟨fun Q q => op_eqD hu pins s σ H x y v u Q I rx ry ⟨p1, p2, (ix.mono sb).dp e1, (iy.mono sb).dp e2, c.1, c.2, q⟩, fun Q q => op_neD hu pins s σ H x y v u Q I rx ry ⟨p1, p2, (ix.mono sb).dp e1, (iy.mono sb).dp e2, c.1, c.2, q⟩⟩
        · simp only [c, if_false] at e
          cases e
theorem od_eq (hu : X.A.units + 64 < cLine) : OpR X (compareOp .Eq) (rD2 X.K X.mg eqD) := by
  intro pins s σ H x y v u Q I rx ry h
  obtain ⟨Hf, dx, dy, d, sb, ix, iy, e, q⟩ := h
  unfold eqD at e
  cases e1 : eqP dx dy with
  | none => rw [e1] at e; cases e
  | some b => rw [e1] at e; cases e; exact (eq_core hu I rx ry sb ix iy e1).1 Q (q _ Hf H (.refl sb) (by cases b <;> rw [Is]))
theorem od_ne (hu : X.A.units + 64 < cLine) : OpR X (compareOp .NotEq) (rD2 X.K X.mg neD) := by
  intro pins s σ H x y v u Q I rx ry h
  obtain ⟨Hf, dx, dy, d, sb, ix, iy, e, q⟩ := h
  unfold neD at e
  cases e1 : eqP dx dy with
  | none => rw [e1] at e; cases e
  | some b => rw [e1] at e; cases e; exact (eq_core hu I rx ry sb ix iy e1).2 Q (q _ Hf H (.refl sb) (by cases b <;> rw [Is]))
theorem od_add : OpR X (binaryOp .Add) (rD2 X.K X.mg addD) := by
  intro pins s σ H x y v u Q I rx ry h
  obtain ⟨Hf, dx, dy, d, sb, ix, iy, e, q⟩ := h
  unfold addD at e
  split at e
  · cases e; cases ix; cases iy
    exact op_add pins s σ H _ _ v u Q I rx ry ⟨_, _, rfl, rfl, q _ Hf H (.refl sb) (by rw [Is])⟩
  · split at e
    · rename_i a b hz
      cases e; cases ix.1; cases iy.1
      exact op_add_str pins s σ H _ _ v u Q I rx ry ⟨_, _, rfl, rfl, by rw [str_len, str_len]; exact hz, q _ Hf H (.refl sb) (by rw [Is, str_app]; exact ⟨rfl, by rw [List.length_append]; exact hz⟩)⟩
    · cases e
  · split at e
    · rename_i a b hz
      cases e
      obtain ⟨z1, p1, v1, rfl, h1, l1⟩ := ix
      obtain ⟨z2, p2, v2, rfl, h2, l2⟩ := iy
      refine op_cat pins s σ H _ _ v u Q I rx ry ⟨_, _, _, _, rfl, rfl, sb _ _ h1, sb _ _ h2, by rw [← l1.len, ← l2.len]; exact hz, fun p hp => q _ _ _ (.new sb hp) ?_⟩
      exact ⟨by rw [List.length_append]; exact hz, p, _, rfl, upd_same, (l1.app l2).mono (Ste.new (bag := []) sb hp).sub⟩
    · cases e
  · split at e
    · rename_i a b hz
      cases e
      obtain ⟨z1, p1, v1, rfl, h1, l1⟩ := ix
      obtain ⟨z2, p2, v2, rfl, h2, l2⟩ := iy
      refine op_catA pins s σ H _ _ v u Q I rx ry ⟨_, _, _, _, rfl, rfl, sb.sqt h1, sb.sqt h2, by rw [← l1.len, ← l2.len]; exact hz, fun z => ?_, fun z3 z4 => ?_, fun _ _ p hp => q _ _ _ (.new sb hp) ?_⟩
      · subst z
        have := l1.len
        have ea : a = [] := List.eq_nil_of_length_eq_zero (by simpa using this)
        subst ea
        exact q _ _ _ (.refl sb) ⟨z2, p2, v2, rfl, h2, l2⟩
      · subst z4
        have := l2.len
        have eb : b = [] := List.eq_nil_of_length_eq_zero (by simpa using this)
        subst eb
        rw [List.append_nil] at q
        exact q _ _ _ (.refl sb) ⟨z1, p1, v1, rfl, h1, l1⟩
      · exact ⟨by rw [List.length_append]; exact hz, p, _, rfl, .inl (.inl upd_same), (l1.app l2).mono (Ste.new (bag := []) sb hp).sub⟩
    · cases e
  · cases e
theorem od_sub : OpR X (binaryOp .Sub) (rD2 X.K X.mg subD) := by
  intro pins s σ H x y v u Q I rx ry h
  obtain ⟨Hf, dx, dy, d, sb, ix, iy, e, q⟩ := h
  unfold subD at e
  split at e
  · cases e; cases ix; cases iy
    exact op_sub pins s σ H _ _ v u Q I rx ry ⟨_, _, rfl, rfl, q _ Hf H (.refl sb) (by rw [Is])⟩
  · cases e
theorem od_fdiv : OpR X (binaryOp .FloorDiv) (rD2 X.K X.mg fdivD) := by
  intro pins s σ H x y v u Q I rx ry h
  obtain ⟨Hf, dx, dy, d, sb, ix, iy, e, q⟩ := h
  unfold fdivD at e
  split at e
  · split at e
    · rename_i hz
      cases e; cases ix; cases iy
      exact op_fdivW pins s σ H _ _ v u Q I rx ry ⟨_, _, rfl, rfl, hz, q _ Hf H (.refl sb) (by rw [Is])⟩
    · cases e
  · cases e
theorem od_mod : OpR X (binaryOp .Mod) (rD2 X.K X.mg modD) := by
  intro pins s σ H x y v u Q I rx ry h
  obtain ⟨Hf, dx, dy, d, sb, ix, iy, e, q⟩ := h
  unfold modD at e
  split at e
  · split at e
    · rename_i hz
      cases e; cases ix; cases iy
      exact op_mod pins s σ H _ _ v u Q I rx ry ⟨_, _, rfl, rfl, hz, q _ Hf H (.refl sb) (by rw [Is])⟩
    · cases e
  · cases e
theorem od_lt (hu : X.A.units + 64 < cLine) : OpR X (compareOp .Lt) (rD2 X.K X.mg ltD) := by
  intro pins s σ H x y v u Q I rx ry h
  obtain ⟨Hf, dx, dy, d, sb, ix, iy, e, q⟩ := h
  unfold ltD at e
  split at e
  · cases e; cases ix; cases iy
    exact op_lt pins s σ H _ _ v u Q I rx ry ⟨_, _, rfl, rfl, q _ Hf H (.refl sb) (by rw [Is])⟩
  · cases e; cases ix.1; cases iy.1
    refine op_lt_str pins s σ H _ _ v u Q I rx ry ⟨_, _, rfl, rfl, ?_⟩
    rw [str_tl, str_tl]
    exact q _ Hf H (.refl sb) (by rw [Is])
  · cases e1 : ltP dx dy with
    | none => rw [e1] at e; cases e
    | some b =>
      rw [e1] at e; cases e
      unfold ltP at e1
      split at e1
      · rename_i p1 p2 f1 f2
        split at e1
        · rename_i hc
          cases e1
          simp only [Bool.and_eq_true, decide_eq_true_eq, beq_iff_eq] at hc
          obtain ⟨as, r1⟩ := Dp.reads I p1 x v ((ix.mono sb).dp f1) rx
          obtain ⟨bs, r2⟩ := Dp.reads I p2 y u ((iy.mono sb).dp f2) ry
          have hm : X.A.units + min p1.depth p2.depth < cLine := by
            have := Nat.min_le_left p1.depth p2.depth
            omega
          exact PySem.W.lt_data r1 r2 hc.1.1 (fun z => by rw [z] at hc; exact Bool.noConfusion hc.2) hm ⟨.bl _, H, I, rfl, q _ Hf H (.refl sb) (by cases (PySem.W.dataLt p1 p2) <;> cases (PySem.W.dataLt p2 p1) <;> rw [Is])⟩
        · cases e1
      · cases e1
theorem od_le (hu : X.A.units + 64 < cLine) : OpR X (compareOp .LtE) (rD2 X.K X.mg leD) := by
  intro pins s σ H x y v u Q I rx ry h
  obtain ⟨Hf, dx, dy, d, sb, ix, iy, e, q⟩ := h
  unfold leD at e
  split at e
  · cases e; cases ix; cases iy
    exact op_le pins s σ H _ _ v u Q I rx ry ⟨_, _, rfl, rfl, q _ Hf H (.refl sb) (by rw [Is])⟩
  · cases e1 : leD.leP dx dy with
    | none => rw [e1] at e; cases e
    | some b =>
      rw [e1] at e; cases e
      unfold leD.leP at e1
      split at e1
      · rename_i p1 p2 f1 f2
        split at e1
        · rename_i hc
          cases e1
          simp only [Bool.and_eq_true, decide_eq_true_eq, beq_iff_eq] at hc
          obtain ⟨as, r1⟩ := Dp.reads I p1 x v ((ix.mono sb).dp f1) rx
          obtain ⟨bs, r2⟩ := Dp.reads I p2 y u ((iy.mono sb).dp f2) ry
          have hm : X.A.units + min p1.depth p2.depth < cLine := by
            have := Nat.min_le_left p1.depth p2.depth
            omega
          exact PySem.W.le_data r1 r2 hc.1.1 (fun z => by rw [z] at hc; exact Bool.noConfusion hc.2) hm ⟨.bl _, H, I, rfl, q _ Hf H (.refl sb) (by cases (PySem.W.dataLt p1 p2) <;> cases (PySem.W.dataLt p2 p1) <;> rw [Is])⟩
        · cases e1
      · cases e1
theorem od_gt (hu : X.A.units + 64 < cLine) : OpR X (compareOp .Gt) (rD2 X.K X.mg gtD) := by
  intro pins s σ H x y v u Q I rx ry h
  obtain ⟨Hf, dx, dy, d, sb, ix, iy, e, q⟩ := h
  unfold gtD at e
  split at e
  · cases e; cases ix; cases iy
    exact op_gt pins s σ H _ _ v u Q I rx ry ⟨_, _, rfl, rfl, q _ Hf H (.refl sb) (by rw [Is])⟩
  · cases e1 : gtD.gtP dx dy with
    | none => rw [e1] at e; cases e
    | some b =>
      rw [e1] at e; cases e
      unfold gtD.gtP at e1
      split at e1
      · rename_i p1 p2 f1 f2
        split at e1
        · rename_i hc
          cases e1
          simp only [Bool.and_eq_true, decide_eq_true_eq, beq_iff_eq] at hc
          obtain ⟨as, r1⟩ := Dp.reads I p1 x v ((ix.mono sb).dp f1) rx
          obtain ⟨bs, r2⟩ := Dp.reads I p2 y u ((iy.mono sb).dp f2) ry
          have hm : X.A.units + min p1.depth p2.depth < cLine := by
            have := Nat.min_le_left p1.depth p2.depth
            omega
          exact PySem.W.gt_data r1 r2 hc.1.1 (fun z => by rw [z] at hc; exact Bool.noConfusion hc.2) hm ⟨.bl _, H, I, rfl, q _ Hf H (.refl sb) (by cases (PySem.W.dataLt p1 p2) <;> cases (PySem.W.dataLt p2 p1) <;> rw [Is])⟩
        · cases e1
      · cases e1
theorem od_ge (hu : X.A.units + 64 < cLine) : OpR X (compareOp .GtE) (rD2 X.K X.mg geD) := by
  intro pins s σ H x y v u Q I rx ry h
  obtain ⟨Hf, dx, dy, d, sb, ix, iy, e, q⟩ := h
  unfold geD at e
  split at e
  · cases e; cases ix; cases iy
    exact op_ge pins s σ H _ _ v u Q I rx ry ⟨_, _, rfl, rfl, q _ Hf H (.refl sb) (by rw [Is])⟩
  · cases e1 : geD.geP dx dy with
    | none => rw [e1] at e; cases e
    | some b =>
      rw [e1] at e; cases e
      unfold geD.geP at e1
      split at e1
      · rename_i p1 p2 f1 f2
        split at e1
        · rename_i hc
          cases e1
          simp only [Bool.and_eq_true, decide_eq_true_eq, beq_iff_eq] at hc
          obtain ⟨as, r1⟩ := Dp.reads I p1 x v ((ix.mono sb).dp f1) rx
          obtain ⟨bs, r2⟩ := Dp.reads I p2 y u ((iy.mono sb).dp f2) ry
          have hm : X.A.units + min p1.depth p2.depth < cLine := by
            have := Nat.min_le_left p1.depth p2.depth
            omega
          exact PySem.W.ge_data r1 r2 hc.1.1 (fun z => by rw [z] at hc; exact Bool.noConfusion hc.2) hm ⟨.bl _, H, I, rfl, q _ Hf H (.refl sb) (by cases (PySem.W.dataLt p1 p2) <;> cases (PySem.W.dataLt p2 p1) <;> rw [Is])⟩
        · cases e1
      · cases e1
end
end DL
namespace DL
open PySem L2
/-! ### a new list -/
section
variable (K : PySem.W.Frag) (mg : Str → Option Value) (fx : Fx)
def FrQ (Hf H : Hp) (Q : VK) : List D → S → Prop := fun ds s' => ∀ p vs Hf' H', Ste fx.bag Hf H Hf' H' → BagAt fx.bag H' s' → H' p = some (.lst vs) → Hf' p = none → H p = none → IsL K mg Hf' ds vs → ds.length ≤ sizeLine → Q (.ref p) H'
def tF (G : List Sl) {m : Type → Type} [Mo m] (x : m (List D)) : TE := fun σ H Q => ∃ Hf s, StS K mg fx Hf H σ G s ∧ Mo.wp x s (FrQ K mg fx Hf H Q) (EX K mg fx G σ)
end
def mkL {m : Type → Type} [Mo m] (x : m (List D)) : m D := do
  let ds ← x
  pure (.lst ds)
/-- not too long -/
def szL (ds : List D) : Option (List D) := if ds.length ≤ sizeLine then some ds else none
theorem Ste.upd {bag : List Addr} {Hf H Hf' H' : Hp} (e : Ste bag Hf H Hf' H') {p : Addr} {o : HO} (hp : H p = none) (hf : Hf' p = none) : Ste bag Hf H Hf' (L2.upd H' p o) := by
  refine ⟨e.sub, fun a u q => ?_, fun a u q n => ?_, fun a n => ?_, e.fresh⟩
  · have ne : a ≠ p := fun z => by rw [z, hf] at q; cases q
    rw [upd_ne ne]; exact e.top a u q
  · have ne : a ≠ p := fun z => by rw [z, hp] at q; cases q
    rw [upd_ne ne]; exact e.keep a u q n
  · by_cases c : a = p
    · rw [c, upd_same]; simp
    · rw [upd_ne c]; exact e.dom a n
section
variable {K : PySem.W.Frag} {mg : Str → Option Value} {fx : Fx} {Hf H : Hp} {σ : L2.St} {G : List Sl} {s : S}
theorem StS.other (st : StS K mg fx Hf H σ G s) {p : Addr} {o : HO} (hf : Hf p = none) (h0 : fx.H0 p = none) (nb : p ∉ fx.bag) (no : ∀ (j : Nat) (q : Addr), σ[j]? = some (some (.ref q)) → (∀ x, G[j]? = some x → isOw x = true → q ≠ p)) : StS K mg fx Hf (upd H p o) σ G s := by
  refine ⟨st.ste.upd h0 hf, st.bag.upd nb, fun b m => ⟨(st.bagg b m).1, ?_, (st.bagg b m).2.2⟩, st.len, fun j x ex => ?_, st.dis⟩
  · have ne : b ≠ p := fun z => st.owNb h0 nb (z ▸ m)
    rw [upd_ne ne]; exact (st.bagg b m).2.1
  · exact (st.sl j x ex).upd fun q o e => no j q e x ex o
end
section
variable {X : Cx} {fx : Fx} {m : Type → Type} [Mo m] {G : List Sl} {e : Expr}
theorem de_frz {x : m (List D)} (h : PE X e (tF X.K X.mg fx G x)) : PE X e (tE X.K X.mg fx G (mkL x)) := peI h fun σ H Q ⟨Hf, s, st, w⟩ =>
  ⟨Hf, s, st, Mo.wp_mono (Mo.wp_bind w) (fun ds s' k p vs Hf' H' e bg hp hf hn l hz => by
    have k' := Mo.wp_pure k
    have sb : Sub Hf' (upd Hf' p (.lst vs)) := fun a o q => by
      have ne : a ≠ p := fun z => by rw [z, hf] at q; cases q
      rw [upd_ne ne]; exact q
    refine k' (.ref p) (upd Hf' p (.lst vs)) H' ⟨e.sub.trans sb, fun a o q => ?_, e.keep, e.dom, fun a o q => ?_⟩ bg ⟨hz, p, vs, rfl, upd_same, l.mono sb⟩
    · by_cases c : a = p
      · subst c; rw [upd_same] at q; cases q; exact hp
      · rw [upd_ne c] at q; exact e.top a o q
    · by_cases c : a = p
      · subst c; exact .inr hn
      · rw [upd_ne c] at q; exact e.fresh a o q) fun e s' k => k⟩
/-- what a new list's rule wants -/
theorem frq_new {Hf H : Hp} {σ : L2.St} {s : S} {ds : List D} {vs : List V} {Q : VK} (st : StS X.K X.mg fx Hf H σ G s) {Hf0 H0 : Hp} (e : Ste fx.bag Hf0 H0 Hf H) (h : FrQ X.K X.mg fx Hf0 H0 Q ds s) (l : IsL X.K X.mg Hf ds vs) (hz : ds.length ≤ sizeLine) (p : Addr) (hp : H p = none) : Q (.ref p) (upd H p (.lst vs)) := by
  have hn : H0 p = none := by
    cases q : H0 p with
    | none => rfl
    | some o => exact absurd hp (e.dom p (by rw [q]; simp))
  obtain ⟨_, nb, hf⟩ := st.new0 hp
  exact h p vs Hf _ (e.upd hn hf) (st.bag.upd nb) upd_same hf hn l hz
/-- [a, b, ..] -/
theorem df_list {es : List Expr} {pos : Pos} {ys : m (List D)} (h : PA X es (tA X.K X.mg fx G ys)) : PE X (.List es pos) (tF X.K X.mg fx G (do let ds ← ys; ask (szL ds))) := peI (pe_lst h) fun σ H Q ⟨Hf, s, st, w⟩ =>
  ⟨Hf, s, st, Mo.wp_mono (Mo.wp_bind w) (fun ds s1 k vs Hf1 H1 e bg l => by
    have k' := Mo.wp_lift k
    by_cases hz : ds.length ≤ sizeLine
    · have e1 : szL ds = some ds := if_pos hz
      rw [e1] at k'
      exact ⟨by rw [← l.len]; exact hz, fun p hp => frq_new (st.step e bg) e k' l hz p hp⟩
    · have e1 : szL ds = none := if_neg hz
      rw [e1] at k'
      exact k'.elim) fun e s' k => k⟩
/-- (a, b, ..) -/
theorem de_tup {es : List Expr} {pos : Pos} {x1 : Nat} {ys : m (List D)} (h : PA X es (tA X.K X.mg fx G ys)) : PE X (.Tuple es x1 pos) (tE X.K X.mg fx G (do let ds ← ys; let ds ← ask (szL ds); pure (.tup ds))) := peI (pe_tup h) fun σ H Q ⟨Hf, s, h⟩ =>
  (h.bind.mono fun vs H1 ⟨ds, Hf1, s1, sb, l, h1⟩ => by
    have k' := Mo.wp_lift (Mo.wp_bind h1.2)
    by_cases hz : ds.length ≤ sizeLine
    · have e1 : szL ds = some ds := if_pos hz
      rw [e1] at k'
      refine ⟨by rw [← l.len]; exact hz, fun p hp => (Mo.wp_pure k') _ _ _ (.new h1.1.top hp) (h1.1.bag.upd (h1.1.new0 hp).2.1) ?_⟩
      exact ⟨hz, p, vs, rfl, .inl (.inl upd_same), l.mono (Ste.new (bag := []) h1.1.top hp).sub⟩
    · have e1 : szL ds = none := if_neg hz
      rw [e1] at k'
      exact k'.elim).to
end
/-! ### truth, and, or, not -/
def truD : D → Option Bool
  | .non => some false
  | .bl b => some b
  | .int i => some (i != 0)
  | .str s => some (!s.isEmpty)
  | .tup ds => some (!ds.isEmpty)
  | .lst ds => some (!ds.isEmpty)
  | _ => none
theorem isEmpty_len {α β : Type} {a : List α} {b : List β} (h : a.length = b.length) : a.isEmpty = b.isEmpty := by
  cases a <;> cases b <;> simp at h ⊢
section
variable {K : PySem.W.Frag} {mg : Str → Option Value}
theorem is_bl {H : Hp} (b : Bool) : Is K mg H (.bl b) (.bl b) := by
  cases b <;> rw [Is]
theorem is_int {H : Hp} (b : Int) : Is K mg H (.int b) (.int b) := by rw [Is]
theorem tru_is {Hf H : Hp} (sb : Sub Hf H) {d : D} {v : V} {b : Bool} (i : Is K mg Hf d v) (e : truD d = some b) : TruV K v H b := by
  cases d with
  | non => cases i; cases e; exact rfl
  | bl c => cases i; cases e; exact rfl
  | int c => cases i; cases e; exact rfl
  | str c =>
    obtain ⟨rfl, hz⟩ := i
    cases e
    refine ⟨by rw [str_len]; exact hz, ?_⟩
    rw [str_len]
    cases c with
    | nil => rfl
    | cons x r =>
      show (!(x :: r).isEmpty) = ((((x :: r).length : Nat) : Int) != 0)
      simp
      omega
  | tup ds =>
    obtain ⟨_, a, vs, rfl, t, l⟩ := i
    cases e
    exact .inr (.inl ⟨vs, sb.sqt t, by rw [isEmpty_len l.len]⟩)
  | lst ds =>
    obtain ⟨_, a, vs, rfl, t, l⟩ := i
    cases e
    exact .inl ⟨vs, .inl (.inl (sb _ _ t)), by rw [isEmpty_len l.len]⟩
  | dic _ _ => cases e
  | ins _ _ _ => cases e
  | scr _ => cases e
  | xc _ _ _ _ => cases e
end
section
variable {X : Cx} {fx : Fx} {m : Type → Type} [Mo m] {G : List Sl} {a b c : Expr} {rest : List Expr} {pos : Pos} {x y : m D} {t u : m Bool}
def andM (t u : m Bool) : m Bool := do
  let b ← t
  if b = true then u else pure false
def orM (t u : m Bool) : m Bool := do
  let b ← t
  if b = true then pure true else u
def notM (t : m Bool) : m Bool := do
  let b ← t
  pure (!b)
def iteM {α : Type} (t : m Bool) (x y : m α) : m α := do
  let b ← t
  if b = true then x else y
def andV (x y : m D) : m D := do
  let d ← x
  let b ← ask (truD d)
  if b = true then y else pure d
def notV (x : m D) : m D := do
  let d ← x
  let b ← ask (truD d)
  pure (.bl (!b))
/-- a value's truth -/
theorem dt_tru (ha : PE X a (tE X.K X.mg fx G x)) (he : ∀ whole, isTrue a X.env whole = (do let v ← whole; standAt a.pos; holding [v] (truthy v)) := by intro _; rfl) :
    PT X a (tT X.K X.mg fx G (do let d ← x; ask (truD d))) := ptI (pt_truth ha he) fun σ H Q ⟨Hf, s, h⟩ =>
  (h.bind.mono fun v H1 ⟨d, Hf1, s1, sb, r, h1⟩ => by
    obtain ⟨k, e, q⟩ := h1.ask
    exact ⟨k, tru_is h1.1.top r e, q k Hf1 H1 (.refl h1.1.top) rfl⟩).to
theorem dw_and1 (ha : PT X a (tT X.K X.mg fx G t)) : PW X (.BoolOp .And [a] pos) (tT X.K X.mg fx G t) := pw_and1 ha
theorem dw_or1 (ha : PT X a (tT X.K X.mg fx G t)) : PW X (.BoolOp .Or [a] pos) (tT X.K X.mg fx G t) := pw_or1 ha
theorem dw_and (ha : PT X a (tT X.K X.mg fx G t)) (hb : PW X (.BoolOp .And (b :: rest) pos) (tT X.K X.mg fx G u)) : PW X (.BoolOp .And (a :: b :: rest) pos) (tT X.K X.mg fx G (andM t u)) := pwI (pw_and ha hb) fun σ H Q ⟨Hf, s, h⟩ =>
  (h.bind.mono fun v H1 ⟨d, Hf1, s1, sb, r, h1⟩ => by
    subst r
    cases v with
    | true => exact h1.to
    | false => exact h1.pure rfl).to
theorem dw_or (ha : PT X a (tT X.K X.mg fx G t)) (hb : PW X (.BoolOp .Or (b :: rest) pos) (tT X.K X.mg fx G u)) : PW X (.BoolOp .Or (a :: b :: rest) pos) (tT X.K X.mg fx G (orM t u)) := pwI (pw_or ha hb) fun σ H Q ⟨Hf, s, h⟩ =>
  (h.bind.mono fun v H1 ⟨d, Hf1, s1, sb, r, h1⟩ => by
    subst r
    cases v with
    | true => exact h1.pure rfl
    | false => exact h1.to).to
theorem dt_not (ha : PT X a (tT X.K X.mg fx G t)) : PT X (.UnaryOp .Not a pos) (tT X.K X.mg fx G (notM t)) := ptI (pt_not ha) fun σ H Q ⟨Hf, s, h⟩ =>
  (h.bind.mono fun v H1 ⟨d, Hf1, s1, sb, r, h1⟩ => by
    subst r
    exact h1.pure rfl).to
theorem de_not (ha : PE X a (tE X.K X.mg fx G x)) : PE X (.UnaryOp .Not a pos) (tE X.K X.mg fx G (notV x)) := peI (pe_notT ha) fun σ H Q ⟨Hf, s, h⟩ =>
  (h.bind.mono fun v H1 ⟨d, Hf1, s1, sb, r, h1⟩ => by
    have h2 := h1.bind (rl := fun _ a b => b = a) (β := Bool)
    have k := Mo.wp_lift (Mo.wp_bind h1.2)
    cases e : truD d with
    | none => rw [e] at k; exact k.elim
    | some b =>
      rw [e] at k
      exact ⟨b, tru_is h1.1.top r e, (Mo.wp_pure k) _ Hf1 H1 (.refl h1.1.top) h1.1.bag (is_bl _)⟩).to
theorem de_and (ha : PE X a (tE X.K X.mg fx G x)) (hb : PE X (.BoolOp .And (b :: rest) pos) (tE X.K X.mg fx G y)) : PE X (.BoolOp .And (a :: b :: rest) pos) (tE X.K X.mg fx G (andV x y)) := peI (pe_andT ha hb) fun σ H Q ⟨Hf, s, h⟩ =>
  (h.bind.mono fun v H1 ⟨d, Hf1, s1, sb, r, h1⟩ => by
    have k := Mo.wp_lift (Mo.wp_bind h1.2)
    cases e : truD d with
    | none => rw [e] at k; exact k.elim
    | some b =>
      rw [e] at k
      refine ⟨b, tru_is h1.1.top r e, ?_⟩
      cases b with
      | true => exact ⟨Hf1, s1, h1.1, k⟩
      | false => exact (Mo.wp_pure k) _ Hf1 H1 (.refl h1.1.top) h1.1.bag r).to
theorem de_one {op : BoolOp} (ha : PE X a (tE X.K X.mg fx G x)) : PE X (.BoolOp op [a] pos) (tE X.K X.mg fx G x) := pe_one ha
theorem de_ifExp (hc : PT X c (tT X.K X.mg fx G t)) (ha : PE X a (tE X.K X.mg fx G x)) (hb : PE X b (tE X.K X.mg fx G y)) : PE X (.IfExp c a b pos) (tE X.K X.mg fx G (iteM t x y)) := peI (pe_ifExp hc ha hb) fun σ H Q ⟨Hf, s, h⟩ =>
  (h.bind.mono fun v H1 ⟨d, Hf1, s1, sb, r, h1⟩ => by
    subst r
    cases v with
    | true => exact h1.to
    | false => exact h1.to).to
/-- a < b < c -/
def chainM (f g : D → D → Option D) (x y z : m D) : m D := do
  let u ← x
  let v ← y
  let p ← ask ((f u v).bind bOf)
  if p = true then do
    let w ← z
    ask (g v w)
  else pure (.bl false)
theorem chain_read {op op' : CmpOp} {f g : D → D → Option D} {z : m D} {σ : L2.St} {H : Hp} {Q : VK} (h : tE X.K X.mg fx G (chainM f g x y z) σ H Q) :
    tChain (rD2 X.K X.mg f) (rD2 X.K X.mg g) (tE X.K X.mg fx G x) (tE X.K X.mg fx G y) (tE X.K X.mg fx G z) σ H Q := by
  obtain ⟨Hf, s, h⟩ := h
  refine (h.bind.mono fun v1 H1 ⟨d1, Hf1, s1, sb1, r1, h1⟩ => (h1.bind.mono fun v2 H2 ⟨d2, Hf2, s2, sb2, r2, h2⟩ => ?_).to).to
  have k := Mo.wp_lift (Mo.wp_bind h2.2)
  cases e : f d1 d2 with
  | none => rw [e] at k; exact k.elim
  | some d =>
    cases d with
    | bl p =>
      rw [e] at k
      have k' : Mo.wp (if p = true then (do let w ← z; ask (g d2 w)) else pure (.bl false) : m D) s2 _ _ := k
      refine ⟨Hf2, d1, d2, .bl p, h2.1.top, r1.mono sb2, r2, e, fun u Hf3 H3 e3 i3 => ⟨p, i3, ?_⟩⟩
      have st3 := h2.1.step e3.wide (e3.bag h2.1.bag)
      cases p with
      | true =>
        have h3 : tX X.K X.mg fx G (fun H d v => Is X.K X.mg H d v) (do let w ← z; ask (g d2 w) : m D) Hf3 s2 σ H3 Q :=
          ⟨st3, Mo.wp_mono k' (fun a s' q b Hf' H' e bg i => q b Hf' H' (e3.wide.trans e) bg i) fun e s' q => q⟩
        show tE X.K X.mg fx G z σ H3 _
        exact (h3.bind.mono fun v4 H4 ⟨d4, Hf4, s4, sb4, r4, h4⟩ => by
          obtain ⟨d, e, q⟩ := h4.ask
          exact ⟨Hf4, d2, d4, d, h4.1.top, (r2.mono e3.sub).mono sb4, r4, e, q⟩).to
      | false => exact (Mo.wp_pure k') _ Hf3 H3 e3.wide (e3.bag h2.1.bag) (is_bl _)
    | _ => rw [e] at k; exact k.elim
theorem test_read {x : m D} {Hf : Hp} {s : S} {σ : L2.St} {H : Hp} {Q : Bool → Hp → Prop} (h : tX X.K X.mg fx G (fun _ a b => b = a) (do let d ← x; ask (bOf d)) Hf s σ H Q) : tE X.K X.mg fx G x σ H fun v H' => ∃ k, v = .bl k ∧ Q k H' :=
  (h.bind.mono fun v H1 ⟨d, Hf1, s1, sb, r, h1⟩ => by
    obtain ⟨k, e, q⟩ := h1.ask
    cases d with
    | bl b =>
      cases e
      exact ⟨_, r, q _ Hf1 H1 (.refl h1.1.top) rfl⟩
    | _ => cases e).to
theorem dt_chain {op op' : CmpOp} {f g : D → D → Option D} {z : m D} (ho : OpR X (compareOp op) (rD2 X.K X.mg f)) (ho' : OpR X (compareOp op') (rD2 X.K X.mg g)) (ha : PE X a (tE X.K X.mg fx G x)) (hb : PE X b (tE X.K X.mg fx G y)) (hc : PE X c (tE X.K X.mg fx G z))
    (hm : lastMarks [op, op'] [b, c] = false := by with_unfolding_all rfl) : PT X (.Compare a [op, op'] [b, c] pos) (tT X.K X.mg fx G (do let d ← chainM f g x y z; ask (bOf d))) := ptI (pt_chain ho ho' ha hb hc hm) fun σ H Q ⟨Hf, s, h⟩ => chain_read (op := op) (op' := op') (test_read h)
end
end DL
namespace DL
open PySem L2
/-! ### what is walked -/
section
variable {X : Cx} {tg l : Expr} {tl : TE}
section
variable {X : Cx} {tg l : Expr} {tl : TE}
/-- an iterator over a list or a tuple is made -/
theorem iter_sq {tg : Expr} {pins : List (Addr × Obj)} {σ : L2.St} {H1 : Hp} {s1 : Shared} {R : It → Hp → Prop} {a : Addr} (I : L2.Inv X pins σ H1 s1) (hq : ((∃ xs, SqL X.K H1 a xs) ∧ R (Itl X.K a) H1) ∨ ((∃ xs, SqT X.K H1 a xs) ∧ R (Itt X.K a) H1)) :
    wpAny (model X.prog X.w) X.A (pyIter (.ref a)) (PIE X pins σ tg R) X.xe s1 :=
  hq.elim (fun ⟨⟨_, is⟩, q⟩ => let ⟨_, _, lies, _⟩ := I.list is
      wpAny_pyIter_list lies.isList (pi_one (tk := s1.toks) I _ (turn_list a _) ⟨_, Heap.get?_push_size _ rfl, rfl, rfl⟩ q))
    fun ⟨⟨_, is⟩, q⟩ => let ⟨its, _, lies, _⟩ := I.tuple is
      wpAny_pyIter_tuple (show s1.heap.IsTuple a its.toArray from lies) (pi_one (tk := s1.toks) I _ (turn_tuple a _) ⟨_, Heap.get?_push_size _ rfl, rfl, rfl⟩ q)
end
theorem piI {it : Expr} {t t' : TI} (h : PI X tg it t) (w : ∀ σ H Q, t' σ H Q → t σ H Q) : PI X tg it t' := ⟨fun pins s σ H Q I q => h.run pins s σ H Q I (w _ _ _ q)⟩
end
def sqOf : D → Option (List D)
  | .lst ds => some ds
  | .tup ds => some ds
  | _ => none
def intOf : D → Option Int
  | .int i => some i
  | _ => none
def rangeL (lo : Int) (n : Nat) : List D := (List.range n).map fun (k : Nat) => .int (lo + (k : Int))
def enumL (ds : List D) : List D := ds.mapIdx fun i d => .tup [.int (i : Int), d]
section
variable {K : PySem.W.Frag} {mg : Str → Option Value}
theorem yl_list {Hf : Hp} {ds : List D} {a : Addr} {vs : List V} (hz : ds.length ≤ sizeLine) (h : Hf a = some (.lst vs)) (l : IsL K mg Hf ds vs) : Yl K mg (Itl K a) Hf ds := ⟨hz, fun Hf2 H s1 s2 i => by
  have hq : SqL K H a vs := .inl (.inl (s2 _ _ (s1 _ _ h)))
  refine ⟨fun d hd => ?_, fun hl => ⟨vs, hq, by rw [← l.len]; exact hl⟩⟩
  obtain ⟨v, hv, iv⟩ := l.get hd
  exact ⟨⟨vs, v, hq, hv⟩, fun x H' ⟨e, f⟩ => by
    subst e
    have := f vs hq
    rw [hv] at this
    cases this
    exact ⟨Hf2, .refl s2, iv.mono s1⟩⟩⟩
theorem yl_tup {Hf : Hp} {ds : List D} {a : Addr} {vs : List V} (hz : ds.length ≤ sizeLine) (h : SqT K Hf a vs) (l : IsL K mg Hf ds vs) : Yl K mg (Itt K a) Hf ds := ⟨hz, fun Hf2 H s1 s2 i => by
  have hq : SqT K H a vs := s2.sqt (s1.sqt h)
  refine ⟨fun d hd => ?_, fun hl => ⟨vs, hq, by rw [← l.len]; exact hl⟩⟩
  obtain ⟨v, hv, iv⟩ := l.get hd
  exact ⟨⟨vs, v, hq, hv⟩, fun x H' ⟨e, f⟩ => by
    subst e
    have := f vs hq
    rw [hv] at this
    cases this
    exact ⟨Hf2, .refl s2, iv.mono s1⟩⟩⟩
theorem yl_range (lo : Int) (n : Nat) {Hf : Hp} (hz : n ≤ sizeLine) : Yl K mg (Itr lo n) Hf (rangeL lo n) := ⟨by simpa [rangeL] using hz, fun Hf2 H s1 s2 i => by
  refine ⟨fun d hd => ?_, fun hl => ?_⟩
  rotate_left
  · have z : n ≤ i := by simpa [rangeL] using hl
    exact z
  have hi : i < n := by
    have := (List.getElem?_eq_some_iff.mp hd).1
    simpa [rangeL] using this
  have e : d = .int (lo + (i : Int)) := by
    unfold rangeL at hd
    rw [List.getElem?_map, List.getElem?_range hi] at hd
    cases hd
    rfl
  subst e
  exact ⟨hi, fun x H' ⟨e1, e2⟩ => by
    subst e1 e2
    exact ⟨Hf2, .refl s2, is_int _⟩⟩⟩
theorem yl_str (s : List Nat) {Hf : Hp} (hz : s.length ≤ sizeLine) : Yl K mg (Its ⟨s.toArray⟩) Hf (s.map fun c => .str [c]) := ⟨by simpa using hz, fun Hf2 H s1 s2 i => by
  refine ⟨fun d hd => ?_, fun hl => ?_⟩
  · have hi : i < s.length := by
      have := (List.getElem?_eq_some_iff.mp hd).1
      simpa using this
    rw [List.getElem?_map, List.getElem?_eq_getElem hi] at hd
    cases hd
    refine ⟨?_, fun x H' ⟨e1, c, e2, e3⟩ => ?_⟩
    · show i < s.toArray.size
      simpa using hi
    · subst e1 e3
      refine ⟨Hf2, .refl s2, ?_⟩
      have e2' : s.toArray[i]? = some c := e2
      rw [List.getElem?_toArray, List.getElem?_eq_getElem hi] at e2'
      cases e2'
      exact ⟨rfl, by show 1 ≤ sizeLine; decide⟩
  · show s.toArray.size ≤ i
    simpa using hl⟩
end
section
variable {X : Cx} {fx : Fx} {m : Type → Type} [Mo m] {G : List Sl} {tg l a b : Expr} {x y : m D} {ys : m (List D)} {pos : Pos} {kk : Nat}
def strOf : D → Option (List Nat)
  | .str s => some s
  | _ => none
def chrs (s : List Nat) : List D := s.map fun c => .str [c]
def rng1 : List D → Option (List D)
  | [.int j] => if -(2 ^ 62) ≤ j ∧ j ≤ 1000000 then some (rangeL 0 j.toNat) else none
  | _ => none
theorem di_range1 {p : Pos} (hg : Gl X "range") (hm : X.mg "range" = none) (ha : PA X [a] (tA X.K X.mg fx G ys)) (hs : starEach [a] X.env = [(false, eval a X.env)] := by rfl) :
    PI X tg (.Call (.Name "range" p) [a] [] pos) (tI X.K X.mg fx G (do let ds ← ys; ask (rng1 ds))) := piI (pi_range1 hg hm ha hs) fun σ H Q ⟨Hf, s, h⟩ =>
  (h.bind.mono fun v H1 ⟨d, Hf1, s1, sb, r, h1⟩ => by
    obtain ⟨ds, e, q⟩ := h1.ask
    unfold rng1 at e
    split at e
    · rename_i j
      split at e
      · rename_i hj
        cases e
        obtain ⟨v1, r1, rfl, rfl, rfl⟩ := r
        exact ⟨j, rfl, hj.1, Int.lt_of_le_of_lt hj.2 (by decide), q _ Hf1 H1 (.refl h1.1.top) (yl_range _ _ (by rw [sizeLine_eq]; omega))⟩
      · cases e
    · cases e).to
/-! ### targets -/
def un2 : D → Option (D × D)
  | .tup [a, b] => some (a, b)
  | _ => none
theorem pgd_tup2 (C : Cok X fx kk) (i j : Nat) {n1 n2 : Str} {p1 p2 : Pos} {k : Nat} (hi : X.N[i]? = some n1 := by rfl) (hx : Loc X.env.scope n1 := by first | exact Or.inl rfl | exact Or.inr rfl) (hf : X.fn n1 = true ∨ X.env.scope.names.lookup n1 = some .local := by first | exact .inl rfl | exact .inr rfl)
    (hi2 : X.N[j]? = some n2 := by rfl) (hx2 : Loc X.env.scope n2 := by first | exact Or.inl rfl | exact Or.inr rfl) (hf2 : X.fn n2 = true ∨ X.env.scope.names.lookup n2 = some .local := by first | exact .inl rfl | exact .inr rfl) :
    PGd X fx (.Tuple [.Name n1 p1, .Name n2 p2] k pos) (gTup X.K 2 (gCons (gName i) (gCons (gName j) gNil))) un2 (fun G d => (G.set i (.im d.1)).set j (.im d.2)) [i, j] :=
  ⟨pg_tup C.calm (pgs_cons (pg_name C.nd hi hx hf) (pgs_cons (pg_name C.nd hi2 hx2 hf2) pgs_nil)), fun {G Hf d v σ H s c Q} st r e q => by
    cases d with
    | tup ds =>
      obtain ⟨hz, a, vs, rfl, t, l⟩ := r
      unfold un2 at e
      split at e
      · rename_i d1 d2 eq
        cases eq
        cases e
        obtain ⟨v1, r1, rfl, i1, v2, r2, rfl, i2, rfl⟩ := l
        refine ⟨a, _, rfl, st.top.sqt t, rfl, v1, _, rfl, v2, _, rfl, rfl, q _ (fun k hk => ?_) (by simp) ((st.set i1).set i2)⟩
        rw [List.getElem?_set_ne (fun z => hk (by simp [z])), List.getElem?_set_ne (fun z => hk (by simp [z]))]
      · cases e
    | _ => cases e⟩
end
end DL
namespace DL
open PySem L2
/-! ### list comprehensions -/
section
variable {m : Type → Type} [Mo m] {γ : Type}
def lcF (u : D → Option γ) (xt : γ → m Bool) (xe : γ → m D) : List D → m (List D)
  | [] => pure []
  | d :: ds => do
    let c ← ask (u d)
    let b ← Mo.noex (xt c)
    if b = true then do
      let y ← Mo.noex (xe c)
      let r ← lcF u xt xe ds
      pure (y :: r)
    else lcF u xt xe ds
end
abbrev Fx.nox (fx : Fx) : Fx := { fx with W := fun _ _ _ _ => False, gx := none }
def wipeG (G : List Sl) : List Nat → List Sl
  | [] => G
  | v :: vs => (wipeG G vs).set v .un
theorem wipe_get {σ : L2.St} {i : Nat} : ∀ {vs : List Nat}, i ∉ vs → (wipe σ vs)[i]? = σ[i]?
  | [], _ => rfl
  | v :: vs, h => by
    unfold wipe
    rw [List.getElem?_set_ne (fun z => h (by simp [z])), wipe_get (fun z => h (List.mem_cons_of_mem _ z))]
theorem wipe_in {σ : L2.St} {i : Nat} : ∀ {vs : List Nat}, i ∈ vs → i < σ.length → (wipe σ vs)[i]? = some none
  | [], h, _ => by cases h
  | v :: vs, h, hl => by
    unfold wipe
    by_cases c : v = i
    · subst c
      rw [List.getElem?_set_self (by rw [wipe_length]; exact hl)]
    · rw [List.getElem?_set_ne c]
      rcases List.mem_cons.mp h with e | h'
      · exact absurd e.symm c
      · exact wipe_in h' hl
theorem wipeG_len {G : List Sl} : ∀ (vs : List Nat), (wipeG G vs).length = G.length
  | [] => rfl
  | v :: vs => by unfold wipeG; rw [List.length_set, wipeG_len vs]
theorem wipeG_get {G : List Sl} {i : Nat} : ∀ {vs : List Nat}, i ∉ vs → (wipeG G vs)[i]? = G[i]?
  | [], _ => rfl
  | v :: vs, h => by
    unfold wipeG
    rw [List.getElem?_set_ne (fun z => h (by simp [z])), wipeG_get (fun z => h (List.mem_cons_of_mem _ z))]
theorem wipeG_in {G : List Sl} {i : Nat} : ∀ {vs : List Nat} {x : Sl}, i ∈ vs → (wipeG G vs)[i]? = some x → x = .un
  | [], _, h, _ => by cases h
  | v :: vs, x, h, e => by
    unfold wipeG at e
    by_cases c : v = i
    · subst c
      have hl : v < (wipeG G vs).length := by
        have := (List.getElem?_eq_some_iff.mp e).1
        simpa using this
      rw [List.getElem?_set_self hl] at e
      cases e
      rfl
    · rw [List.getElem?_set_ne c] at e
      rcases List.mem_cons.mp h with e' | h'
      · exact absurd e'.symm c
      · exact wipeG_in h' e
theorem wipe_eq {σ σ2 : L2.St} {vs : List Nat} (hl : σ2.length = (wipe σ vs).length) (h : ∀ j, j ∉ vs → σ2[j]? = (wipe σ vs)[j]?) : wipe σ2 vs = wipe σ vs := by
  apply List.ext_getElem?
  intro i
  by_cases c : i ∈ vs
  · by_cases hi : i < σ.length
    · rw [wipe_in c hi, wipe_in c (by rw [hl, wipe_length]; exact hi)]
    · rw [List.getElem?_eq_none (by rw [wipe_length, hl, wipe_length]; omega), List.getElem?_eq_none (by rw [wipe_length]; omega)]
  · rw [wipe_get c, h i c]
section
variable {K : PySem.W.Frag} {mg : Str → Option Value} {fx : Fx} {Hf H : Hp} {σ : L2.St} {G : List Sl} {s : S}
theorem StS.wiped (st : StS K mg fx Hf H σ G s) (vs : List Nat) : StS K mg fx.nox Hf H (wipe σ vs) (wipeG G vs) s := by
  have get : ∀ {i : Nat} {x : Sl}, (wipeG G vs)[i]? = some x → x ≠ .un → G[i]? = some x ∧ (wipe σ vs)[i]? = σ[i]? := fun {i x} e n => by
    by_cases c : i ∈ vs
    · exact absurd (wipeG_in c e) n
    · rw [wipeG_get c] at e
      exact ⟨e, wipe_get c⟩
  refine ⟨st.ste, st.bag, st.bagg, by rw [wipe_length, wipeG_len]; exact st.len, fun i x e => ?_, fun i j x y p hij ex ey ox oy e1 e2 => ?_⟩
  · cases x with
    | un => trivial
    | im d =>
      obtain ⟨e', q⟩ := get e (by simp)
      rw [q]; exact st.sl i _ e'
    | bg =>
      obtain ⟨e', q⟩ := get e (by simp)
      rw [q]; exact st.sl i _ e'
    | ow ds =>
      obtain ⟨e', q⟩ := get e (by simp)
      rw [q]; exact st.sl i _ e'
    | od ks ds =>
      obtain ⟨e', q⟩ := get e (by simp)
      rw [q]; exact st.sl i _ e'
    | ob ns ds =>
      obtain ⟨e', q⟩ := get e (by simp)
      rw [q]; exact st.sl i _ e'
  · have nx : x ≠ .un := fun z => by subst z; cases ox
    have ny : y ≠ .un := fun z => by subst z; cases oy
    obtain ⟨ex', q1⟩ := get ex nx
    obtain ⟨ey', q2⟩ := get ey ny
    rw [q1] at e1
    rw [q2] at e2
    exact st.dis i j x y p hij ex' ey' ox oy e1 e2
theorem StS.nox (st : StS K mg fx Hf H σ G s) : StS K mg fx.nox Hf H σ G s := ⟨st.ste, st.bag, st.bagg, st.len, fun i x e => by
  have so := st.sl i x e
  cases x with
  | un => trivial
  | im d => exact so
  | ow ds => exact so
  | od ks ds => exact so
  | ob ns ds => exact so
  | bg => exact so, st.dis⟩
end
section
variable {X : Cx} {fx : Fx} {m : Type → Type} [Mo m] {G : List Sl} {γ : Type} {kk : Nat}
/-- the reading of a comprehension -/
theorem lc_read {xi : m (List D)} {u : D → Option γ} {xt : γ → m Bool} {xe : γ → m D} {g : TG} {st : List Sl → γ → List Sl} {is vs : List Nat} {tg : Expr} {K : PySem.W.Frag} {mg : Str → Option Value}
    (hg : ∀ {G : List Sl} {Hf : Hp} {d : D} {v : V} {σ : L2.St} {H : Hp} {s : S} {c : γ} {Q : L2.St → Hp → Prop}, StS K mg fx.nox Hf H σ G s → Is K mg Hf d v → u d = some c → (∀ σ', (∀ j, j ∉ is → σ'[j]? = σ[j]?) → σ'.length = σ.length → StS K mg fx.nox Hf H σ' (st G c) s → Q σ' H) → g v σ H Q)
    (hsub : ∀ i ∈ is, i ∈ vs) {σ : L2.St} {H : Hp} {Q : VK} (h : tF K mg fx G (do let ds ← xi; lcF u xt xe ds) σ H Q) :
    tLc (tI K mg fx G xi) g (fun σ H Q => ∃ c, tT K mg fx.nox (st (wipeG G vs) c) (xt c) σ H Q) (fun σ H Q => ∃ c, tE K mg fx.nox (st (wipeG G vs) c) (xe c) σ H Q) vs σ H Q := by
  obtain ⟨Hf0, s0, st0, w0⟩ := h
  refine ⟨Hf0, s0, st0, Mo.wp_mono (Mo.wp_bind w0) (fun ds s1 w1 J Hf1 H1 e1 bg1 yl Da hD => ?_) fun e s' k => k⟩
  have st1 := st0.step e1 bg1
  obtain ⟨nH0, nb, nf⟩ := st1.new0 hD
  have hn0 : H Da = none := by
    cases q : H Da with
    | none => rfl
    | some o => exact absurd hD (e1.dom Da (by rw [q]; simp))
  have no := st1.owNe hD
  refine ⟨fun i m H' => m = ds.length - i ∧ i ≤ ds.length ∧ ∃ Hf s acc accV, Sub Hf1 Hf ∧ StS K mg fx Hf H' σ G s ∧ Ste fx.bag Hf0 H Hf H' ∧ H' Da = some (.lst accV) ∧ IsL K mg Hf acc accV ∧ Hf Da = none ∧ acc.length ≤ i ∧
    Mo.wp (lcF u xt xe (ds.drop i)) s (fun r s' => FrQ K mg fx Hf0 H Q (acc ++ r) s') (EX K mg fx G σ), ⟨ds.length, by simp, Nat.zero_le _, Hf1, s1, [], [], .refl _, st1.other nf nH0 nb no, e1.upd hn0 nf, upd_same, .nil, nf, Nat.zero_le _, w1⟩, ?_⟩
  rintro i m H2 ⟨rfl, hi, Hf2, s2, acc, accV, sb2, st2, e2, hD2, l2, nf2, la, w2⟩
  obtain ⟨y1, y2⟩ := yl.2 Hf2 H2 sb2 st2.top i
  by_cases hlt : i < ds.length
  · obtain ⟨go, yd⟩ := y1 ds[i] (List.getElem?_eq_getElem hlt)
    rw [List.drop_eq_getElem_cons hlt] at w2
    have w4 := Mo.wp_lift (Mo.wp_bind w2)
    refine .inr ⟨go, fun H' => i + 1 ≤ ds.length ∧ ∃ Hf s acc accV, Sub Hf1 Hf ∧ StS K mg fx Hf H' σ G s ∧ Ste fx.bag Hf0 H Hf H' ∧ H' Da = some (.lst accV) ∧ IsL K mg Hf acc accV ∧ Hf Da = none ∧ acc.length ≤ i + 1 ∧
      Mo.wp (lcF u xt xe (ds.drop (i + 1))) s (fun r s' => FrQ K mg fx Hf0 H Q (acc ++ r) s') (EX K mg fx G σ), fun H' q => ⟨ds.length - (i + 1), by omega, rfl, q⟩, fun x H3 y => ?_⟩
    obtain ⟨Hf3, e3, is3⟩ := yd x H3 y
    cases q : u ds[i] with
    | none => rw [q] at w4; exact w4.elim
    | some c =>
      rw [q] at w4
      have st3 := st2.step e3.wide (e3.bag st2.bag)
      refine hg (st3.wiped vs) is3 q fun σ2 hs hl st4 => ⟨wipe_eq hl fun j hj => hs j fun z => hj (hsub j z), c, Hf3, s2, st4, ?_⟩
      refine Mo.wp_mono (Mo.wp_noex (Mo.wp_bind w4)) (fun b s5 w5 b' Hf5 H5 e5 bg5 eb => ?_) fun _ _ f => f.elim
      subst eb
      have st5 := st3.step (fx := fx) (Hf' := Hf5) (H' := H5) e5 bg5
      have hD5 : H5 Da = some (.lst accV) := e5.keep _ _ (e3.keep _ _ hD2 (by simp)) nb
      have nf5 : Hf5 Da = none := e5.stayNone (e3.stayNone nf2 (by rw [hD2]; simp)) (by rw [e3.keep _ _ hD2 (by simp)]; simp)
      have e25 : Ste fx.bag Hf2 H2 Hf5 H5 := (e3.wide).trans e5
      cases b' with
      | true =>
        refine ⟨c, Hf5, s5, st4.step e5 bg5, ?_⟩
        have w6 : Mo.wp (Mo.noex (xe c) >>= fun y => lcF u xt xe (ds.drop (i + 1)) >>= fun r => pure (y :: r)) s5 _ _ := w5
        refine Mo.wp_mono (Mo.wp_noex (Mo.wp_bind w6)) (fun y s6 w7 yv Hf6 H6 e6 bg6 is6 => ?_) fun _ _ f => f.elim
        have hD6 : H6 Da = some (.lst accV) := e6.keep _ _ hD5 nb
        have nf6 : Hf6 Da = none := e6.stayNone nf5 (by rw [hD5]; simp)
        have e26 := e25.trans e6
        have st6 := st5.step (fx := fx) (Hf' := Hf6) (H' := H6) e6 bg6
        refine ⟨accV, hD6, ?_, hlt, Hf6, s6, acc ++ [y], accV ++ [yv], sb2.trans e26.sub, st6.other nf6 nH0 nb no, (e2.trans e26).upd hn0 nf6, upd_same, (l2.mono e26.sub).app (.cons is6 .nil), nf6, ?_, ?_⟩
        · rw [← l2.len]
          exact Nat.lt_of_lt_of_le (Nat.lt_of_le_of_lt la hlt) yl.1
        · rw [List.length_append, List.length_singleton]
          omega
        · refine Mo.wp_mono (Mo.wp_bind w7) (fun r s8 w8 => ?_) fun e s' k => k
          have w9 := Mo.wp_pure w8
          rw [List.append_assoc, List.singleton_append]
          exact w9
      | false => exact ⟨hlt, Hf5, s5, acc, accV, sb2.trans e25.sub, st5, e2.trans e25, hD5, l2.mono e25.sub, nf5, Nat.le_succ_of_le la, w5⟩
  · have e : i = ds.length := by omega
    subst e
    refine .inl ⟨y2 (Nat.le_refl _), ?_⟩
    rw [List.drop_length] at w2
    have w3 := Mo.wp_pure w2
    rw [List.append_nil] at w3
    exact w3 Da accV Hf2 H2 e2 st2.bag hD2 nf2 hn0 l2 (Nat.le_trans la yl.1)
end
end DL
namespace DL
open PySem L2
theorem Cok.blk {X : Cx} {fx : Fx} {kk : Nat} (C : Cok X fx kk) (s : Shared) (H : Hp) (scope : Scope) (cenv : Env) (fp : List Addr) : Cok (X.blk s H scope cenv fp) fx.nox kk :=
  ⟨C.calm, PassesOwn.never, fun _ _ ⟨_, _, _, _, _, _, _, _, _, _, _, _, _, _, _, _, w⟩ => w.elim, C.rm, C.nd, C.gd⟩
theorem pts_true {X : Cx} {fx : Fx} {m : Type → Type} [Mo m] {G : List Sl} : PTs X [] (tT X.K X.mg fx G (pure true : m Bool)) := ⟨fun pins s σ H Q I ⟨Hf, s', h⟩ => pts_nil.run pins s σ H Q I (h.pure rfl)⟩
theorem pts_test {X : Cx} {fx : Fx} {m : Type → Type} [Mo m] {G : List Sl} {c : Expr} {t : m Bool} (h : PT X c (tT X.K X.mg fx G t)) : PTs X [c] (tT X.K X.mg fx G t) := pts_one h
theorem pts_ex {X : Cx} {ι : Type} {ifs : List Expr} {t : ι → TT} (h : ∀ i, PTs X ifs (t i)) : PTs X ifs (fun σ H Q => ∃ i, t i σ H Q) := ⟨fun pins s σ H Q I ⟨i, q⟩ => (h i).run pins s σ H Q I q⟩
theorem pe_ex {X : Cx} {ι : Type} {e : Expr} {t : ι → TE} (h : ∀ i, PE X e (t i)) : PE X e (fun σ H Q => ∃ i, t i σ H Q) := ⟨fun pins s σ H Q I ⟨i, q⟩ => (h i).run pins s σ H Q I q⟩
section
variable {X : Cx} {fx : Fx} {m : Type → Type} [Mo m] {G : List Sl} {γ α β : Type} {kk : Nat} {elt tg iter : Expr} {ifs : List Expr} {scope : Scope} {pos : Pos} {xi : m (List D)} {u : D → Option γ} {xt : γ → m Bool} {xe : γ → m D} {g : TG} {st : List Sl → γ → List Sl} {is : List Nat}
/-- [elt for tg in iter if ..] -/
theorem df_lc (own : List (Str × Nat)) (C : Cok X fx kk) (hi : PI X tg iter (tI X.K X.mg fx G xi)) (ok : BlkOk X.N X.env.scope scope own)
    (hg : ∀ (s : Shared) (H : Hp) (A : Addr) (cl : List (Str × Addr)) (fp : List Addr), PGd (X.blk s H scope (compEnvC scope cl A X.env) fp) fx.nox tg g u st is)
    (ht : ∀ (s : Shared) (H : Hp) (A : Addr) (cl : List (Str × Addr)) (fp : List Addr), Cok (X.blk s H scope (compEnvC scope cl A X.env) fp) fx.nox kk → ∀ c, PTs (X.blk s H scope (compEnvC scope cl A X.env) fp) ifs (tT X.K X.mg fx.nox (st (wipeG G (own.map (·.2))) c) (xt c)))
    (he : ∀ (s : Shared) (H : Hp) (A : Addr) (cl : List (Str × Addr)) (fp : List Addr), Cok (X.blk s H scope (compEnvC scope cl A X.env) fp) fx.nox kk → ∀ c, PE (X.blk s H scope (compEnvC scope cl A X.env) fp) elt (tE X.K X.mg fx.nox (st (wipeG G (own.map (·.2))) c) (xe c)))
    (hsub : ∀ i ∈ is, i ∈ own.map (·.2)) (hs : ∀ x, foldedSetIterable iter X.env x = pure x := by intro _; rfl) :
    PE X (.ListComp elt [⟨tg, iter, ifs, 0⟩] scope pos) (tF X.K X.mg fx G (do let ds ← xi; lcF u xt xe ds)) :=
  peI (pe_lc (own := own) C.calm C.nd hi ok (fun s H A cl fp => (hg s H A cl fp).1) (fun s H A cl fp => pts_ex (ht s H A cl fp (C.blk ..))) (fun s H A cl fp => pe_ex (he s H A cl fp (C.blk ..))) hs) fun σ H Q h =>
    lc_read (tg := tg) (fun {G Hf d v σ H s c Q} => (hg {} (fun _ => none) 0 [] []).2) hsub h
/-- x = a new list, the frame's own -/
theorem dss_asgOw {e : Expr} {rest : List Stmt} {ex : α → List Sl} {exb : β → List Sl} {x : m (List D)} {k : List D → m (Fl α β)} (C : Cok X fx kk) {n : Str} {pos' : Pos} (i : Nat) (he : PE X e (tF X.K X.mg fx G x)) (hr : ∀ ds, PSs X rest (tS X.K X.mg fx (G.set i (.ow ds)) ex exb (k ds))) (hi : X.N[i]? = some n := by rfl) (hx : Loc X.env.scope n := by first | exact Or.inl rfl | exact Or.inr rfl)
    (hs : swapsWith e (some (.Name n pos')) pos.line X.env = pure false := by rfl) (hf : X.fn n = true ∨ X.env.scope.names.lookup n = some .local := by first | exact .inl rfl | exact .inr rfl) (hg : GxOk fx G := by first | exact True.intro | repeat' (first | exact True.intro | exact Or.inl rfl | exact Or.inr rfl | refine And.intro ?_ ?_)) :
    PSs X (.Assign [.Name n pos'] e pos :: rest) (tS X.K X.mg fx G ex exb (do let ds ← x; k ds)) := pssI (pss_cons (ps_set C.nd hi hx he hs hf) (pss_ex hr)) fun D σ H ⟨Hf, s, h⟩ =>
  ⟨Hf, s, h.1, Mo.wp_mono (Mo.wp_bind h.2) (fun ds s1 w p vs Hf1 H1 e bg hp hf1 hn l hz => by
    have st1 := h.1.step e bg
    have n0 : fx.H0 p = none ∧ p ∉ fx.bag := ⟨(h.1.new0 hn).1, (h.1.new0 hn).2.1⟩
    exact ⟨ds, Hf1, s1, st1.setOw (h.1.owNe hn) hp hf1 n0.1 n0.2 l hz, Mo.wp_mono w (fun f s2 h2 => h2.up e.sub) fun e s' k => k⟩) fun e s' k => exs_ex hg k⟩
/-- the own list of slot i is a datum from here on -/
theorem dss_frz {rest : List Stmt} {ex : α → List Sl} {exb : β → List Sl} {ds : List D} {x : m (Fl α β)} (i : Nat) (hG : G[i]? = some (.ow ds)) (hr : PSs X rest (tS X.K X.mg fx (G.set i (.im (.lst ds))) ex exb x)) : PSs X rest (tS X.K X.mg fx G ex exb x) := pssI hr fun D σ H ⟨Hf, s, h⟩ => by
  obtain ⟨Hf', sb, st⟩ := h.1.freeze hG
  exact ⟨Hf', s, st, Mo.wp_mono h.2 (fun f s2 h2 => h2.up sb) fun e s' k => k⟩
def apd (ds : List D) (d : D) : Option (List D) := if ds.length < sizeLine then some (ds ++ [d]) else none
/-- x.append(e), x the frame's own -/
theorem dss_append {e : Expr} {rest : List Stmt} {ex : α → List Sl} {exb : β → List Sl} {x : m D} {ds : List D} {k : List D → m (Fl α β)} {n : Str} {np apos cpos : Pos} (i : Nat) (he : PE X e (tE X.K X.mg fx G x)) (hr : ∀ ds, PSs X rest (tS X.K X.mg fx (G.set i (.ow ds)) ex exb (k ds)))
    (hG : G[i]? = some (.ow ds) := by rfl) (hN : X.N[i]? = some n := by rfl) (hv : Vis X.env.scope n := by first | exact Or.inl rfl | exact Or.inr (Or.inl rfl) | exact Or.inr (Or.inr rfl)) (hd : (n == ("__debug__" : Str)) = false := by decide) (hcd : (n == ("__classdict__" : Str)) = false := by decide)
    (hst : starEach [e] X.env = [(false, eval e X.env)] := by rfl) (hbase : attributeBase (.Name n np) "append" X.env (eval (.Name n np) X.env) = eval (.Name n np) X.env := by rfl)
    (hfew : ((backTo cpos (starEach [e] X.env)).all (fun x => !x.1) && (backToKw cpos (keywordEach [] X.env)).all (fun x => x.1.isSome) && decide ([e].length + ([] : List Keyword).length + (if ([] : List Keyword).isEmpty then 0 else 1) < 30)) = true := by rfl)
    (hline : (apos.endLine == cpos.line) = true := by rfl) (hplain : (backTo cpos (starEach [] X.env)).any (·.1) = false := by rfl)
    (hs : swapsWith (.Call (.Attribute (.Name n np) "append" apos) [e] [] cpos) none pos.line X.env = pure false := by rfl) (hg : GxOk fx G := by first | exact True.intro | repeat' (first | exact True.intro | exact Or.inl rfl | exact Or.inr rfl | refine And.intro ?_ ?_)) :
    PSs X (.Expr (.Call (.Attribute (.Name n np) "append" apos) [e] [] cpos) pos :: rest) (tS X.K X.mg fx G ex exb (do let d ← x; let ds ← ask (apd ds d); k ds)) :=
  pssI (pss_cons (ps_expr (pe_bm PySem.F.plainAttrs_list PySem.F.slot_list_append PySem.F.type_list_append mt_append (pe_var hN hv hd hcd) (pa_cons he pa_nil hst) hbase hfew hline hst hplain) hs) (pss_ex hr)) fun D σ H ⟨Hf, s, h⟩ => by
    obtain ⟨p, vs, ep, hp, hf, h0, nb, l, hz⟩ := h.1.sl i _ hG
    refine ⟨.ref p, ep, .inl ⟨rfl, _, .inl (.inl hp)⟩, ?_⟩
    refine ((h.bind hg).mono fun v H1 ⟨d, Hf1, s1, sb, r, h1⟩ => ?_).to
    obtain ⟨p1, vs1, ep1, hp1, hf1, _, _, l1, hz1⟩ := h1.1.sl i _ hG
    have eq : p1 = p := by rw [ep] at ep1; cases ep1; rfl
    subst eq
    have k' := Mo.wp_lift (Mo.wp_bind h1.2)
    by_cases c : ds.length < sizeLine
    · have e1 : apd ds d = some (ds ++ [d]) := if_pos c
      rw [e1] at k'
      refine ⟨p1, vs1, v, rfl, rfl, hp1, by rw [← l1.len]; exact c, ds ++ [d], Hf1, s1, h1.1.updOw hG ep (l1.app (.cons r .nil)) (by rw [List.length_append, List.length_singleton]; exact c), k'⟩
    · have e1 : apd ds d = none := if_neg c
      rw [e1] at k'
      exact k'.elim
end
end DL
namespace DL
open PySem L2
/-! ### items and slices -/
theorem IsL.atI {K : PySem.W.Frag} {mg : Str → Option Value} {H : Hp} {ds : List D} {vs : List V} {i : Int} {d : D} (l : IsL K mg H ds vs) (e : L2.atI ds i = some d) : ∃ v, L2.atI vs i = some v ∧ Is K mg H d v := by
  unfold L2.atI at e ⊢
  rw [← l.len]
  cases q : ixN ds.length i with
  | none => rw [q] at e; cases e
  | some j =>
    rw [q] at e
    exact l.get e
def ixD : D → D → Option D
  | .lst ds, .int i => L2.atI ds i
  | .tup ds, .int i => L2.atI ds i
  | .str s, .int i => (L2.atI s i).map fun c => .str [c]
  | .scr is, .int i => (L2.atI is i).map .int
  | _, _ => none
def cutL {α : Type} (xs : List α) (lo hi : Option Int) : List α := (xs.drop (HT.sIx xs.length 0 lo)).take (HT.sIx xs.length xs.length hi - HT.sIx xs.length 0 lo)
theorem cutL_len {α : Type} (xs : List α) (lo hi : Option Int) : (cutL xs lo hi).length ≤ xs.length := by
  unfold cutL
  rw [List.length_take, List.length_drop]
  omega
def sliceD : D → Option Int → Option Int → Option D
  | .lst ds, lo, hi => some (.lst (cutL ds lo hi))
  | .tup ds, lo, hi => some (.tup (cutL ds lo hi))
  | .str s, lo, hi => some (.str (cutL s lo hi))
  | .scr is, lo, hi => some (.lst ((cutL is lo hi).map .int))
  | _, _, _ => none
section
variable {X : Cx}
theorem oix : IxR X (rD2 X.K X.mg ixD) := by
  intro value slice pins s σ H x y v u Q I rx ry h hs
  obtain ⟨Hf, dx, dy, d, sb, ix, iy, e, q⟩ := h
  unfold ixD at e
  split at e
  · obtain ⟨z1, p1, v1, rfl, h1, l1⟩ := ix
    cases iy
    obtain ⟨w, hw, iw⟩ := l1.atI e
    exact ix_list value slice pins s σ H _ _ v u Q I rx ry ⟨_, _, _, _, rfl, rfl, .inl (.inl (sb _ _ h1)), hw, q _ Hf H (.refl sb) iw⟩ hs
  · obtain ⟨z1, p1, v1, rfl, h1, l1⟩ := ix
    cases iy
    obtain ⟨w, hw, iw⟩ := l1.atI e
    exact ix_tup value slice pins s σ H _ _ v u Q I rx ry ⟨_, _, _, _, rfl, rfl, sb.sqt h1, hw, q _ Hf H (.refl sb) iw⟩ hs
  · rename_i z i
    obtain ⟨rfl, hz⟩ := ix
    cases iy
    cases e1 : L2.atI z i with
    | none => rw [e1] at e; cases e
    | some c =>
      rw [e1] at e
      cases e
      exact ix_str value slice pins s σ H _ _ v u Q I rx ry ⟨_, _, c, rfl, rfl, by rw [str_len]; exact hz, by rw [str_tl]; exact e1, q _ Hf H (.refl sb) ⟨rfl, by show 1 ≤ sizeLine; decide⟩⟩ hs
  · rename_i z i
    obtain ⟨z1, p1, rfl, h1⟩ := ix
    cases iy
    cases e1 : L2.atI z i with
    | none => rw [e1] at e; cases e
    | some c =>
      rw [e1] at e
      cases e
      refine ix_list value slice pins s σ H _ _ v u Q I rx ry ⟨_, _, _, _, rfl, rfl, sb.sql h1.sq, ?_, q _ Hf H (.refl sb) (is_int _)⟩ hs
      unfold L2.atI at e1 ⊢
      rw [List.length_map]
      cases q2 : ixN z.length i with
      | none => rw [q2] at e1; cases e1
      | some j =>
        rw [q2] at e1
        have e1' : z[j]? = some c := e1
        show (z.map V.int)[j]? = _
        rw [List.getElem?_map, e1']
        rfl
  · cases e
theorem isL_ints {K : PySem.W.Frag} {mg : Str → Option Value} {H : Hp} : ∀ z : List Int, IsL K mg H (z.map .int) (z.map V.int)
  | [] => rfl
  | c :: z => ⟨_, _, rfl, is_int _, isL_ints z⟩
theorem osl : SlR X (fun x lo hi H Q => ∃ Hf dx d, Sub Hf H ∧ Is X.K X.mg Hf dx x ∧ sliceD dx lo hi = some d ∧ ∀ u Hf' H', Ste [] Hf H Hf' H' → Is X.K X.mg Hf' d u → Q u H') := by
  intro pins s σ H x v vl vu lo hi sl Q I rx hs pl pu h
  obtain ⟨Hf, dx, d, sb, ix, e, q⟩ := h
  unfold sliceD at e
  split at e
  · cases e
    obtain ⟨z1, p1, v1, rfl, h1, l1⟩ := ix
    refine sl_list pins s σ H _ v vl vu lo hi sl Q I rx hs pl pu ⟨_, _, rfl, .inl (.inl (sb _ _ h1)), fun p hp => q _ _ _ (.new sb hp) ?_⟩
    refine ⟨Nat.le_trans (cutL_len _ _ _) z1, p, _, rfl, upd_same, ?_⟩
    have l2 := l1.mono (Ste.new (bag := []) (o := .lst (cutV v1 lo hi)) sb hp).sub
    unfold cutL cutV
    rw [l1.len]
    exact (l2.drop _).take _
  · cases e
    obtain ⟨z1, p1, v1, rfl, h1, l1⟩ := ix
    refine sl_tupA pins s σ H _ v vl vu lo hi sl Q I rx hs pl pu ⟨_, _, rfl, sb.sqt h1, fun z => ?_, fun z p hp => q _ _ _ (.new sb hp) ?_⟩
    · refine q _ _ _ (.refl sb) ⟨Nat.le_trans (cutL_len _ _ _) z1, p1, v1, rfl, h1, ?_⟩
      unfold cutL
      rw [l1.len, z.1, z.2, List.drop_zero, Nat.sub_zero, ← l1.len, List.take_length]
      exact l1
    · refine ⟨Nat.le_trans (cutL_len _ _ _) z1, p, _, rfl, .inl (.inl upd_same), ?_⟩
      have l2 := l1.mono (Ste.new (bag := []) (o := .tup (cutV v1 lo hi)) sb hp).sub
      unfold cutL cutV
      rw [l1.len]
      exact (l2.drop _).take _
  · cases e
    obtain ⟨rfl, hz⟩ := ix
    refine sl_str pins s σ H _ v vl vu lo hi sl Q I rx hs pl pu ⟨_, rfl, by rw [str_len]; exact hz, q _ Hf H (.refl sb) ?_⟩
    refine ⟨?_, Nat.le_trans (cutL_len _ _ _) hz⟩
    unfold cutS cutL
    rw [str_tl, str_len]
  · cases e
    obtain ⟨z1, p1, rfl, h1⟩ := ix
    refine sl_list pins s σ H _ v vl vu lo hi sl Q I rx hs pl pu ⟨_, _, rfl, sb.sql h1.sq, fun p hp => q _ _ _ (.new sb hp) ?_⟩
    refine ⟨by rw [List.length_map]; exact Nat.le_trans (cutL_len _ _ _) z1, p, _, rfl, upd_same, ?_⟩
    have e2 : ∀ (z : List Int) (lo hi : Option Int), cutV (z.map V.int) lo hi = (cutL z lo hi).map V.int := fun z lo hi => by
      unfold cutL cutV
      rw [List.length_map, List.map_take, List.map_drop]
    rw [e2]
    exact isL_ints _
  · cases e
end
section
variable {X : Cx} {fx : Fx} {m : Type → Type} [Mo m] {G : List Sl} {a b e : Expr} {lo hi : Option Expr} {pos p2 : Pos} {x y : m D} {tl th : m (Option Int)}
theorem de_ix (ha : PE X a (tE X.K X.mg fx G x)) (hb : PE X b (tE X.K X.mg fx G y)) (hs : PlainIx b := by exact fun _ _ => rfl) : PE X (.Subscript a b pos) (tE X.K X.mg fx G (do let u ← x; let v ← y; ask (ixD u v))) := peI (pe_ix oix ha hb hs) fun σ H Q ⟨Hf, s, h⟩ =>
  (h.bind.mono fun v1 H1 ⟨d1, Hf1, s1, sb1, r1, h1⟩ => (h1.bind.mono fun v2 H2 ⟨d2, Hf2, s2, sb2, r2, h2⟩ => by
    obtain ⟨d, e, q⟩ := h2.ask
    exact ⟨Hf2, d1, d2, d, h2.1.top, r1.mono sb2, r2, e, q⟩).to).to
theorem poI {o : Option Expr} {t t' : TO} (h : PO X o t) (w : ∀ σ H Q, t' σ H Q → t σ H Q) : PO X o t' := ⟨fun pins s σ H Q I q => h.run pins s σ H Q I (w _ _ _ q)⟩
abbrev tOp' (K : PySem.W.Frag) (mg : Str → Option Value) (fx : Fx) (G : List Sl) (x : m (Option Int)) : TO := tG K mg fx G (fun _ a b => b = a) x
theorem do_none : PO X none (tOp' X.K X.mg fx G (pure none : m (Option Int))) := poI po_none fun σ H Q ⟨Hf, s, h⟩ => h.pure rfl
theorem do_some (he : PE X e (tE X.K X.mg fx G x)) : PO X (some e) (tOp' X.K X.mg fx G (do let d ← x; let i ← ask (intOf d); pure (some i))) := poI (po_some he) fun σ H Q ⟨Hf, s, h⟩ =>
  (h.bind.mono fun v1 H1 ⟨d1, Hf1, s1, sb1, r1, h1⟩ => by
    have k := Mo.wp_lift (Mo.wp_bind h1.2)
    cases d1 with
    | int i => exact ⟨i, r1, (Mo.wp_pure k) _ Hf1 H1 (.refl h1.1.top) h1.1.bag rfl⟩
    | _ => exact k.elim).to
theorem de_sl (he : PE X e (tE X.K X.mg fx G x)) (hl : PO X lo (tOp' X.K X.mg fx G tl)) (hu : PO X hi (tOp' X.K X.mg fx G th)) : PE X (.Subscript e (.Slice lo hi none p2) pos) (tE X.K X.mg fx G (do let d ← x; let l ← tl; let u ← th; ask (sliceD d l u))) :=
  peI (pe_slice osl he hl hu) fun σ H Q ⟨Hf, s, h⟩ =>
  (h.bind.mono fun v1 H1 ⟨d1, Hf1, s1, sb1, r1, h1⟩ => (h1.bind.mono fun v2 H2 ⟨d2, Hf2, s2, sb2, r2, h2⟩ => (h2.bind.mono fun v3 H3 ⟨d3, Hf3, s3, sb3, r3, h3⟩ => by
    subst r2 r3
    obtain ⟨d, e, q⟩ := h3.ask
    exact ⟨Hf3, d1, d, h3.1.top, (r1.mono sb2).mono sb3, e, q⟩).to).to).to
end
/-! ### built-in functions -/
def lenD : List D → Option D
  | [.lst ds] => some (.int ds.length)
  | [.tup ds] => some (.int ds.length)
  | [.str s] => some (.int s.length)
  | [.scr s] => some (.int s.length)
  | _ => none
def listD : List D → Option (List D)
  | [.lst ds] => some ds
  | [.tup ds] => some ds
  | [.str s] => some (chrs s)
  | _ => none
def tupleD : List D → Option D
  | [.lst ds] => some (.tup ds)
  | [.tup ds] => some (.tup ds)
  | _ => none
def intD : List D → Option D
  | [.int i] => some (.int i)
  | [.bl b] => some (.int (if b then 1 else 0))
  | _ => none
def absD : List D → Option D
  | [.int i] => some (.int (if i < 0 then -i else i))
  | _ => none
def maxD : List D → Option D
  | [.int i, .int j] => some (.int (if j > i then j else i))
  | _ => none
def minD : List D → Option D
  | [.int i, .int j] => some (.int (if j < i then j else i))
  | _ => none
section
variable {X : Cx}
theorem oc_len : CallR X (.builtin "len") (rDs X.K X.mg lenD) := by
  intro pins s σ H xs us Q I r h
  obtain ⟨Hf, ds, d, sb, l, e, q⟩ := h
  unfold lenD at e
  split at e
  · cases e
    obtain ⟨v, r1, rfl, ⟨z1, p1, v1, rfl, h1, l1⟩, rfl⟩ := l
    exact call_len_seq pins s σ H _ us Q I r ⟨_, _, rfl, .inl (.inl (.inl (sb _ _ h1))), by rw [← l1.len]; exact q _ Hf H (.refl sb) (is_int _)⟩
  · cases e
    obtain ⟨v, r1, rfl, ⟨z1, p1, v1, rfl, h1, l1⟩, rfl⟩ := l
    exact call_len_seq pins s σ H _ us Q I r ⟨_, _, rfl, .inr (sb.sqt h1), by rw [← l1.len]; exact q _ Hf H (.refl sb) (is_int _)⟩
  · cases e
    obtain ⟨v, r1, rfl, ⟨rfl, hz⟩, rfl⟩ := l
    exact call_len_str pins s σ H _ us Q I r ⟨_, rfl, by rw [str_len]; exact hz, by rw [str_len]; exact q _ Hf H (.refl sb) (is_int _)⟩
  · cases e
    obtain ⟨v, r1, rfl, ⟨z1, p1, rfl, h1⟩, rfl⟩ := l
    exact call_len_seq pins s σ H _ us Q I r ⟨_, _, rfl, .inl (sb.sql h1.sq), by rw [List.length_map]; exact q _ Hf H (.refl sb) (is_int _)⟩
  · cases e
theorem oc_tuple : CallR X (.type "tuple") (rDs X.K X.mg tupleD) := by
  intro pins s σ H xs us Q I r h
  obtain ⟨Hf, ds, d, sb, l, e, q⟩ := h
  unfold tupleD at e
  split at e
  · cases e
    obtain ⟨v, r1, rfl, ⟨z1, p1, v1, rfl, h1, l1⟩, rfl⟩ := l
    refine call_tuple_of pins s σ H _ us Q I r ⟨_, _, rfl, .inl ⟨.inl (.inl (sb _ _ h1)), fun p hp => q _ _ _ (.new sb hp) ?_⟩⟩
    exact ⟨z1, p, _, rfl, .inl (.inl upd_same), l1.mono (Ste.new (bag := []) sb hp).sub⟩
  · cases e
    obtain ⟨v, r1, rfl, ⟨z1, p1, v1, rfl, h1, l1⟩, rfl⟩ := l
    exact call_tuple_of pins s σ H _ us Q I r ⟨_, _, rfl, .inr ⟨sb.sqt h1, q _ _ _ (.refl sb) ⟨z1, p1, v1, rfl, h1, l1⟩⟩⟩
  · cases e
theorem oc_int : CallR X (.type "int") (rDs X.K X.mg intD) := by
  intro pins s σ H xs us Q I r h
  obtain ⟨Hf, ds, d, sb, l, e, q⟩ := h
  unfold intD at e
  split at e
  · cases e
    obtain ⟨v, r1, rfl, rfl, rfl⟩ := l
    exact call_int1 pins s σ H _ us Q I r (.inl ⟨_, rfl, q _ Hf H (.refl sb) (is_int _)⟩)
  · cases e
    obtain ⟨v, r1, rfl, rfl, rfl⟩ := l
    exact call_int1 pins s σ H _ us Q I r (.inr ⟨_, rfl, q _ Hf H (.refl sb) (is_int _)⟩)
  · cases e
theorem oc_abs : CallR X (.builtin "abs") (rDs X.K X.mg absD) := by
  intro pins s σ H xs us Q I r h
  obtain ⟨Hf, ds, d, sb, l, e, q⟩ := h
  unfold absD at e
  split at e
  · cases e
    obtain ⟨v, r1, rfl, rfl, rfl⟩ := l
    exact call_abs pins s σ H _ us Q I r ⟨_, rfl, q _ Hf H (.refl sb) (is_int _)⟩
  · cases e
theorem oc_max (hc : X.calm = true) : CallR X (.builtin "max") (rDs X.K X.mg maxD) := by
  intro pins s σ H xs us Q I r h
  obtain ⟨Hf, ds, d, sb, l, e, q⟩ := h
  unfold maxD at e
  split at e
  · cases e
    obtain ⟨v, r1, rfl, rfl, v2, r2, rfl, rfl, rfl⟩ := l
    exact call_max2 hc pins s σ H _ us Q I r ⟨_, _, rfl, q _ Hf H (.refl sb) (is_int _)⟩
  · cases e
theorem oc_min (hc : X.calm = true) : CallR X (.builtin "min") (rDs X.K X.mg minD) := by
  intro pins s σ H xs us Q I r h
  obtain ⟨Hf, ds, d, sb, l, e, q⟩ := h
  unfold minD at e
  split at e
  · cases e
    obtain ⟨v, r1, rfl, rfl, v2, r2, rfl, rfl, rfl⟩ := l
    exact call_min2 hc pins s σ H _ us Q I r ⟨_, _, rfl, q _ Hf H (.refl sb) (is_int _)⟩
  · cases e
end
/-! ### join -/
def joinN (S : List Nat) : List (List Nat) → List Nat
  | [] => []
  | [p] => p
  | p :: q :: r => p ++ (S ++ joinN S (q :: r))
def strsOf : List D → Option (List (List Nat))
  | [] => some []
  | .str s :: r => (strsOf r).map (s :: ·)
  | _ :: _ => none
def joinD (a b : D) : Option D := match a, sqOf b with
  | .str S, some ds => match strsOf ds with
    | some ps => if (ps.map (·.length)).sum + ps.length * S.length ≤ 16777216 then some (.str (joinN S ps)) else none
    | none => none
  | _, _ => none
theorem joinN_eq (S : List Nat) : ∀ ps, joinN S ps = TL.joinL S ps
  | [] => rfl
  | [_] => rfl
  | p :: q :: r => by rw [joinN, TL.joinL, joinN_eq S (q :: r)]
theorem joinN_len (S : List Nat) : ∀ ps : List (List Nat), (joinN S ps).length ≤ (ps.map (·.length)).sum + ps.length * S.length
  | [] => by simp [joinN]
  | [p] => by simp [joinN]
  | p :: q :: r => by
    have := joinN_len S (q :: r)
    rw [joinN, List.length_append, List.length_append, List.map_cons, List.sum_cons, List.length_cons, Nat.add_mul]
    omega
theorem isL_strs {K : PySem.W.Frag} {mg : Str → Option Value} {H : Hp} : ∀ {ds : List D} {vs : List V} {ps : List (List Nat)}, IsL K mg H ds vs → strsOf ds = some ps → vs = ps.map fun p => .str ⟨p.toArray⟩
  | [], _, _, h, e => by cases h; cases e; rfl
  | .str s :: ds, _, _, h, e => by
    obtain ⟨v, r, rfl, ⟨rfl, _⟩, l⟩ := h
    unfold strsOf at e
    cases q : strsOf ds with
    | none => rw [q] at e; cases e
    | some ps => rw [q] at e; cases e; rw [isL_strs l q]; rfl
  | .non :: _, _, _, _, e => by cases e
  | .bl _ :: _, _, _, _, e => by cases e
  | .int _ :: _, _, _, _, e => by cases e
  | .tup _ :: _, _, _, _, e => by cases e
  | .lst _ :: _, _, _, _, e => by cases e
  | .dic _ _ :: _, _, _, _, e => by cases e
  | .ins _ _ _ :: _, _, _, _, e => by cases e
  | .scr _ :: _, _, _, _, e => by cases e
  | .xc _ _ _ _ :: _, _, _, _, e => by cases e
section
variable {X : Cx} {fx : Fx} {m : Type → Type} [Mo m] {G : List Sl} {o e : Expr} {apos pos : Pos} {x y : m D}
theorem de_join (ho : PE X o (tE X.K X.mg fx G x)) (he : PE X e (tE X.K X.mg fx G y)) (hs : starEach [e] X.env = [(false, eval e X.env)] := by rfl) (hbase : attributeBase o "join" X.env (eval o X.env) = eval o X.env := by rfl) (hline : (apos.endLine == pos.line) = true := by rfl) :
    PE X (.Call (.Attribute o "join" apos) [e] [] pos) (tE X.K X.mg fx G (do let u ← x; let _ ← ask (strOf u); let v ← y; ask (joinD u v))) := peI (pe_join ho he hs hbase hline) fun σ H Q ⟨Hf, s, h⟩ =>
  (h.bind.mono fun v1 H1 ⟨d1, Hf1, s1, sb1, r1, h1⟩ => by
    have k := Mo.wp_lift (Mo.wp_bind h1.2)
    cases d1 with
    | str S =>
      obtain ⟨rfl, hz1⟩ := r1
      refine ⟨⟨_, rfl⟩, ?_⟩
      have h2 : tX X.K X.mg fx G (fun H d v => Is X.K X.mg H d v) (do let v ← y; ask (joinD (.str S) v) : m D) Hf1 s1 σ H1 Q := ⟨h1.1, k⟩
      refine (h2.bind.mono fun v2 H2 ⟨d2, Hf2, s2, sb2, r2, h3⟩ => ?_).to
      obtain ⟨d, e, q⟩ := h3.ask
      unfold joinD at e
      cases e2 : sqOf d2 with
      | none => rw [e2] at e; cases e
      | some ds =>
        rw [e2] at e
        cases e3 : strsOf ds with
        | none => simp only [e3] at e; cases e
        | some ps =>
          simp only [e3] at e
          split at e
          · rename_i hz
            cases e
            have fin : Q (.str (Txt.join ⟨S.toArray⟩ (ps.map fun p => (⟨p.toArray⟩ : Str)))) H2 := by
              refine q _ Hf2 H2 (.refl h3.1.top) ⟨?_, Nat.le_trans (joinN_len S ps) (by rw [sizeLine_eq]; exact hz)⟩
              rw [TL.join_eq]
              congr 1
              have e4 := TL.tl_join ⟨S.toArray⟩ (ps.map fun p => (⟨p.toArray⟩ : Str))
              refine TL.ext_tl ?_
              refine (e4.trans ?_).trans (str_tl (joinN S ps)).symm
              rw [joinN_eq, List.map_map]
              have e5 : (ps.map (TL.tl ∘ fun p => (⟨p.toArray⟩ : Str))) = ps := by
                conv => rhs; rw [← List.map_id ps]
                exact List.map_congr_left fun p _ => str_tl p
              rw [e5]
            have hz' : ((ps.map fun p => (⟨p.toArray⟩ : Str)).map (·.length)).sum + (ps.map fun p => (⟨p.toArray⟩ : Str)).length * (⟨S.toArray⟩ : Str).length ≤ 16777216 := by
              rw [List.map_map, List.length_map, str_len]
              have e5 : (ps.map ((fun x : Str => x.length) ∘ fun p => (⟨p.toArray⟩ : Str))) = ps.map (·.length) := List.map_congr_left fun p _ => str_len p
              rw [e5]
              exact hz
            have em : (ps.map fun p => V.str ⟨p.toArray⟩) = (ps.map fun p => (⟨p.toArray⟩ : Str)).map V.str := by rw [List.map_map]; rfl
            cases d2 with
            | lst es =>
              cases e2
              obtain ⟨z1, p1, w1, rfl, t1, l1⟩ := r2
              have ew := isL_strs l1 e3
              subst ew
              exact ⟨_, p1, _, rfl, rfl, .inl (.inl (.inl (by rw [← em]; exact h3.1.top _ _ t1))), hz', fin⟩
            | tup es =>
              cases e2
              obtain ⟨z1, p1, w1, rfl, t1, l1⟩ := r2
              have ew := isL_strs l1 e3
              subst ew
              exact ⟨_, p1, _, rfl, rfl, .inr (by rw [← em]; exact h3.1.top.sqt t1), hz', fin⟩
            | _ => cases e2
          · cases e
    | _ => exact k.elim).to
end
end DL
namespace DL
open PySem L2
/-! ### times -/
theorem foldl_app (x : Array Nat) : ∀ (n : Nat) (acc : Array Nat), (List.replicate n x).foldl (· ++ ·) acc = acc ++ (List.replicate n x.toList).flatten.toArray
  | 0, acc => by simp
  | n + 1, acc => by
    rw [List.replicate_succ, List.foldl_cons, foldl_app x n, List.replicate_succ, List.flatten_cons]
    apply Array.ext'
    simp
theorem mulS_eq (a : List Nat) (k : Int) (h0 : 0 ≤ k) : Txt.mul ⟨a.toArray⟩ k = ⟨(List.replicate k.toNat a).flatten.toArray⟩ := by
  unfold Txt.mul
  by_cases h1 : k < 1
  · have : k = 0 := by omega
    subst this
    rfl
  · rw [if_neg h1]
    by_cases h2 : (k == 1 || (⟨a.toArray⟩ : Str).length == 0) = true
    · rw [if_pos h2]
      rw [str_len] at h2
      by_cases h3 : k = 1
      · subst h3
        simp
      · have : a.length = 0 := by simpa [h3] using h2
        have : a = [] := List.length_eq_zero_iff.mp this
        subst this
        simp
    · rw [if_neg h2, foldl_app]
      simp
theorem rep_len {α : Type} (a : List α) (n : Nat) : (List.replicate n a).flatten.length = a.length * n := by
  simp [Nat.mul_comm]
theorem isL_rep {K : PySem.W.Frag} {mg : Str → Option Value} {H : Hp} {ds : List D} {vs : List V} (l : IsL K mg H ds vs) : ∀ n : Nat, IsL K mg H (List.replicate n ds).flatten (List.replicate n vs).flatten
  | 0 => rfl
  | n + 1 => by
    rw [List.replicate_succ, List.replicate_succ, List.flatten_cons, List.flatten_cons]
    exact l.app (isL_rep l n)
section
variable {X : Cx}
theorem od_mul : OpR X (binaryOp .Mult) (rD2 X.K X.mg mulD) := by
  intro pins s σ H x y v u Q I rx ry h
  obtain ⟨Hf, dx, dy, d, sb, ix, iy, e, q⟩ := h
  unfold mulD at e
  split at e
  · split at e
    · rename_i i j hc
      cases e; cases ix; cases iy
      exact op_mulW pins s σ H _ _ v u Q I rx ry ⟨_, _, rfl, rfl, hc, q _ Hf H (.refl sb) (is_int _)⟩
    · cases e
  · split at e
    · rename_i a k hc
      cases e
      obtain ⟨rfl, hz⟩ := ix
      cases iy
      obtain ⟨t, rfl⟩ := rx
      obtain ⟨t2, rfl⟩ := ry
      have hl : (⟨a.toArray⟩ : Str).length = a.length := str_len a
      refine SB.mul ⟨?_, fun h1 _ => ?_, fun h1 _ => ?_⟩ fun t' k' => ?_
      · rw [Bool.or_eq_false_iff]
        exact ⟨decide_eq_false (by omega), decide_eq_false (by omega)⟩
      · rw [hl]
        have h2 : ((a.length * k.toNat : Nat) : Int) ≤ 1000000 := by omega
        rw [Int.natCast_mul, Int.toNat_of_nonneg hc.1] at h2
        have := Int.le_ediv_of_mul_le (a := (a.length : Int)) (b := 2 ^ 63 - 1) (c := k) (by omega) (by omega)
        omega
      · unfold Builtin.Str.tooLong
        rw [hl, sizeLine_eq]
        exact decide_eq_false (by omega)
      · rw [mulS_eq a k hc.1]
        refine ⟨.str _, H, I.tok k', ⟨t', rfl⟩, q _ Hf H (.refl sb) ⟨rfl, ?_⟩⟩
        rw [rep_len, sizeLine_eq]
        omega
    · cases e
  · split at e
    · rename_i a k hc
      cases e
      obtain ⟨z1, p1, v1, rfl, h1, l1⟩ := ix
      cases iy
      refine op_rep pins s σ H _ _ v u Q I rx ry ⟨_, _, _, rfl, rfl, sb _ _ h1, by omega, by omega, ?_, fun p hp => q _ _ _ (.new sb hp) ⟨?_, p, _, rfl, upd_same, ?_⟩⟩
      · rw [← l1.len, sizeLine_eq]; omega
      · rw [rep_len, sizeLine_eq]; omega
      · have l2 := l1.mono (Ste.new (bag := []) (o := .lst (List.replicate k.toNat v1).flatten) sb hp).sub
        exact isL_rep l2 _
    · cases e
  · cases e
end
end DL
namespace DL
open PySem L2
section
variable {X : Cx}
theorem isNone_is {K : PySem.W.Frag} {mg : Str → Option Value} {H : Hp} {d : D} {v : V} {b : Bool} (i : Is K mg H d v) (e : isNone d = some b) : decide (v = .non) = b := by
  cases d with
  | non => cases i; cases e; rfl
  | bl c => cases i; cases e; rfl
  | int c => cases i; cases e; rfl
  | str c => obtain ⟨rfl, _⟩ := i; cases e; rfl
  | tup ds => obtain ⟨_, a, vs, rfl, _⟩ := i; cases e; rfl
  | lst ds => obtain ⟨_, a, vs, rfl, _⟩ := i; cases e; rfl
  | dic _ _ => obtain ⟨a, vs, rfl, _⟩ := i; cases e; rfl
  | ins _ _ _ => obtain ⟨a, c, dd, vs, rfl, _⟩ := i; cases e; rfl
  | scr _ => obtain ⟨_, a, rfl, _⟩ := i; cases e; rfl
  | xc _ _ _ _ => obtain ⟨rfl, _⟩ := i; cases e; rfl
theorem od_is : OpR X (compareOp .Is) (rD2 X.K X.mg isD) := by
  intro pins s σ H x y v u Q I rx ry h
  obtain ⟨Hf, dx, dy, d, sb, ix, iy, e, q⟩ := h
  unfold isD at e
  split at e
  · cases iy
    cases e1 : isNone dx with
    | none => rw [e1] at e; cases e
    | some b =>
      rw [e1] at e; cases e
      have e2 := isNone_is ix e1
      exact op_isN pins s σ H _ _ v u Q I rx ry ⟨rfl, by rw [e2]; exact q _ Hf H (.refl sb) (is_bl _)⟩
  · cases e; cases ix; cases iy
    exact op_isBl pins s σ H _ _ v u Q I rx ry ⟨_, _, rfl, rfl, q _ Hf H (.refl sb) (is_bl _)⟩
  · cases e
theorem od_isNot : OpR X (compareOp .IsNot) (rD2 X.K X.mg isNotD) := by
  intro pins s σ H x y v u Q I rx ry h
  obtain ⟨Hf, dx, dy, d, sb, ix, iy, e, q⟩ := h
  unfold isNotD at e
  split at e
  · cases iy
    cases e1 : isNone dx with
    | none => rw [e1] at e; cases e
    | some b =>
      rw [e1] at e; cases e
      have e2 := isNone_is ix e1
      exact op_notN pins s σ H _ _ v u Q I rx ry ⟨rfl, by rw [e2]; exact q _ Hf H (.refl sb) (is_bl _)⟩
  · cases e; cases ix; cases iy
    exact op_notBl pins s σ H _ _ v u Q I rx ry ⟨_, _, rfl, rfl, q _ Hf H (.refl sb) (is_bl _)⟩
  · cases e
theorem in_core (hu : X.A.units + 65 < cLine) {pins : List (Addr × Obj)} {s : Shared} {σ : L2.St} {H : Hp} {x y : V} {v u : Value} (I : Inv X pins σ H s) (rx : RelV x v) (ry : RelV y u) {Hf : Hp} {dx dy : D} {b : Bool} (sb : Sub Hf H) (ix : Is X.K X.mg Hf dx x) (iy : Is X.K X.mg Hf dy y) (e : inP dx dy = some b) :
    (∀ Q : VK, Q (.bl b) H → wpAny (model X.prog X.w) X.A (compareOp .In v u) (EP X pins σ Q) X.xe s) ∧ (∀ Q : VK, Q (.bl (!b)) H → wpAny (model X.prog X.w) X.A (compareOp .NotIn v u) (EP X pins σ Q) X.xe s) := by
  unfold inP at e
  split at e
  · obtain ⟨rfl, _⟩ := ix
    obtain ⟨rfl, _⟩ := iy
    cases e
    refine ⟨fun Q q => op_in_sign pins s σ H _ _ v u Q I rx ry ⟨_, _, rfl, rfl, by rw [str_tl]; exact q⟩, fun Q q => op_notIn_sign pins s σ H _ _ v u Q I rx ry ⟨_, _, rfl, rfl, by rw [str_tl]; exact q⟩⟩
  · rename_i ds
    split at e
    · rename_i p ys e1 e2
      split at e
      · rename_i hc
        cases e
        rw [Bool.and_eq_true] at hc
        refine ⟨fun Q q => op_inD hu pins s σ H _ _ v u Q I rx ry ⟨p, ys, (ix.mono sb).dp e1, (iy.mono sb).dp e2, hc.1, hc.2, q⟩, fun Q q => op_notInD hu pins s σ H _ _ v u Q I rx ry ⟨p, ys, (ix.mono sb).dp e1, (iy.mono sb).dp e2, hc.1, hc.2, q⟩⟩
      · cases e
    · cases e
  · rename_i ds
    split at e
    · rename_i p ys e1 e2
      split at e
      · rename_i hc
        cases e
        rw [Bool.and_eq_true] at hc
        obtain ⟨as, r1⟩ := Dp.reads I p x v ((ix.mono sb).dp e1) rx
        obtain ⟨bs, r2⟩ := Dp.reads I _ y u ((iy.mono sb).dp e2) ry
        have cl : PyData.canLayAll0 ys = true := by
          have := SeqAt.canLay_of_shaped hc.2
          simpa [PyData.canLay0] using this
        exact ⟨fun Q q => SeqAt.in_tuple_reads r2 r1 cl (SeqAt.canLay_of_shaped hc.1) (PyProof.Rows.room_in_shaped hc.1 hu) ⟨.bl _, H, I, rfl, q⟩,
          fun Q q => SeqAt.notIn_tuple_reads r2 r1 cl (SeqAt.canLay_of_shaped hc.1) (PyProof.Rows.room_in_shaped hc.1 hu) ⟨.bl _, H, I, rfl, q⟩⟩
      · cases e
    · cases e
  · cases e
theorem od_in (hu : X.A.units + 65 < cLine) : OpR X (compareOp .In) (rD2 X.K X.mg inD) := by
  intro pins s σ H x y v u Q I rx ry h
  obtain ⟨Hf, dx, dy, d, sb, ix, iy, e, q⟩ := h
  unfold inD at e
  cases e1 : inP dx dy with
  | none => rw [e1] at e; cases e
  | some b => rw [e1] at e; cases e; exact (in_core hu I rx ry sb ix iy e1).1 Q (q _ Hf H (.refl sb) (is_bl _))
theorem od_notIn (hu : X.A.units + 65 < cLine) : OpR X (compareOp .NotIn) (rD2 X.K X.mg notInD) := by
  intro pins s σ H x y v u Q I rx ry h
  obtain ⟨Hf, dx, dy, d, sb, ix, iy, e, q⟩ := h
  unfold notInD at e
  cases e1 : inP dx dy with
  | none => rw [e1] at e; cases e
  | some b => rw [e1] at e; cases e; exact (in_core hu I rx ry sb ix iy e1).2 Q (q _ Hf H (.refl sb) (is_bl _))
end
/-! ### isinstance -/
def tyD : D → Option String
  | .non => some "NoneType"
  | .bl _ => some "bool"
  | .int _ => some "int"
  | .str _ => some "str"
  | .tup _ => some "tuple"
  | .lst _ => some "list"
  | .scr _ => some "list"
  | .xc _ _ _ _ => none
  | .dic _ _ => some "dict"
  | .ins _ _ _ => none
def isiD (T : String) (d : D) : Option D := match tyD d with
  | some a => (kitB a T).map .bl
  | none => none
theorem tyD_is {K : PySem.W.Frag} {mg : Str → Option Value} {Hf H : Hp} (sb : Sub Hf H) {d : D} {v : V} {T : String} (i : Is K mg Hf d v) (e : tyD d = some T) : TyX K H v (.type T) := by
  cases d with
  | non => cases i; cases e; exact .base .non
  | bl c => cases i; cases e; exact .base (.bl _)
  | int c => cases i; cases e; exact .base (.int _)
  | str c => obtain ⟨rfl, _⟩ := i; cases e; exact .base (.str _)
  | tup ds =>
    obtain ⟨_, a, vs, rfl, h, _⟩ := i
    cases e
    rcases sb.sqt h with (h | ⟨o, h⟩) | h
    · exact .base (.tup h)
    · exact .fTuple h
    · obtain ⟨o, its, n, h1, h2, h3⟩ := h
      exact .kTuple h1 h2
  | lst ds =>
    obtain ⟨_, a, vs, rfl, h, _⟩ := i
    cases e
    exact .base (.lst (sb _ _ h))
  | dic _ _ =>
    obtain ⟨a, vs, rfl, h, _⟩ := i
    cases e
    rcases sb.rd h with h | ⟨o, h⟩
    · exact .base (.dK h)
    · exact .fDict h
  | ins _ _ _ => cases e
  | xc _ _ _ _ => cases e
  | scr _ =>
    obtain ⟨_, a, rfl, h⟩ := i
    cases e
    rcases sb.sql h.sq with (h | ⟨o, h⟩) | h
    · exact .base (.lst h)
    · exact .base (.frz h)
    · obtain ⟨o, its, n, h1, h2, h3⟩ := h
      exact .kList h1 h2
section
variable {X : Cx} {fx : Fx} {m : Type → Type} [Mo m] {G : List Sl} {e : Expr} {p p2 pos : Pos} {x : m D}
theorem de_isi (T : String) {n : Str} (he : PE X e (tE X.K X.mg fx G x)) (hg : Gl X "isinstance") (hm : X.mg "isinstance" = none) (hg2 : Gl X n) (hm2 : X.mg n = none) (hv2 : bootBuiltins n = some (.type T))
    (hn : n ≠ "__name__" := by decide) (hdb : (n == ("__debug__" : Str)) = false := by decide) (hs : starEach [e, .Name n p2] X.env = (false, eval e X.env) :: starEach [.Name n p2] X.env := by rfl) (hs2 : starEach [.Name n p2] X.env = (false, eval (.Name n p2) X.env) :: starEach [] X.env := by rfl) (hpl : (backTo pos (starEach [.Name n p2] X.env)).any (·.1) = false := by rfl) :
    PE X (.Call (.Name "isinstance" p) [e, .Name n p2] [] pos) (tE X.K X.mg fx G (do let d ← x; ask (isiD T d))) :=
  peI (pe_callB call_isi hg hm rfl (pa_cons he (pa_cons (pe_bltn (v := .ty T) hg2 hm2 hv2 rfl hn hdb) pa_nil hs2) hs) (by decide) (by decide) hs hpl) fun σ H Q ⟨Hf, s, h⟩ =>
  (h.bind.mono fun v1 H1 ⟨d1, Hf1, s1, sb1, r1, h1⟩ => by
    obtain ⟨d, e, q⟩ := h1.ask
    unfold isiD at e
    cases e1 : tyD d1 with
    | none => rw [e1] at e; cases e
    | some a =>
      simp only [e1] at e
      cases e2 : kitB a T with
      | none => rw [e2] at e; cases e
      | some b =>
        rw [e2] at e
        cases e
        exact ⟨v1, .ty T, _, _, b, rfl, .ty T, tyD_is h1.1.top r1 e1, kit_ty e2, q _ Hf1 H1 (.refl h1.1.top) (is_bl _)⟩).to
end
/-! ### all, any -/
def bolsOf : List D → Option (List Bool)
  | [] => some []
  | .bl b :: r => (bolsOf r).map (b :: ·)
  | _ :: _ => none
def allD : List D → Option D
  | [.lst ds] => (bolsOf ds).map fun bs => .bl (bs.all id)
  | _ => none
/-! ### repr -/
end DL
namespace DL
open PySem L2
/-! ### lists of the frame's own, changed -/
/-! ### the answer is a new list -/
end DL
namespace DL
open PySem L2
/-! ### the bag -/
section
variable {X : Cx} {fx : Fx} {G : List Sl} {α β : Type} {kk : Nat} {e : Expr} {rest : List Stmt} {ex : α → List Sl} {exb : β → List Sl} {pos p2 np apos : Pos} {n : Str} {j : Nat}
/-- the bag's object is changed -/
theorem StS.bagUpd {K : PySem.W.Frag} {mg : Str → Option Value} {Hf H : Hp} {σ : L2.St} {s s' : S} {b : Addr} {o : HO} (st : StS K mg fx Hf H σ G s) (hb : b ∈ fx.bag) (bg : BagAt fx.bag (upd H b o) s') : StS K mg fx Hf (upd H b o) σ G s' := by
  have hf := (st.bagf b hb).1
  refine ⟨⟨st.ste.sub, fun a u q => ?_, fun a u q n => ?_, fun a n => ?_, st.ste.fresh⟩, bg, fun c hc => ⟨(st.bagg c hc).1, ?_, (st.bagg c hc).2.2⟩, st.len, fun i x ex => ?_, st.dis⟩
  · have ne : a ≠ b := fun z => by rw [z, hf] at q; cases q
    rw [upd_ne ne]; exact st.top a u q
  · have ne : a ≠ b := fun z => n (List.mem_append_right _ (z ▸ hb))
    rw [upd_ne ne]; exact st.ste.keep a u q n
  · by_cases c : a = b
    · rw [c, upd_same]; simp
    · rw [upd_ne c]; exact st.ste.dom a n
  · by_cases q : c = b
    · rw [q, upd_same]; simp
    · rw [upd_ne q]; exact (st.bagg c hc).2.1
  · exact (st.sl i x ex).upd fun q ox e z => by
      obtain ⟨q2, e2, _, _, nb, _⟩ := (st.sl i x ex).ref ox
      rw [e] at e2
      cases e2
      exact nb (z ▸ hb)
end
/-! ### a def whose answer is a new list -/
/-! ### a bag is made -/
section
variable {K : PySem.W.Frag} {mg : Str → Option Value} {fx : Fx}
def noBg : Sl → Bool
  | .bg => false
  | _ => true
end
end DL
namespace DL
open PySem L2 PyProof.Rows PySem.Spec
/-! ### the end -/
section
variable {P : Program} {w : World} {K : PySem.W.Frag} {mg mb : Str → Option Value} {k : Nat} {fa a : Addr} {fd : FuncData} {x : Str} {g : List D → R D} {s1 : Shared} {vs : List Value} {ns : List Int}
/-- the module's facts, behind what is tracked -/
theorem mod_hid {H : Hp} (KX : K.In s1.heap) (hns : s1.heap.Ns mainGlobals mg) (hb : s1.heap.Ns builtinsNs mb) (hbb : ∀ x : Str, x ≠ "__name__" → mb x = bootBuiltins x) (hlim : s1.heap.NoLimit)
    (hd : ∀ (b : Addr) (o : Obj) (es : Array DictEntry) (ep : Nat), s1.heap.get? b = some o → o.data = .dict es ep → H b = none) (hk : ∀ b o, K.lookup b = some o → H b = none) : Mod K mg (hidT s1.heap H) := by
  have nsK : ∀ {b : Addr} {m : Str → Option Value}, s1.heap.Ns b m → (hidT s1.heap H).Ns b m := fun {b m} ⟨o, es, ep, e, d, r⟩ => ⟨o, es, ep, hidT_get e (hd _ _ _ _ e d), d, r⟩
  exact ⟨fun b o e => hidT_get (KX b o e) (hk b o e), nsK hns, ⟨mb, nsK hb, hbb⟩, let ⟨mc, h1, h2⟩ := hlim; ⟨mc, nsK h1, h2⟩⟩
/-- the law's def, called on a script that the heap H tells -/
theorem call_at {H : Hp} (KX : K.In s1.heap) (hns : s1.heap.Ns mainGlobals mg) (hb : s1.heap.Ns builtinsNs mb) (hbb : ∀ x : Str, x ≠ "__name__" → mb x = bootBuiltins x) (hlim : s1.heap.NoLimit) (hgn : s1.gens = #[])
    (hd : ∀ (b : Addr) (o : Obj) (es : Array DictEntry) (ep : Nat), s1.heap.get? b = some o → o.data = .dict es ep → H b = none) (hk : ∀ b o, K.lookup b = some o → H b = none) (hf : ∀ b u, H b = some u → ∃ o xs, u = .frz o (.lst xs)) (hok : HOk P w H s1.heap) (hr : Room k callerA)
    (F : ∀ base : Heap, K.In base → base.Ns mainGlobals mg → FnG P w K mg base k fa fd [x] (spR K mg false 1 g)) (hbind : ∀ (s : Shared) (u : Value), BindsTo s fd ⟨[u], []⟩ [(x, u)])
    (hS : ScL K H a (ns.map V.int)) (hl : ns.length ≤ sizeLine) (hg : g [.scr ns] = .ok (.bl true)) :
    codeAny (model P w) callerA (.call (.ref fa) ⟨[.ref a], []⟩) (fun r s' => r = .ok (.ret (.bool true)) ∧ OldK s1.heap s'.heap ∧ s'.os = s1.os ∧ AllBare s'.gens) s1 := by
  have hM := mod_hid (H := H) KX hns hb hbb hlim hd hk
  have e0 : Env0 P w K mg (hidT s1.heap H) callerA [] s1 H := ⟨rfl, hM, fun b o e => of_hidT e, Nat.le_of_eq (hidT_size _ _), trivial, fun b hb => absurd (show b ∈ ([] : List Addr) from hb) (by simp), hok, .of_eq hgn⟩
  have hsp : spR K mg false 1 g [.ref a] H (fun v _ => v = .bl true) (fun _ _ _ => False) := by
    refine ⟨rfl, H, [.scr ns], .refl H, ⟨_, _, rfl, ⟨hl, a, rfl, hS⟩, rfl⟩, ?_⟩
    rw [hg]
    exact fun v Hf' H' _ e => e
  refine codeAny_mono ((F _ hM.kin hM.glob).run callerA [] s1 H ⟨[.ref a], []⟩ [.ref a] [.ref a] _ _ rfl hr e0 (hbind s1 (.ref a)) (.cons rfl .nil) hsp) fun r s' h => ?_
  cases r with
  | error e =>
    have h' : L2.CX P w [] H s1 (fun _ _ _ => False) e s' := h
    obtain ⟨_, _, _, _, _, _, _, _, _, _, _, _, z⟩ := h'
    exact z.elim
  | ok fl =>
    cases fl with
    | next => exact False.elim h
    | brk => exact False.elim h
    | cont => exact False.elim h
    | ret u =>
      obtain ⟨v, H', os, bare, un, hok', r', q⟩ := h
      have q' : v = .bl true := q
      subst q'
      obtain rfl : u = Value.bool true := r'
      refine ⟨rfl, OldK.of_keep fun b o e => ?_, os, bare⟩
      cases q : H b with
      | none => exact un.keep b o e q (by intro z; exact absurd (show b ∈ ([] : List Addr) from z) (by simp)) (by simp)
      | some u =>
        obtain ⟨ob, xs, rfl⟩ := hf b u q
        have z2 := un.frzs b ob _ q
        obtain ⟨e1, _⟩ := hok b _ q
        obtain ⟨e2, _⟩ := hok' b _ z2
        rw [e] at e1; cases e1
        exact e2
/-- the script that one knows as a list object -/
def scrH (a : Addr) (o : Obj) (xs : List V) : Hp := fun b => if b = a then some (.frz o (.lst xs)) else none
theorem scrH_at {a : Addr} {o : Obj} {xs : List V} : scrH a o xs a = some (.frz o (.lst xs)) := if_pos rfl
theorem scrH_ne {a b : Addr} {o : Obj} {xs : List V} (h : b ≠ a) : scrH a o xs b = none := if_neg h
theorem scrH_inv {a b : Addr} {o : Obj} {xs : List V} {u : HO} (h : scrH a o xs b = some u) : b = a ∧ u = .frz o (.lst xs) := by
  by_cases q : b = a
  · subst q
    rw [scrH_at] at h
    exact ⟨rfl, (Option.some.inj h).symm⟩
  · rw [scrH_ne q] at h
    cases h
theorem law_callG (KX : K.In s1.heap) (hns : s1.heap.Ns mainGlobals mg) (hb : s1.heap.Ns builtinsNs mb) (hbb : ∀ x : Str, x ≠ "__name__" → mb x = bootBuiltins x) (hlim : s1.heap.NoLimit) (hgn : s1.gens = #[])
    (ha : s1.heap.get? a = some { cls := .type "list", data := .seq vs.toArray }) (hi : IntsAre vs ns) (hl : ns.length ≤ sizeLine) (hr : Room k callerA)
    (F : ∀ base : Heap, K.In base → base.Ns mainGlobals mg → FnG P w K mg base k fa fd [x] (spR K mg false 1 g)) (hbind : ∀ (s : Shared) (u : Value), BindsTo s fd ⟨[u], []⟩ [(x, u)]) (hg : g [.scr ns] = .ok (.bl true)) :
    codeAny (model P w) callerA (.call (.ref fa) ⟨[.ref a], []⟩) (fun r s' => r = .ok (.ret (.bool true)) ∧ OldK s1.heap s'.heap ∧ s'.os = s1.os ∧ AllBare s'.gens) s1 := by
  have rv := vals_ints hi
  cases hk : K.lookup a with
  | some o =>
    have e := KX a o hk
    rw [ha] at e
    cases e
    refine call_at (H := fun _ => none) KX hns hb hbb hlim hgn (fun _ _ _ _ _ _ => rfl) (fun _ _ _ => rfl) (fun b u z => nomatch z) (fun b u z => nomatch z) hr F hbind (.inr ⟨_, vs.toArray, _, hk, rfl, rfl, rfl, ?_, by simpa using rv⟩) hl hg
    rw [List.size_toArray, hi.length]
    exact hl
  | none =>
    refine call_at (H := scrH a { cls := .type "list", data := .seq vs.toArray } (ns.map V.int)) KX hns hb hbb hlim hgn (fun b o es ep e d => ?_) (fun b o e => ?_) (fun b u z => ⟨_, _, (scrH_inv z).2⟩) (fun b u z => ?_) hr F hbind (.inl ⟨_, scrH_at⟩) hl hg
    · refine scrH_ne fun q => ?_
      subst q
      rw [ha] at e; cases e
      have d' : Data.seq vs.toArray _ = Data.dict es ep := d
      cases d'
    · refine scrH_ne fun q => ?_
      subst q
      rw [hk] at e; cases e
    · obtain ⟨rfl, rfl⟩ := scrH_inv z
      exact ⟨ha, by rw [List.length_map]; exact hl, vs, _, rv, ha⟩
end
/-- the goal that k_head leaves, from the law's promise -/
theorem walk_g {l : PySem.W.OpenLaw} {n k : Nat} {q : Program} {loose : List Str} {XP : (Str → Option Value) → Heap → Prop} {YP : World → Heap → Prop} {d : DefRec} {K : Params → PySem.W.Frag} {x : Str} {g : List D → R D}
    (hn : l.most = some n) (hn2 : n ≤ sizeLine) (hdf : d.params.defaults = []) (hr : Room k callerA) (hY : ∀ (w : World) (h : Heap), YP w h → (K w.params).In h)
    (F : ∀ (w : World) (mg : Str → Option Value) (fa : Addr) (h : Heap), (K w.params).In h → h.Ns mainGlobals mg → mg d.name = some (.ref fa) →
      ∃ fd : FuncData, (∀ (s : Shared) (u : Value), BindsTo s fd ⟨[u], []⟩ [(x, u)]) ∧ ∀ base : Heap, (K w.params).In base → base.Ns mainGlobals mg → FnG l.prog w (K w.params) mg base k fa fd [x] (spR (K w.params) mg false 1 g))
    (hg : ∀ ns : List Int, ns.length ≤ n → g [.scr ns] = .ok (.bl true)) :
    PySem.W.WalkO q loose XP YP l.row.toRowW d [] (fun f vs => PySem.call f vs) := by
  refine Att.attach_call hn hdf fun w s0 s1 mg mb fa o pm cd doc a vs ns G Y ho hd hcd hmg hobj hints hlen hgn => ?_
  have KX := hY w _ Y
  obtain ⟨fd, hb, hF⟩ := F w mg fa _ KX G.T.g hmg
  exact law_callG KX G.T.g G.T.b G.T.builtins G.T.nolimit hgn hobj hints (Nat.le_trans hlen hn2) hr hF hb (hg ns hlen)
end DL
namespace DL
open PySem L2
section
variable {X : Cx} {tg l : Expr} {tl : TE}
section
variable {X : Cx} {tg l : Expr} {tl : TE}
/-- a list, a tuple or a text is walked -/
theorem iter_any {pins : List (Addr × Obj)} {σ : L2.St} {H1 : Hp} {s1 : Shared} {R : It → Hp → Prop} {x : V} {v : Value} (I : L2.Inv X pins σ H1 s1) (rel : RelV x v)
    (h : (∃ z : Str, x = .str z ∧ R (Its z) H1) ∨ ∃ a, x = .ref a ∧ (((∃ xs, SqL X.K H1 a xs) ∧ R (Itl X.K a) H1) ∨ ((∃ xs, SqT X.K H1 a xs) ∧ R (Itt X.K a) H1))) :
    wpAny (model X.prog X.w) X.A (pyIter v) (PIE X pins σ tg R) X.xe s1 := by
  rcases h with ⟨z, rfl, q⟩ | ⟨a, rfl, q⟩
  · obtain ⟨t, rfl⟩ := rel
    by_cases narrow : z.cps.all (· < 128) = true
    · exact wpAny_pyIter_ascii narrow (pi_one (tk := s1.toks) I _ (turn_str _ z t "str_ascii_iterator" (.inl rfl)) ⟨_, Heap.get?_push_size _ rfl, rfl, rfl⟩ q)
    · exact wpAny_pyIter_wide (Bool.eq_false_iff.mpr narrow) (pi_one (tk := s1.toks) I _ (turn_str _ z t "str_iterator" (.inr rfl)) ⟨_, Heap.get?_push_size _ rfl, rfl, rfl⟩ q)
  · cases rel
    exact iter_sq I q
theorem pi_any (hl : PE X l tl) : PI X tg l (fun σ H R => tl σ H fun x H1 => (∃ z : Str, x = .str z ∧ R (Its z) H1) ∨ ∃ a, x = .ref a ∧ (((∃ xs, SqL X.K H1 a xs) ∧ R (Itl X.K a) H1) ∨ ((∃ xs, SqT X.K H1 a xs) ∧ R (Itt X.K a) H1))) where
  run pins s σ H R I h := wpAny_mono (hl.run pins s σ H _ I h) (fun v s1 ⟨x, H1, I1, rel, q⟩ => iter_any I1 rel q) fun _ _ z => z
end
end
section
variable {X : Cx} {fx : Fx} {m : Type → Type} [Mo m] {G : List Sl} {tg l c a b : Expr} {x y : m D} {t : m Bool} {pos : Pos} {kk : Nat}
def itD : D → Option (List D)
  | .lst ds => some ds
  | .tup ds => some ds
  | .str s => some (chrs s)
  | .scr is => some (is.map .int)
  | _ => none
theorem yl_scr {K : PySem.W.Frag} {mg : Str → Option Value} {Hf : Hp} {is : List Int} {a : Addr} (hz : is.length ≤ sizeLine) (h : SqL K Hf a (is.map V.int)) : Yl K mg (Itl K a) Hf (is.map .int) := ⟨by simpa using hz, fun Hf2 H s1 s2 i => by
  have hq : SqL K H a (is.map V.int) := s2.sql (s1.sql h)
  have l : IsL K mg Hf (is.map .int) (is.map V.int) := isL_ints is
  refine ⟨fun d hd => ?_, fun hl => ⟨_, hq, by rw [← l.len]; exact hl⟩⟩
  obtain ⟨v, hv, iv⟩ := l.get hd
  exact ⟨⟨_, v, hq, hv⟩, fun x H' ⟨e, f⟩ => by
    subst e
    have := f _ hq
    rw [hv] at this
    cases this
    exact ⟨Hf2, .refl s2, iv.mono s1⟩⟩⟩
theorem di_any (h : PE X l (tE X.K X.mg fx G x)) : PI X tg l (tI X.K X.mg fx G (do let d ← x; ask (itD d))) := piI (pi_any h) fun σ H Q ⟨Hf, s, h⟩ =>
  (h.bind.mono fun v H1 ⟨d, Hf1, s1, sb, r, h1⟩ => by
    obtain ⟨ds, e, q⟩ := h1.ask
    cases d with
    | lst es =>
      cases e
      obtain ⟨hz, a, vs, rfl, t, il⟩ := r
      exact .inr ⟨a, rfl, .inl ⟨⟨vs, .inl (.inl (h1.1.top _ _ t))⟩, q _ Hf1 H1 (.refl h1.1.top) (yl_list hz t il)⟩⟩
    | tup es =>
      cases e
      obtain ⟨hz, a, vs, rfl, t, il⟩ := r
      exact .inr ⟨a, rfl, .inr ⟨⟨vs, h1.1.top.sqt t⟩, q _ Hf1 H1 (.refl h1.1.top) (yl_tup hz t il)⟩⟩
    | str z =>
      cases e
      exact .inl ⟨_, r.1, q _ Hf1 H1 (.refl h1.1.top) (yl_str z r.2)⟩
    | scr is =>
      cases e
      obtain ⟨hz, a, rfl, t⟩ := r
      exact .inr ⟨a, rfl, .inl ⟨⟨_, h1.1.top.sql t.sq⟩, q _ Hf1 H1 (.refl h1.1.top) (yl_scr hz t.sq)⟩⟩
    | _ => cases e).to
/-! ### an own list, read -/
theorem Ste.forget {bag : List Addr} {Hf Hf1 H Hf' H' : Hp} (sb : Sub Hf Hf1) (e : Ste bag Hf1 H Hf' H') : Ste bag Hf H Hf H' := ⟨.refl _, (sb.trans e.sub).trans e.top, e.keep, e.dom, fun _ _ q => .inl q⟩
theorem dt_thaw {ds : List D} (i : Nat) (h : PT X c (tT X.K X.mg fx (G.set i (.im (.lst ds))) t)) (hG : G[i]? = some (.ow ds) := by rfl) : PT X c (tT X.K X.mg fx G (Mo.noex t)) := ptI h fun σ H Q ⟨Hf, s, st, w⟩ => by
  obtain ⟨Hf', sb, st'⟩ := st.freeze hG
  exact ⟨Hf', s, st', Mo.wp_mono (Mo.wp_noex w) (fun a s' k b Hf2 H2 e bg r => k b Hf H2 (e.forget sb) bg r) fun _ _ f => f.elim⟩
def negD : D → Option D
  | .int i => some (.int (-i))
  | _ => none
theorem de_neg (ha : PE X a (tE X.K X.mg fx G x)) : PE X (.UnaryOp .USub a pos) (tE X.K X.mg fx G (do let d ← x; ask (negD d))) := peI (pe_un un_neg ha) fun σ H Q ⟨Hf, s, h⟩ =>
  (h.bind.mono fun v H1 ⟨d, Hf1, s1, sb, r, h1⟩ => by
    obtain ⟨e, q0, q⟩ := h1.ask
    cases d with
    | int i =>
      cases q0
      cases r
      exact ⟨_, rfl, q _ Hf1 H1 (.refl h1.1.top) (is_int _)⟩
    | _ => cases q0).to
end
/-! ### a, b = x, y -/
section
variable {X : Cx} {fx : Fx} {m : Type → Type} [Mo m] {G : List Sl} {α β : Type} {kk : Nat} {a b : Expr} {rest : List Stmt} {ex : α → List Sl} {exb : β → List Sl} {pos px py pt pt2 : Pos} {n1 n2 : Str} {kt k2 : Nat}
theorem dss_parEE {x y : m D} {k : D → D → m (Fl α β)} (C : Cok X fx kk) (i j : Nat) (ha : PE X a (tE X.K X.mg fx G x)) (hb : PE X b (tE X.K X.mg fx G y)) (hr : ∀ d e, PSs X rest (tS X.K X.mg fx ((G.set i (.im d)).set j (.im e)) ex exb (k d e)))
    (hij : i ≠ j := by decide) (hi : X.N[i]? = some n1 := by rfl) (hj : X.N[j]? = some n2 := by rfl) (hx : X.env.scope.names.lookup n1 = some .local := by rfl) (hy : X.env.scope.names.lookup n2 = some .local := by rfl)
    (hw : swappedStores [.Tuple [.Name n1 px, .Name n2 py] kt pt] (.Tuple [a, b] k2 pt2) X.env = pure (some [n1, n2]) := by rfl)
    (hs : swapsWithSole [.Tuple [.Name n1 px, .Name n2 py] kt pt] (.Tuple [a, b] k2 pt2) pos.line X.env = pure false := by rfl)
    (hsa : starEach [a, b] X.env = (false, eval a X.env) :: starEach [b] X.env := by rfl) (hsb : starEach [b] X.env = (false, eval b X.env) :: starEach [] X.env := by rfl) (hg : GxOk fx G := by first | exact True.intro | repeat' (first | exact True.intro | exact Or.inl rfl | exact Or.inr rfl | refine And.intro ?_ ?_)) :
    PSs X (.Assign [.Tuple [.Name n1 px, .Name n2 py] kt pt] (.Tuple [a, b] k2 pt2) pos :: rest) (tS X.K X.mg fx G ex exb (do let d ← x; let e ← y; k d e)) :=
  pssI (pss_cons (ps_par C.calm C.nd hi hj hij hx hy (pa_cons ha (pa_cons hb pa_nil hsb) hsa) hw hs) (pss_ex (ι := D × D) fun r => hr r.1 r.2)) fun De σ H ⟨Hf, s, h⟩ =>
    ((h.bind hg).mono fun v H1 ⟨d, Hf1, s1, sb, r, h1⟩ => ((h1.bind hg).mono fun v2 H2 ⟨e, Hf2, s2, sb2, r2, h2⟩ => ⟨v, v2, rfl, (d, e), Hf2, s2, (h2.1.set (r.mono sb2)).set r2, h2.2⟩).to).to
end
end DL
namespace DL
open PySem L2
theorem hu65 {k : Nat} {A : Around} (r : Room k A) : A.units + 65 < cLine := by have := r.un; omega
/-- a global constant is a datum -/
def GlobIs (K : PySem.W.Frag) (mg : Str → Option Value) (n : Str) (d : D) : Prop := ∃ u v, mg n = some u ∧ RelV v u ∧ Is K mg (fun _ => none) d v
theorem de_globI {X : Cx} {fx : Fx} {m : Type → Type} [Mo m] {G : List Sl} {n : Str} {d : D} {pos : Pos} (hg : Gl X n) (h : GlobIs X.K X.mg n d) (hd : (n == ("__debug__" : Str)) = false := by decide) : PE X (.Name n pos) (tE X.K X.mg fx G (pure d : m D)) := by
  obtain ⟨u, v, hm, r, i⟩ := h
  exact de_glob hg hm r i hd
theorem globS {K : PySem.W.Frag} {mg : Str → Option Value} {n : Str} {t : Str} {tk : Tok} {l : List Nat} (h : mg n = some (.str t tk)) (ht : t = ⟨l.toArray⟩) (hl : l.length ≤ 1000) : GlobIs K mg n (.str l) :=
  ⟨_, .str t, h, ⟨tk, rfl⟩, by rw [Is]; exact ⟨by rw [ht], Nat.le_of_lt (small1000 hl)⟩⟩
theorem globI {K : PySem.W.Frag} {mg : Str → Option Value} {n : Str} {i : Int} {tk : Tok} (h : mg n = some (.int i tk)) : GlobIs K mg n (.int i) := ⟨_, .int i, h, ⟨tk, rfl⟩, is_int _⟩
section
variable {X : Cx}
def powC : D → D → Option D
  | .int i, .int j => if 0 ≤ j ∧ j ≤ 100 ∧ i.natAbs < 2 ^ 64 then some (.int (i ^ j.toNat)) else none
  | _, _ => none
theorem od_powC : OpR X (binaryOp .Pow) (rD2 X.K X.mg powC) := by
  intro pins s σ H x y v u Q I rx ry h
  obtain ⟨Hf, dx, dy, d, sb, ix, iy, e, q⟩ := h
  unfold powC at e
  split at e
  · split at e
    · rename_i hc
      cases e; cases ix; cases iy
      exact op_pow pins s σ H _ _ v u Q I rx ry ⟨_, _, rfl, rfl, ⟨hc.1, by omega, hc.2.2⟩, q _ Hf H (.refl sb) (is_int _)⟩
    · cases e
  · cases e
end
/-! arguments -/
def apR1 (f : D → R D) : List D → R D
  | [a] => f a
  | _ => .stuck
def apR2 (f : D → D → R D) : List D → R D
  | [a, b] => f a b
  | _ => .stuck
def apR3 (f : D → D → D → R D) : List D → R D
  | [a, b, c] => f a b c
  | _ => .stuck
def apR4 (f : D → D → D → D → R D) : List D → R D
  | [a, b, c, d] => f a b c d
  | _ => .stuck
def apM1 (f : D → M D) : List D → M D
  | [a] => f a
  | _ => fun _ => .stuck
def apM2 (f : D → D → M D) : List D → M D
  | [a, b] => f a b
  | _ => fun _ => .stuck
theorem apR1_len (f) : ∀ ds : List D, apR1 f ds ≠ .stuck → ds.length = 1 := fun ds h => by
  unfold apR1 at h
  split at h <;> first | rfl | exact absurd rfl h
theorem apR2_len (f) : ∀ ds : List D, apR2 f ds ≠ .stuck → ds.length = 2 := fun ds h => by
  unfold apR2 at h
  split at h <;> first | rfl | exact absurd rfl h
theorem apR3_len (f) : ∀ ds : List D, apR3 f ds ≠ .stuck → ds.length = 3 := fun ds h => by
  unfold apR3 at h
  split at h <;> first | rfl | exact absurd rfl h
theorem apR4_len (f) : ∀ ds : List D, apR4 f ds ≠ .stuck → ds.length = 4 := fun ds h => by
  unfold apR4 at h
  split at h <;> first | rfl | exact absurd rfl h
theorem apM1_len (f) : ∀ (ds : List D) s, apM1 f ds s ≠ .stuck → ds.length = 1 := fun ds s h => by
  rcases ds with _ | ⟨a, ds⟩
  · exact absurd rfl h
  · rcases ds with _ | ⟨_, ds⟩
    · rfl
    · exact absurd rfl h
theorem apM2_len (f) : ∀ (ds : List D) s, apM2 f ds s ≠ .stuck → ds.length = 2 := fun ds s h => by
  rcases ds with _ | ⟨a, ds⟩
  · exact absurd rfl h
  · rcases ds with _ | ⟨_, ds⟩
    · exact absurd rfl h
    · rcases ds with _ | ⟨_, ds⟩
      · rfl
      · exact absurd rfl h
end DL
namespace PySem
namespace OwnX
open PySem.W PySem.Calls PyProof.Rows PySem.HandSPX
/-! ### the text of __init__ -/
def iA (f : Str) (p1 p2 : Pos) : Arguments := { posonlyargs := [], args := [{ arg := "self", annotation := none, pos := p1 }, { arg := f, annotation := none, pos := p2 }], vararg := none, kwonlyargs := [], kw_defaults := [], kwarg := none, defaults := [] }
def iB (f : Str) (q1 q2 q3 q4 : Pos) : List Stmt := [.Assign [.Attribute (.Name "self" q1) f q2] (.Name f q3) q4]
def iS (f : Str) : Scope := { kind := .function, names := [(PySem.Str.ofString "self", .local), (f, .local)], isGenerator := false, isCoroutine := false, more := [] }
theorem lookup_s (f : Str) : (iS f).names.lookup ("self" : Str) = some .local := by
  show List.lookup ("self" : Str) [(PySem.Str.ofString "self", NameKind.local), (f, .local)] = _
  simp [List.lookup]
theorem lookup_f {f : Str} (h : (f == ("self" : Str)) = false) : (iS f).names.lookup f = some .local := by
  have h' : (f == PySem.Str.ofString "self") = false := h
  show List.lookup f [(PySem.Str.ofString "self", NameKind.local), (f, .local)] = _
  simp [List.lookup, h']
theorem kinds2 {f : Str} (h : (f == ("self" : Str)) = false) {u v : Value} : ([(("self" : Str), u), (f, v)].all fun y => (iS f).names.lookup y.1 == some .local || (iS f).names.lookup y.1 == some .cell) = true := by
  simp only [List.all_cons, List.all_nil, lookup_s, lookup_f h]
  rfl
theorem kind_f {f : Str} (h : (f == ("self" : Str)) = false) {name : Str} {L a : Addr} {cd : Value} : (envOfC name (iS f) L a cd).kindOf f = some .local := lookup_f h
theorem kind_s {f : Str} {name : Str} {L a : Addr} {cd : Value} : (envOfC name (iS f) L a cd).kindOf ("self" : Str) = some .local := lookup_s f
theorem binds2_f {f : Str} (h : (f == ("self" : Str)) = false) {name : Str} {L a : Addr} {cd u v : Value} : bindL (envOfC name (iS f) L a cd).kindOf [(("self" : Str), u), (f, v)] (fun _ => none) f = some v := by
  simp [bindL, kind_f h, kind_s]
theorem binds2_s {f : Str} (h : (f == ("self" : Str)) = false) {name : Str} {L a : Addr} {cd u v : Value} : bindL (envOfC name (iS f) L a cd).kindOf [(("self" : Str), u), (f, v)] (fun _ => none) ("self" : Str) = some u := by
  have hne : ¬ (("self" : Str) = f) := fun z => by rw [← z] at h; simp at h
  simp [bindL, kind_f h, kind_s, hne]
/-- what the written part says of Low, at C, and of its __init__, at fI -/
structure OwnTxt (K : Frag) (mg : Str → Option Value) (cn f qn : Str) (C fI : Addr) : Prop where
  fs : (f == ("self" : Str)) = false
  fb : (f == ("__debug__" : Str)) = false
  bind : ∀ (doc pm : Value) (an : Option Addr) (cdv ct u v : Value) (p1 p2 q1 q2 q3 q4 : Pos), bindArgs (fnOf "__init__" qn (iA f p1 p2) (iB f q1 q2 q3 q4) (iS f) .none .none doc pm an cdv ct) ⟨[u, v], []⟩ = pure [(("self" : Str), u), (f, v)]
  gC : mg cn = some (.ref C)
  cls : ∃ nm q N bs bm sn sub ab col dd k0 k1 k2 k3 k5, K.lookup C = some (excClassObj nm q C N bs bm true sn sub ab col dd k0 k1 k2 k3 k5 "ValueError.__new__") ∧ refsVE bm = true
  sa : findIn K (.ref C) "__setattr__" = some (some (.builtin "object.__setattr__"))
  ga : findIn K (.ref C) "__getattribute__" = some (some (.builtin "BaseException.__getattribute__"))
  gg : findIn K (.ref C) "__getattr__" = some none
  noN : findIn K (.ref C) f = some none
  iC : findIn K (.ref C) "__init__" = some (some (.ref fI))
  tC : typeIn K (.ref fI) = some (.type "function")
  kC : keepIn K (.ref C) = true
  exC : subIn K (.ref C) (.type "BaseException") = some true
  tyC : typeIn K (.ref C) = some (.type "type")
  hdC : hasDictIn K C = true
  te : exmOne K (.ref C) (.ref C) = some true
  fn : ∃ (oc : Value) (od : Option Addr) (doc pm : Value) (an : Option Addr) (cdv ct : Value) (osl : Array (Option Value)) (p1 p2 q1 q2 q3 q4 : Pos),
    K.lookup fI = some ⟨oc, od, .func (fnOf "__init__" qn (iA f p1 p2) (iB f q1 q2 q3 q4) (iS f) .none .none doc pm an cdv ct), osl⟩ ∧ codeIn K cdv qn = true
theorem one_size (v : Value) : [v].length ≤ sizeLine := by
  rw [sizeLine_eq]
  exact (by decide : 1 ≤ 16777216)
theorem ldC {M : Model} {s : Shared} {name : Str} {scope : Scope} {L a : Addr} {cd : Value} {m : Str → Option Value} {x : Str} {pos : Pos} {v : Value} {Q : Value → Shared → Prop} {A : Around} {E : Value → Shared → Prop} (hn : s.heap.Ns L m) (hv : m x = some v) (h : Q v s)
    (hk : scope.kind = .function := by rfl) (hl : (envOfC name scope L a cd).kindOf x = some .local := by rfl) (hd : (x == ("__debug__" : Str)) = false := by decide) :
    wpAny M A (eval (.Name x pos) (envOfC name scope L a cd)) Q E s := wpAny_Name (wpAny_loadName_local hk hl hn hv h) hd
/-- what __init__ leaves of a fresh exception at x -/
structure InitEnd (f : Str) (h h' : Heap) (x C dx t1 : Addr) (v : Value) : Prop where
  keep : ∀ b o, b ≠ x → h.get? b = some o → h'.get? b = some o
  obj : h'.get? x = some { cls := .ref C, dict := some dx, data := .fields #[.ref t1, .none, .none, .none, .bool false, .none] }
  dbig : h.objs.size ≤ dx
  dne : dx ≠ x
  ns : h'.Ns1 dx (fun y => if y = f then some v else none)
/-- a made Low -/
structure OwnMade (f : Str) (h h' : Heap) (e C d : Addr) (v : Value) : Prop where
  keep : ∀ b o, h.get? b = some o → h'.get? b = some o
  new : h.objs.size ≤ e
  obj : ∃ oe vs, h'.get? e = some oe ∧ oe.cls = .ref C ∧ oe.dict = some d ∧ oe.data = .fields vs ∧ vs[1]? = some .none
  dbig : h.objs.size ≤ d
  dne : d ≠ e
  ns : h'.Ns1 d (fun y => if y = f then some v else none)
section
variable {prog : Program} {w : World} {A : Around} {E : Value → Shared → Prop} {R : Result → Shared → Prop} {s : Shared} {K : Frag} {mg : Str → Option Value} {cn f qn : Str} {C fI : Addr}
theorem low_init (T : OwnTxt K mg cn f qn C fI) {x t0 : Addr} {v : Value} (X : K.In s.heap) (hlim : s.heap.NoLimit) (hx : s.heap.get? x = some (excO C t0)) (hnx : K.lookup x = none) (hroom : A.depth < recursionLimit)
    (hq : ∀ h' tk dx, InitEnd f s.heap h' x C dx t0 v → R (.ok (.ret .none)) { s with heap := h', toks := tk }) :
    codeAny (model prog w) A (.call (.ref fI) ⟨[.ref x, v], []⟩) R s := by
  obtain ⟨oc, od, doc, pm, an, cdv, ct, osl, p1, p2, q1, q2, q3, q4, ho, hcd⟩ := T.fn
  obtain ⟨nm, q, N, bs, bm, sn, sub, ab, col, dd, k0, k1, k2, k3, k5, hC, hbm⟩ := T.cls
  have hcl : clsIn K C = some { name := nm, bases := bs, mro := .ref C :: bm, ns := N, qualname := q, hasDict := true, slotNames := sn, subclasses := sub, abstract := ab, collection := col, hasDel := false } := by unfold clsIn; rw [hC] <;> rfl
  refine Att.call_fn (binds := [(("self" : Str), .ref x), (f, v)]) X hlim ho hcd hroom (BindsTo.of_eq (T.bind ..)) (kinds2 T.fs) (fun s₁ IC => ?_) rfl rfl rfl
  obtain ⟨h₁, tk₁, rfl⟩ := IC.toInCall.same
  have k : ∀ b o, s.heap.get? b = some o → h₁.get? b = some o := IC.toInCall.keep
  have hn := IC.toInCall.ns
  have hxL : s.heap.objs.size ≠ x := Nat.ne_of_gt (Heap.lt_size hx)
  have X₁ : K.In h₁ := X.keeps k
  have hx₁ := k _ _ hx
  -- self.by = by
  show wpAny _ _ (execs _ _) _ _ _
  refine wpAny_execs_cons (plainObj_wpAny_Assign_Attribute ?_)
  refine ldC (v := v) hn (binds2_f T.fs) (ldC (v := .ref x) hn (binds2_s T.fs) ?_) rfl (kind_f T.fs) T.fb
  refine set_plain X₁ (ox := excO C t0) (od := none) ⟨hx₁, rfl, rfl, trivial⟩ T.sa ?_
  refine exc_osa X₁ hx₁ hcl (show refsVE (.ref C :: bm) = true from hbm) rfl T.noN (fun h₃ tk₃ dx k₃ dn dne hx₃ hn₃ => ?_)
  show wpAny _ _ (execs _ _) _ _ _
  have z : s.heap.objs.size < h₁.objs.size := hn.lt
  exact wpAny_execs_nil (hq h₃ tk₃ dx ⟨fun b o hb e => k₃ b o hb (k b o e), hx₃, Nat.le_of_lt (Nat.lt_of_lt_of_le z dn), dne, hn₃⟩)
theorem low_made (T : OwnTxt K mg cn f qn C fI) {v : Value} (X : K.In s.heap) (hlim : s.heap.NoLimit) (hroom : A.depth + 1 < recursionLimit)
    (hq : ∀ h' tk e d, OwnMade f s.heap h' e C d v → R (.ok (.ret (.ref e))) { s with heap := h', toks := tk }) :
    codeAny (model prog w) A (.call (.ref C) ⟨[v], []⟩) R s := by
  obtain ⟨nm, q, N, bs, bm, sn, sub, ab, col, dd, k0, k1, k2, k3, k5, hC, hbm⟩ := T.cls
  obtain ⟨hp, g, dr, tk, os⟩ := s
  have k : ∀ b o, hp.get? b = some o → ((hp.push (kdv_tup [v])).push (excO C hp.objs.size)).get? b = some o := fun b o e => Heap.get?_push_of_some _ (Heap.get?_push_of_some _ e)
  have hget : ((hp.push (kdv_tup [v])).push (excO C hp.objs.size)).get? (hp.objs.size + 1) = some (excO C hp.objs.size) := by heap_get
  have hnx : K.lookup (hp.objs.size + 1) = none := by
    cases e : K.lookup (hp.objs.size + 1) with
    | none => rfl
    | some o =>
      have z : hp.get? (hp.objs.size + 1) = some o := X _ _ e
      exact absurd (Nat.lt_of_succ_lt (Heap.lt_size z)) (Nat.lt_irrefl _)
  refine call_own F.excBase_ValueError (fun X => refsVE_contains X bm hbm) (X _ _ hC) (looks_findIn X T.iC) (fun self => bind_fn X self T.tC) (one_size v) ?_
  refine low_init (s := ⟨(hp.push (kdv_tup [v])).push (excO C hp.objs.size), g, dr, tk, os⟩) T (X.keeps k) (hlim.keeps k) hget hnx ?_ fun h' tk' dx ⟨k', hx, dn, dne, hns⟩ => ?_
  · show A.depth + 1 < recursionLimit
    exact hroom
  · have old : ∀ b o, hp.get? b = some o → h'.get? b = some o := fun b o e => k' b o (Nat.ne_of_lt (Nat.lt_succ_of_lt (Heap.lt_size e))) (k b o e)
    have z : hp.objs.size + 1 + 1 ≤ dx := by
      first
        | (simpa only [Heap.size_push] using dn)
        | exact dn
        | (have q := dn; rw [Heap.size_push, Heap.size_push] at q; exact q)
    exact ⟨rfl, hq h' tk' (hp.objs.size + 1) dx ⟨old, Nat.le_succ _, ⟨_, _, hx, rfl, rfl, rfl, rfl⟩, Nat.le_trans (Nat.le_trans (Nat.le_succ _) (Nat.le_succ _)) z, dne, hns⟩⟩
end
end OwnX
end PySem
namespace L2
open PySem PySem.Spec PyProof.Rows
theorem relO_low {v : V} {v' : Value} (r : RelV v v') (g f : Str) : RelO (List.lookup f [(g, v)]) (if f = g then some v' else none) := by
  by_cases hw : f = g
  · subst hw
    rw [if_pos rfl]
    have q : List.lookup f [(f, v)] = some v := by simp [List.lookup]
    rw [q]
    exact r
  · rw [if_neg hw]
    have qw : (f == g) = false := by simpa using hw
    have q2 : List.lookup f [(g, v)] = none := by simp [List.lookup, qw]
    rw [q2]
    trivial
section
variable {X : Cx} {cn f qn : Str} {C fI : Addr}
/-- Low(e) -/
def tMkLow (f : Str) (C : Addr) (ta : TA) : St → Hp → XK → Prop := fun σ H Q => ta σ H fun vs H1 => ∃ v, vs = [v] ∧ ∀ d, H1 d = none → Q (.ref C) (some d) (upd H1 d (.xd [(f, v)]))
theorem pmk_low {a : Expr} {ta : TA} {p pos : Pos} {k : Nat} (T : PySem.OwnX.OwnTxt X.K X.mg cn f qn C fI) (hr : Room k X.A) (ha : PA X [a] ta) (hdb : (cn == ("__debug__" : Str)) = false := by decide) (hg : Gl X cn := by rfl)
    (he : starEach (a :: []) X.env = (false, eval a X.env) :: starEach [] X.env := by rfl) (hpl : (backTo pos (starEach [] X.env)).any (·.1) = false := by rfl) :
    PMk X (.Call (.Name cn p) [a] [] pos) (tMkLow f C ta) := by
  intro pins s σ H Q I h
  refine wpAny_Call_Name_kw (ld_glob I hg T.gC ?_ (hd := hdb))
  refine PySem.W.callWith_K (h₀ := X.base) I.ok.mod.kin T.kC (thn (ha.run pos pins s σ H _ I h) fun us s1 hh => ?_) he hpl
  obtain ⟨vs, H1, I1, r1, v, ev, q1⟩ := hh
  subst ev
  refine ⟨I1.kIn, ?_⟩
  cases r1 with
  | cons rv rn =>
    rename_i v' us'
    cases rn
    show wpAny _ _ (call (.ref C) [v']) _ _ _
    have hlim := I1.nolimit
    obtain ⟨hp, g, dr, tk, os⟩ := s1
    refine wpAny_call (PySem.OwnX.low_made T I1.kIn hlim (by have := hr.dp; omega) fun h' tk' e d M => ?_)
    show MkP X pins σ Q (.ref e) ⟨h', g, dr, tk', os⟩
    obtain ⟨oe, fv, hoe, hc, hd, hdat, h1⟩ := M.obj
    have hns := M.ns
    obtain ⟨G', g1, g2⟩ := restrict h' fun b => decide (b ≠ e)
    have gk : ∀ b, b ≠ e → G'.get? b = h'.get? b := fun b hb => g1 b (decide_eq_true hb)
    have ge : G'.get? e = none := g2 e (by simp)
    have old : ∀ b o, hp.get? b = some o → G'.get? b = some o := fun b o q => (gk b (Nat.ne_of_lt (Nat.lt_of_lt_of_le (Heap.lt_size q) M.new))).trans (M.keep b o q)
    have ob : ObjOk X.prog X.w (upd H1 d (.xd [(f, v)])) G' d (.xd [(f, v)]) :=
      ⟨_, hns.at (fun o q => (gk d M.dne).trans q), fun f => relO_low rv _ f⟩
    have J : Inv X pins σ (upd H1 d (.xd [(f, v)])) ⟨G', g, dr, tk', os⟩ := I1.laid (t' := tk') old M.dbig ob
    refine ⟨e, oe, fv, ⟨G', g, dr, tk', os⟩, _, .ref C, some d, rfl, J, fun b o q => ?_, ge, hoe, ⟨hc, hd⟩, hdat, h1, ?_, rfl, I1.bare, raises_own T.exC T.tyC, q1 d (I1.hok.fresh M.dbig)⟩
    · by_cases hb : b = e
      · have q' : G'.get? b = some o := q
        rw [hb, ge] at q'; cases q'
      · exact (gk b hb).symm.trans q
    · rw [upd_ne (Ne.symm M.dne)]
      exact I1.hok.fresh M.new
/-- raise Low(e) -/
def tRaiseLow (f : Str) (C : Addr) (W : WX) (ta : TA) : TS := fun _ σ H => tMkLow f C ta σ H fun cls d H' => W cls d σ H'
theorem ps_raiseLow {a : Expr} {ta : TA} {W : WX} {p pos pos2 : Pos} {k : Nat} (hc : X.calm = true) (T : PySem.OwnX.OwnTxt X.K X.mg cn f qn C fI) (hr : Room k X.A) (tk : Takes X W) (ha : PA X [a] ta) (hdb : (cn == ("__debug__" : Str)) = false := by decide) (hg : Gl X cn := by rfl)
    (he : starEach (a :: []) X.env = (false, eval a X.env) :: starEach [] X.env := by rfl) (hpl : (backTo pos (starEach [] X.env)).any (·.1) = false := by rfl) :
    PS X (.Raise (some (.Call (.Name cn p) [a] [] pos)) none pos2) (tRaiseLow f C W ta) := ps_raise hc tk (pmk_low T hr ha hdb hg he hpl)
end
end L2
/-! ### a tuple, backwards -/
namespace DL
open PySem PySem.Spec PyProof.Rows L2 HT
/-! rules -/
end DL
namespace DL
open PySem L2
/-! ### a, b = x, y: one a datum, one an own list -/
/-! ### raise of an own error -/
section
variable {X : Cx} {fx : Fx} {m : Type → Type} [Mo m] {G : List Sl} {α β : Type} {kk : Nat} {a : Expr} {rest : List Stmt} {ex : α → List Sl} {exb : β → List Sl} {p pos pos2 : Pos} {cn f qn : Str} {C fI : Addr}
def raiseX {m : Type → Type} [Mo m] {γ : Type} (c f : Str) (d : D) : m γ := Mo.lift (R.ex ⟨c, f, d⟩)
theorem dss_raise {x : m D} (Ck : Cok X fx kk) (T : PySem.OwnX.OwnTxt X.K X.mg cn f qn C fI) (ha : PE X a (tE X.K X.mg fx G x)) (hdb : (cn == ("__debug__" : Str)) = false := by decide) (hg : Gl X cn := by rfl)
    (he : starEach (a :: []) X.env = (false, eval a X.env) :: starEach [] X.env := by rfl) (hpl : (backTo pos (starEach [] X.env)).any (·.1) = false := by rfl) (hx : GxOk fx G := by first | exact True.intro | repeat' (first | exact True.intro | exact Or.inl rfl | exact Or.inr rfl | refine And.intro ?_ ?_)) :
    PSs X (.Raise (some (.Call (.Name cn p) [a] [] pos)) none pos2 :: rest) (tS X.K X.mg fx G ex exb (do let d ← x; raiseX cn f d : m (Fl α β))) :=
  pssI (pss_cons (ps_raiseLow Ck.calm T Ck.rm Ck.tk (pa_cons ha pa_nil he) hdb hg he hpl) pss_never) fun De σ H ⟨Hf, s, h⟩ =>
    ((h.bind hx).mono fun v H1 ⟨d, Hf1, s1, sb, r, h1⟩ => by
      refine ⟨v, rfl, fun p hp => ?_⟩
      have w := Mo.wp_lift h1.2
      have e1 : Ste fx.bag Hf1 H1 (upd Hf1 p (.xd [(f, v)])) (upd H1 p (.xd [(f, v)])) := .new h1.1.top hp
      have nb := (h1.1.new0 hp).2.1
      have st2 := h1.1.step e1 (h1.1.bag.upd nb)
      exact exs_ex hx w _ _ _ _ st2 ⟨C, p, v, T.gC, rfl, rfl, upd_same, r.mono e1.sub⟩).to
end
/-- an error of the class at S is what «except S» names -/
theorem exm_self {K : PySem.W.Frag} {S : Addr} (h1 : PySem.W.subIn K (.ref S) (.type "BaseException") = some true) (h2 : PySem.W.isClsIn K S = true) (h3 : PySem.W.typeIn K (.ref S) = some (.type "type")) (h4 : PySem.W.subIn K (.ref S) (.ref S) = some true) :
    PySem.W.exmOne K (.ref S) (.ref S) = some true := by
  have e1 : (PySem.W.subIn K (.ref S) (.type "BaseException") == some true) = true := by rw [h1] <;> rfl
  have e2 : ((PySem.W.clsIn K S).isSome && PySem.W.typeIn K (.ref S) == some (.type "type")) = true := by
    have h2' : (PySem.W.clsIn K S).isSome = true := h2
    rw [h2', h3] <;> rfl
  show (if (PySem.W.subIn K (.ref S) (.type "BaseException") == some true) = true then (if ((PySem.W.clsIn K S).isSome && PySem.W.typeIn K (.ref S) == some (.type "type")) = true then PySem.W.subIn K (.ref S) (.ref S) else none) else none) = some true
  rw [if_pos e1, if_pos e2]
  exact h4
theorem kit_subO {K : PySem.W.Frag} {S : Addr} {t : Value} {b : Bool} (h2 : PySem.W.isClsIn K S = true) (h3 : PySem.W.typeIn K (.ref S) = some (.type "type")) (h5 : PySem.W.subIn K (.ref S) (.ref S) = some true) (h4 : PySem.W.subIn K t (.ref S) = some b) : PySem.W.kitOne K t (.ref S) = some b := by
  have e2 : ((PySem.W.clsIn K S).isSome && PySem.W.typeIn K (.ref S) == some (.type "type")) = true := by
    have h2' : (PySem.W.clsIn K S).isSome = true := h2
    rw [h2', h3] <;> rfl
  show (if (t == .ref S) = true then some true else (if ((PySem.W.clsIn K S).isSome && PySem.W.typeIn K (.ref S) == some (.type "type")) = true then PySem.W.subIn K t (.ref S) else none)) = some b
  by_cases c : (t == .ref S) = true
  · have e : t = .ref S := eq_of_beq c
    subst e
    rw [if_pos c, ← h4, h5]
  · rw [if_neg c, if_pos e2]
    exact h4
end DL
namespace DL
open PySem L2
/-! ### try, except -/
section
variable {K : PySem.W.Frag} {mg : Str → Option Value} {fx : Fx} {Hf H : Hp} {σ : L2.St} {G : List Sl} {s : S}
/-- a forgotten slot is emptied -/
theorem StS.empty (st : StS K mg fx Hf H σ G s) {i : Nat} (hi : G[i]? = some .un) : StS K mg fx Hf H (σ.set i none) G s := by
  refine ⟨st.ste, st.bag, st.bagg, by simpa using st.len, fun j x e => ?_, fun j k x y p hjk ex ey ox oy e1 e2 => ?_⟩
  · by_cases q : i = j
    · subst q
      rw [hi] at e
      cases e
      trivial
    · rw [List.getElem?_set_ne q]
      exact st.sl j x e
  · have nj : i ≠ j := fun z => by subst z; rw [hi] at ex; cases ex; cases ox
    have nk : i ≠ k := fun z => by subst z; rw [hi] at ey; cases ey; cases oy
    rw [List.getElem?_set_ne nj] at e1
    rw [List.getElem?_set_ne nk] at e2
    exact st.dis j k x y p hjk ex ey ox oy e1 e2
end
end DL
namespace DL
open PySem L2
/-! ### text methods -/
theorem spl_len (S : List Nat) : ∀ (l : List Nat) (k : Nat) (acc : List Nat), (∀ p ∈ TL.spl S k acc l, p.length ≤ acc.length + l.length) ∧ (TL.spl S k acc l).length ≤ l.length + 1
  | [], k, acc => by
    rw [TL.spl_nil]
    simp
  | c :: r, 0, acc => by
    by_cases h : TL.pre S (c :: r) = true
    · rw [TL.spl_hit h]
      obtain ⟨h1, h2⟩ := spl_len S r (S.length - 1) []
      refine ⟨fun p hp => ?_, by rw [List.length_cons, List.length_cons]; omega⟩
      rcases List.mem_cons.mp hp with rfl | hp
      · omega
      · have := h1 p hp
        rw [List.length_nil] at this
        rw [List.length_cons]
        omega
    · rw [TL.spl_miss (by simpa using h)]
      obtain ⟨h1, h2⟩ := spl_len S r 0 (acc ++ [c])
      refine ⟨fun p hp => ?_, by rw [List.length_cons]; omega⟩
      have := h1 p hp
      rw [List.length_append, List.length_singleton] at this
      rw [List.length_cons]
      omega
  | c :: r, k + 1, acc => by
    have e : TL.spl S (k + 1) acc (c :: r) = TL.spl S k acc r := rfl
    rw [e]
    obtain ⟨h1, h2⟩ := spl_len S r k acc
    refine ⟨fun p hp => ?_, by rw [List.length_cons]; omega⟩
    have := h1 p hp
    rw [List.length_cons]
    omega
def splitD (a b : D) : Option (List D) := match a, b with
  | .str z, .str [c] => if c < 256 ∧ z.length ≤ 1000000 then some ((TL.spl [c] 0 [] z).map .str) else none
  | _, _ => none
theorem isL_strsV {K : PySem.W.Frag} {mg : Str → Option Value} {H : Hp} : ∀ {ps : List (List Nat)}, (∀ p ∈ ps, p.length ≤ sizeLine) → IsL K mg H (ps.map .str) (ps.map fun p => V.str ⟨p.toArray⟩)
  | [], _ => rfl
  | p :: ps, h => ⟨_, _, rfl, ⟨rfl, h p (.head _)⟩, isL_strsV fun q m => h q (.tail _ m)⟩
section
variable {X : Cx} {fx : Fx} {m : Type → Type} [Mo m] {G : List Sl} {o e : Expr} {apos pos : Pos} {x y : m D}
theorem df_split (ho : PE X o (tE X.K X.mg fx G x)) (he : PE X e (tE X.K X.mg fx G y)) (hs : starEach [e] X.env = [(false, eval e X.env)] := by rfl) (hbase : attributeBase o "split" X.env (eval o X.env) = eval o X.env := by rfl) (hline : (apos.endLine == pos.line) = true := by rfl) :
    PE X (.Call (.Attribute o "split" apos) [e] [] pos) (tF X.K X.mg fx G (do let u ← x; let _ ← ask (strOf u); let v ← y; ask (splitD u v))) := peI (pe_split ho he hs hbase hline) fun σ H Q ⟨Hf, s, st, w⟩ =>
  ⟨Hf, s, st, Mo.wp_mono (Mo.wp_bind w) (fun d1 s1 k v1 Hf1 H1 e1 bg1 r1 => by
    have k' := Mo.wp_lift (Mo.wp_bind k)
    have st1 := st.step e1 bg1
    cases d1 with
    | str z =>
      obtain ⟨rfl, hz1⟩ := r1
      refine ⟨⟨_, rfl⟩, Hf1, s1, st1, Mo.wp_mono (Mo.wp_bind k') (fun d2 s2 k2 v2 Hf2 H2 e2 bg2 r2 => ?_) fun e s' k => k⟩
      have k3 := Mo.wp_lift k2
      cases hsp : splitD (.str z) d2 with
      | none => rw [hsp] at k3; exact k3.elim
      | some ds =>
        rw [hsp] at k3
        unfold splitD at hsp
        split at hsp
        · rename_i z' c hz'
          cases hz'
          split at hsp
          · rename_i hc
            cases hsp
            obtain ⟨rfl, _⟩ := r2
            have hsz : sizeLine = 16777216 := sizeLine_eq
            have hk : (⟨#[c]⟩ : Str).cps.all (· < 256) = true := by simpa using hc.1
            have es := TL.split_spl ⟨z.toArray⟩ ⟨#[c]⟩ (by simp [TL.tl]) (TL.kind_ok hk)
            have es' : Txt.split ⟨z.toArray⟩ ⟨#[c]⟩ = (TL.spl [c] 0 [] z).map fun p => (⟨p.toArray⟩ : Str) := by
              have e3 : (TL.spl (TL.tl ⟨#[c]⟩) 0 [] (TL.tl ⟨z.toArray⟩)) = TL.spl [c] 0 [] z := by simp [TL.tl]
              rw [e3] at es
              rw [← es, List.map_map]
              conv => lhs; rw [← List.map_id (Txt.split ⟨z.toArray⟩ ⟨#[c]⟩)]
              exact List.map_congr_left fun p _ => (TL.mk_tl p).symm
            obtain ⟨h1, h2⟩ := spl_len [c] z 0 []
            refine ⟨⟨z.toArray⟩, ⟨#[c]⟩, rfl, rfl, rfl, by rw [str_len]; omega, fun p hp => ?_⟩
            rw [es', List.map_map]
            have hn : H p = none := by
              cases q : H p with
              | none => rfl
              | some o => exact absurd hp ((e1.trans e2).dom p (by rw [q]; simp))
            have st2 := st1.step e2 bg2
            have n2 := st2.new0 hp
            exact k3 p _ Hf2 _ ((e1.trans e2).upd hn n2.2.2) (bg2.upd n2.2.1) upd_same n2.2.2 hn (isL_strsV fun q m => by have := h1 q m; simp at this; omega) (by rw [List.length_map]; omega)
          · cases hsp
        · cases hsp
    | _ => exact k'.elim) fun e s' k => k⟩
/-- a text method of one text that answers at once -/
def strM (g : List Nat → List Nat → D) (a b : D) : Option D := match a, b with
  | .str x, .str y => some (g x y)
  | _, _ => none
theorem de_starts (ho : PE X o (tE X.K X.mg fx G x)) (he : PE X e (tE X.K X.mg fx G y)) (hs : starEach [e] X.env = [(false, eval e X.env)] := by rfl) (hbase : attributeBase o "startswith" X.env (eval o X.env) = eval o X.env := by rfl) (hline : (apos.endLine == pos.line) = true := by rfl) :
    PE X (.Call (.Attribute o "startswith" apos) [e] [] pos) (tE X.K X.mg fx G (do let u ← x; let _ ← ask (strOf u); let v ← y; ask (strM (fun a b => .bl (Txt.startswith ⟨a.toArray⟩ ⟨b.toArray⟩)) u v))) :=
  peI (pe_m1 PySem.F.slot_str_startswith PySem.F.type_str_startswith mt_startswith ho he hs hbase hline) fun σ H Q ⟨Hf, s, h⟩ =>
  (h.bind.mono fun v1 H1 ⟨d1, Hf1, s1, sb1, r1, h1⟩ => by
    have k := Mo.wp_lift (Mo.wp_bind h1.2)
    cases d1 with
    | str S =>
      obtain ⟨rfl, hz1⟩ := r1
      refine ⟨⟨_, rfl⟩, ?_⟩
      have h2 : tX X.K X.mg fx G (fun H d v => Is X.K X.mg H d v) (do let v ← y; ask (strM (fun a b => .bl (Txt.startswith ⟨a.toArray⟩ ⟨b.toArray⟩)) (.str S) v) : m D) Hf1 s1 σ H1 Q := ⟨h1.1, k⟩
      refine (h2.bind.mono fun v2 H2 ⟨d2, Hf2, s2, sb2, r2, h3⟩ => ?_).to
      obtain ⟨d, e, q⟩ := h3.ask
      cases d2 with
      | str T =>
        cases e
        obtain ⟨rfl, _⟩ := r2
        exact ⟨_, _, rfl, rfl, q _ Hf2 H2 (.refl h3.1.top) (is_bl _)⟩
      | _ => cases e
    | _ => exact k.elim).to
end
end DL
/-! ### try with several clauses, each with a name or without -/
namespace DL
open PySem PySem.Spec PyProof.Rows L2
end DL
namespace DL
open PySem L2
end DL
/-! ### isinstance of the caught error -/
namespace DL
open PySem PySem.Spec PyProof.Rows L2
end DL
/-! ### calls by their shape; classes: objects as data -/
namespace DL
open PySem PySem.Spec PyProof.Rows L2
theorem guards_make {A : Around} {C : Addr} {us : List Value} {kw : List (Str × Value)} (h : A.guards = some []) : (A.under (.builtin "type.__call__" ⟨.ref C :: us, kw⟩)).guards = some [] := by
  first | exact h | simp [Around.under, Code.weight, Code.isCreation, Code.isGuard, Code.isCaller, Code.frames, Code.isFrame, guardIds, h]
/-- a promise by a call's shape: values by position, then those by the names ks -/
def FnP (P : Program) (w : World) (K : PySem.W.Frag) (mg : Str → Option Value) (base : Heap) (k : Nat) (f : Addr) (ks : List Str) (sp : Sp) : Prop :=
  ∀ (A : Around) (outer : List Env) (s : Shared) (H : Hp) (us ws : List Value) (vs : List V) (Q : VK) (E : XK), A.guards = some [] → Room k A → Env0 P w K mg base A outer s H → ws.length = ks.length → Vals vs (us ++ ws) → sp vs H Q E →
    codeAny (model P w) A (.call (.ref f) ⟨us, ks.zip ws⟩) (CR (L2.CX P w) outer P w H s Q E) s
section
variable {P : Program} {w : World} {K : PySem.W.Frag} {mg : Str → Option Value} {base : Heap} {j k : Nat} {f : Addr} {fd : FuncData} {ps ks : List Str} {sp sp' : Sp}
theorem FnP.mono (F : FnP P w K mg base j f ks sp) (h : j ≤ k) : FnP P w K mg base k f ks sp := fun A outer s H us ws vs Q E hg hr => F A outer s H us ws vs Q E hg (hr.mono h)
theorem FnP.imp (F : FnP P w K mg base k f ks sp) (h : ∀ vs H Q E, sp' vs H Q E → sp vs H Q E) : FnP P w K mg base k f ks sp' := fun A outer s H us ws vs Q E hg hr e0 hw r hs => F A outer s H us ws vs Q E hg hr e0 hw r (h _ _ _ _ hs)
/-- by position -/
theorem FnG.pos (F : FnG P w K mg base k f fd ps sp) (hb : Binds K fd ps []) : FnP P w K mg base k f [] sp := fun A outer s H us ws vs Q E hg hr e0 hw r hs => by
  have e : ws = [] := List.length_eq_zero_iff.mp hw
  subst e
  rw [List.append_nil] at r
  have hl : (us ++ []).length = ps.length := by
    rw [List.append_nil, ← r.length]
    exact F.len _ _ _ _ hs
  have b := hb s us (e0.mod.kin.keeps fun b o e => (e0.bs b o e).1) hl
  rw [List.append_nil] at b
  exact F.run A outer s H ⟨us, []⟩ us vs Q E hg hr e0 b r hs
end
section
variable {X : Cx} {k : Nat} {f C : Addr} {ks : List Str} {sp : Sp} {E : L2.St → XK} {x m : Str} {p pos apos : Pos} {e o : Expr} {es : List Expr} {kws : List Keyword} {ta : TE} {t tk : TA}
theorem run_P {pins : List (Addr × Obj)} {σ : L2.St} {H : Hp} {s : Shared} {Q : VK} {us ws : List Value} {vs : List V} (F : FnP X.prog X.w X.K X.mg X.base k f ks sp) (hg : X.A.guards = some []) (hr : Room k X.A)
    (hx : PassesAt (L2.CX X.prog X.w) X σ (E σ)) (I : L2.Inv X pins σ H s) (hw : ws.length = ks.length) (r : Vals vs (us ++ ws)) (h : sp vs H Q (E σ)) : wpAny (model X.prog X.w) X.A (call (.ref f) us (ks.zip ws)) (EP X pins σ Q) X.xe s :=
  wpAny_call (codeAny_mono (F X.A X.stack s H us ws vs Q (E σ) hg hr I.env0 hw r h) fun r s' hq => by
    have z := ends_call I hx hq
    cases r with
    | error e => exact z
    | ok fl => cases fl <;> first | exact z | exact z.elim)
/-- a class is called -/
theorem run_makeP {pins : List (Addr × Obj)} {σ : L2.St} {H : Hp} {s : Shared} {Q : VK} {us ws : List Value} {vs : List V} (M : Mk X.K C f) (F : FnP X.prog X.w X.K X.mg X.base k f ks sp) (hg : X.A.guards = some []) (hr : Room (k + 1) X.A)
    (hx : PassesAt (L2.CX X.prog X.w) X σ (E σ)) (I : L2.Inv X pins σ H s) (hw : ws.length = ks.length) (r : Vals vs (us ++ ws))
    (h : ∀ x dx, H x = none → H dx = none → dx ≠ x → sp (.ref x :: vs) (upd (upd H dx (.own x)) x (.ins C dx [])) (fun v H2 => v = .non ∧ Q (.ref x) H2) (E σ)) :
    wpAny (model X.prog X.w) X.A (call (.ref C) us (ks.zip ws)) (EP X pins σ Q) X.xe s := by
  have hq := h (s.heap.objs.size + 1) s.heap.objs.size (I.hok.fresh (Nat.le_succ _)) (I.hok.fresh (Nat.le_refl _)) (Nat.ne_of_lt (Nat.lt_succ_self _))
  have I2 := L2.Inv.made (C := C) I
  have r2 : Vals (V.ref (s.heap.objs.size + 1) :: vs) ((Value.ref (s.heap.objs.size + 1) :: us) ++ ws) := .cons rfl r
  refine wpAny_call (make_map (f := f) I.kIn M.makes M.init (beq_iff_eq.mp M.fn) (codeAny_mono (F _ X.stack _ _ (Value.ref (s.heap.objs.size + 1) :: us) ws _ _ (E σ) (guards_make hg) (hr.make C us (ks.zip ws))
    (I2.env0.make C us (ks.zip ws)) hw r2 hq) fun r s' hq' => ?_))
  cases r with
  | error e => exact hx pins _ _ e s' I2 hq'
  | ok fl =>
    cases fl with
    | ret u =>
      obtain ⟨v, H', I3, rv, ev, q3⟩ := I2.after hq'
      subst ev
      exact ⟨rv, ⟨V.ref (s.heap.objs.size + 1), H', I3, rfl, q3⟩⟩
    | next => exact False.elim hq'
    | brk => exact False.elim hq'
    | cont => exact False.elim hq'
end
theorem evalArgs_kw0 {M : Model} {A : Around} {E : Value → Shared → Prop} {s : Shared} {f : Value} {keywords : List (Option Str × Sem Value)} {Q : Args → Shared → Prop}
    (hall : keywords.all (·.1.isSome) = true)
    (h : wpAny M A (spliced []) (fun vs s₁ => wpAny M A (evalAll (keywords.map (·.2))) (fun ks s₂ => Q ⟨vs, (keywords.filterMap (·.1)).zip ks⟩ s₂) E s₁) E s) :
    wpAny M A (evalArgs f true [] keywords) Q E s := by
  unfold evalArgs
  show wpAny M A (spliced [] >>= _) Q E s
  refine wpAny_bind (wpAny_mono h (fun vs s₁ h₁ => ?_) fun _ _ x => x)
  refine wpAny_bind (wpAny_pure ?_)
  refine wpAny_holding ?_
  simp only [hall, if_true]
  refine wpAny_bind (wpAny_mono h₁ (fun ks s₂ h₂ => ?_) fun _ _ x => x)
  exact wpAny_bind (wpAny_pure (wpAny_pure h₂))
def ArgHd (env : Env) : List Expr → Prop
  | [] => True
  | e :: es => starEach (e :: es) env = (false, eval e env) :: starEach es env
/-- the arguments of a call, by position and by name -/
theorem args_run {X : Cx} {es : List Expr} {kws : List Keyword} {ks : List Str} {t tk : TA} {pos : Pos} {f : Value} {first : List Value} {pins : List (Addr × Obj)} {s : Shared} {σ : L2.St} {H : Hp} {Q : VK}
    (hkp : PySem.W.keepIn X.K f = true) (ha : PA X es t) (hk : PK X kws tk) (I : L2.Inv X pins σ H s)
    (h : t σ H fun vs H1 => tk σ H1 fun zs H2 => zs.length = ks.length ∧ ∀ s2 us ws, L2.Inv X pins σ H2 s2 → ws.length = ks.length → Vals (vs ++ zs) (us ++ ws) → wpAny (model X.prog X.w) X.A (call f (first ++ us) (ks.zip ws)) (EP X pins σ Q) X.xe s2)
    (he : ArgHd X.env es := by first | exact True.intro | exact rfl)
    (hks : (backToKw pos (keywordEach kws X.env)).filterMap (·.1) = ks := by rfl)
    (hall : (backToKw pos (keywordEach kws X.env)).all (·.1.isSome) = true := by rfl)
    (hpl : ((backTo pos (starEach es X.env)).any (·.1) || (backToKw pos (keywordEach kws X.env)).any (·.1.isNone)) = false := by rfl) :
    wpAny (model X.prog X.w) X.A (callWith pos f first (backTo pos (starEach es X.env)) (backToKw pos (keywordEach kws X.env))) (EP X pins σ Q) X.xe s := by
  have fin : ∀ {us : List Value} {vs : List V} {H1 : Hp} {s1 : Shared}, L2.Inv X pins σ H1 s1 → Vals vs us → (tk σ H1 fun zs H2 => zs.length = ks.length ∧ ∀ s2 us ws, L2.Inv X pins σ H2 s2 → ws.length = ks.length → Vals (vs ++ zs) (us ++ ws) → wpAny (model X.prog X.w) X.A (call f (first ++ us) (ks.zip ws)) (EP X pins σ Q) X.xe s2) →
      wpAny (model X.prog X.w) X.A (evalAll ((backToKw pos (keywordEach kws X.env)).map (·.2))) (fun ws s₂ => X.K.In s₂.heap ∧ wpAny (model X.prog X.w) X.A (call f (first ++ us) (((backToKw pos (keywordEach kws X.env)).filterMap (·.1)).zip ws)) (EP X pins σ Q) X.xe s₂) X.xe s1 := by
    intro us vs H1 s1 I1 r q
    refine thn (hk.run pos pins s1 σ H1 _ I1 q) fun ws s2 ⟨zs, H2, I2, rz, hz, q2⟩ => ⟨I2.kIn, ?_⟩
    rw [hks]
    exact q2 s2 us ws I2 (rz.length.symm.trans hz) (r.append rz)
  cases es with
  | nil => exact PySem.W.callWith_of hpl (PySem.W.keeps_K hkp) (evalArgs_kw0 hall (thn (ha.run pos pins s σ H _ I h) fun us s1 ⟨vs, H1, I1, r, q⟩ => fin I1 r q))
  | cons e es => exact PySem.W.callWith_of hpl (PySem.W.keeps_K hkp) (evalArgs_kw2 hall (thn (ha.run pos pins s σ H _ I h) fun us s1 ⟨vs, H1, I1, r, q⟩ => fin I1 r q) he)
/-! ### the making of an object -/
def runI : R (Fl (List D) Empty) → R (List D)
  | .ok (.nx es) => .ok es
  | .ok (.rt _) => .stuck
  | .ok (.bk b) => b.elim
  | .ok (.ct b) => b.elim
  | .ex e => .ex e
  | .stuck => .stuck
def spI (K : PySem.W.Frag) (mg : Str → Option Value) (ns : List Str) (L : Nat → Prop) (g : List D → R (List D)) : Sp := fun vs H Q E => L vs.length ∧ ∃ x C dx rest Hf ds, vs = .ref x :: rest ∧ Sub Hf H ∧ Hf x = none ∧ H x = some (.ins C dx []) ∧ Cls K C ∧ (∀ f ∈ ns, NoAttr K C f) ∧ IsL K mg Hf ds rest ∧ (match g ds with
  | .ok es => ∀ us Hf' H', Ste [x] Hf H Hf' H' → H' x = some (.ins C dx (ns.zip us)) → ns.length = us.length → IsL K mg Hf' es us → Hf' x = none → Q .non H'
  | .ex e => ∀ cls dd Hf' H', Ste [x] Hf H Hf' H' → ExIs K mg Hf' H' e cls dd → E cls dd H'
  | .stuck => False)
abbrev fxI (ns : List Str) (x : Addr) (H Hf : Hp) (E : XK) : Fx := ⟨[], H, Hf, fun cls d _ H' => E cls d H', none, false, [x], ns⟩
def GI (N : List Str) (ds : List D) : List Sl := .ob [] [] :: (ds.map Sl.im ++ List.replicate (N.length - ds.length - 1) .un)
def exI (N ns : List Str) (es : List D) : List Sl := .ob ns es :: (N.tail.map fun _ => .un)
section
variable {K : PySem.W.Frag} {mg : Str → Option Value}
theorem StS.initI {Hf H : Hp} {E : XK} {ds : List D} {vs : List V} {N : List Str} {s : S} {x C dx : Addr} (sb : Sub Hf H) (hf : Hf x = none) {ns : List Str} (hx : H x = some (.ins C dx [])) (c : Cls K C) (na : ∀ f ∈ ns, NoAttr K C f) (l : IsL K mg Hf ds vs) (hn : vs.length + 1 ≤ N.length) :
    StS K mg (fxI ns x H Hf E) Hf H (start N (.ref x :: vs)) (GI N ds) s := by
  refine ⟨.refl sb, trivial, fun b m => ?_, ?_, fun i y e => ?_, fun i j y z p ne ey ez oy oz e1 e2 => ?_⟩
  · have : b = x := by
      rcases List.mem_append.mp m with m | m
      · simpa using m
      · cases m
    subst this
    exact ⟨hf, by rw [hx]; simp, fun _ => by show H b ≠ none; rw [hx]; simp⟩
  · rw [start_len (by simpa using hn)]
    unfold GI
    have := l.len
    simp
    omega
  · cases i with
    | zero =>
      cases e
      exact ⟨x, C, dx, [], start_at rfl, hx, hf, ⟨by simp, [], hx⟩, by simp, ⟨c, na⟩, rfl, rfl⟩
    | succ i =>
      have e' : (ds.map Sl.im ++ List.replicate (N.length - ds.length - 1) .un)[i]? = some y := e
      have q := slOk_G0 (fx := fxI ns x H Hf E) (H := H) (N := N) l e'
      cases y with
      | un => trivial
      | im d =>
        obtain ⟨v, hv, hi⟩ := q
        refine ⟨v, ?_, hi⟩
        cases h : vs[i]? with
        | none => rw [h] at hv; cases hv
        | some w => rw [h] at hv; cases hv; exact start_at (by simpa using h)
      | ow ds => exact (isOw_im e' rfl).elim
      | od ks ds => exact (isOw_im e' rfl).elim
      | ob ns ds => exact (isOw_im e' rfl).elim
      | bg =>
        obtain ⟨b, r, e, _⟩ := q
        cases e
  · have z1 : i = 0 := by
      cases i with
      | zero => rfl
      | succ i => exact (isOw_im (n := N.length - ds.length - 1) (ds := ds) (i := i) ey oy).elim
    have z2 : j = 0 := by
      cases j with
      | zero => rfl
      | succ j => exact (isOw_im (n := N.length - ds.length - 1) (ds := ds) (i := j) ez oz).elim
    exact ne (z1.trans z2.symm)
end
theorem runI_read {K : PySem.W.Frag} {mg : Str → Option Value} {ns N : List Str} {o C dx : Addr} {H Hf : Hp} {E : XK} {Q : VK} {body : R (Fl (List D) Empty)} {s : S} (hx : H o = some (.ins C dx []))
    (q : match runI body with
      | .ok es => ∀ us Hf' H', Ste [o] Hf H Hf' H' → H' o = some (.ins C dx (ns.zip us)) → ns.length = us.length → IsL K mg Hf' es us → Hf' o = none → Q .non H'
      | .ex e => ∀ cls dd Hf' H', Ste [o] Hf H Hf' H' → ExIs K mg Hf' H' e cls dd → E cls dd H'
      | .stuck => False) :
    Mo.wp body s (FP K mg (fxI ns o H Hf E) Hf (exI N ns) Empty.elim { nx := fun _ H' => Q .non H', rt := Q }) (EXS K mg (fxI ns o H Hf E)) := by
  show R.wp body _ _ _
  cases body with
  | ok f =>
    cases f with
    | nx es =>
      refine fun Hf' H' σ' _ st => ?_
      obtain ⟨p, C', dx', us, ep, hp', hf', ⟨hm, f0, h00⟩, _, _, hl2, l2⟩ := st.sl 0 _ rfl
      have e1 : p = o := by simpa using hm
      subst e1
      have e2 : C' = C ∧ dx' = dx := by
        have z : H p = some (.ins C' dx' f0) := h00
        rw [hx] at z
        cases z
        exact ⟨rfl, rfl⟩
      obtain ⟨rfl, rfl⟩ := e2
      exact q us Hf' H' st.ste hp' hl2 l2 hf'
    | rt d => exact (show False from q).elim
    | bk b => exact b.elim
    | ct b => exact b.elim
  | ex e => exact fun cls dd σ' Hf' H' st x => q cls dd Hf' H' st.1 x
  | stuck => exact q
section
variable {X : Cx} {fx : Fx} {m : Type → Type} [Mo m] {G : List Sl} {α β : Type} {kk : Nat} {e : Expr} {rest : List Stmt} {ex : α → List Sl} {exb : β → List Sl} {pos pos' : Pos} {x : m D} {k : D → m (Fl α β)} {f n : Str} {np : Pos} {ns : List Str} {ds : List D}
theorem putF_new {f : Str} {y : V} : ∀ {ns : List Str} {vs : List V}, ns.length = vs.length → f ∉ ns → putF f y (ns.zip vs) = (ns ++ [f]).zip (vs ++ [y])
  | [], [], _, _ => rfl
  | g :: ns, v :: vs, hl, hn => by
    have h1 : g ≠ f := fun z => hn (by simp [z])
    show putF f y ((g, v) :: ns.zip vs) = (g, v) :: (ns ++ [f]).zip (vs ++ [y])
    unfold putF
    rw [if_neg h1, putF_new (by simpa using hl) fun z => hn (List.mem_cons_of_mem _ z)]
  | [], _ :: _, hl, _ => by simp at hl
  | _ :: _, [], hl, _ => by simp at hl
/-- self.f = e, in __init__ -/
theorem dss_fld (i : Nat) (he : PE X e (tE X.K X.mg fx G x)) (hr : ∀ d, PSs X rest (tS X.K X.mg fx (G.set i (.ob (ns ++ [f]) (ds ++ [d]))) ex exb (k d))) (hG : G[i]? = some (.ob ns ds) := by rfl) (hN : X.N[i]? = some n := by rfl) (hf : f ∉ ns := by decide +kernel) (hm : f ∈ fx.nas := by decide +kernel) (hz : ns.length < 1000 := by decide)
    (hv : Vis X.env.scope n := by first | exact Or.inl rfl | exact Or.inr (Or.inl rfl) | exact Or.inr (Or.inr rfl)) (hd : (n == ("__debug__" : Str)) = false := by decide) (hcd : (n == ("__classdict__" : Str)) = false := by decide)
    (hs : swapsWith e (some (.Attribute (.Name n np) f pos')) pos.line X.env = pure false := by rfl) (hg : GxOk fx G := by first | exact True.intro | repeat' (first | exact True.intro | exact Or.inl rfl | exact Or.inr rfl | refine And.intro ?_ ?_)) :
    PSs X (.Assign [.Attribute (.Name n np) f pos'] e pos :: rest) (tS X.K X.mg fx G ex exb (x >>= k)) := pssI (pss_cons (ps_fld (pe_var hN hv hd hcd) he hs) (pss_ex hr)) fun De σ H ⟨Hf, s, h⟩ =>
  ((h.bind hg).mono fun v H1 ⟨d, Hf1, s1, sb, r, h1⟩ => by
    obtain ⟨p, C, dx, vs, ep, hp, hf', h0, nb, ⟨c, na⟩, hl, l⟩ := h1.1.sl i _ hG
    refine ⟨.ref p, ep, p, C, dx, ns.zip vs, rfl, hp, c, na _ hm, ?_, d, Hf1, s1, ?_, h1.2⟩
    · rw [List.length_zip, ← hl, Nat.min_self]; exact hz
    · refine h1.1.updAt hG rfl ep rfl ⟨p, C, dx, vs ++ [v], rfl, ?_, hf', h0, nb, ⟨c, na⟩, by simp [hl], l.app (.cons r .nil)⟩
      rw [upd_same, putF_new hl hf]).to
theorem lookup_zip {f : Str} : ∀ {ns : List Str} {vs : List V} {j : Nat} {v : V}, ns.idxOf? f = some j → vs[j]? = some v → (ns.zip vs).lookup f = some v
  | [], _, _, _, e, _ => by cases e
  | g :: ns, [], _, _, _, e => by simp at e
  | g :: ns, v :: vs, j, w, e, e2 => by
    by_cases h : g = f
    · subst h
      have z : j = 0 := by simpa [List.idxOf?, List.findIdx?_cons] using e.symm
      subst z
      simp at e2
      subst e2
      simp
    · have h' : (f == g) = false := by simpa using Ne.symm h
      have h2 : (g == f) = false := by simpa using h
      cases j with
      | zero =>
        exfalso
        simp [List.idxOf?, List.findIdx?_cons, h2] at e
      | succ j =>
        have e' : ns.idxOf? f = some j := by
          simp [List.idxOf?, List.findIdx?_cons, h2] at e ⊢
          exact e
        have := lookup_zip e' (by simpa using e2)
        simpa [List.lookup, h'] using this
end
end DL
/-! ### objects: made, read, asked -/
namespace DL
open PySem PySem.Spec PyProof.Rows L2
/-- a class of the program -/
structure ClsN (K : PySem.W.Frag) (mg : Str → Option Value) (c : Str) (C : Addr) : Prop where
  mg : mg c = some (.ref C)
  cl : Cls K C
  ca : PySem.W.findIn K (.ref C) "__class__" = some (some (.builtin "object.__class__"))
  cn : PySem.W.specialIn K (.builtin "object.__class__") "__get__" = some (some (.builtin "getset_descriptor.__get__"))
  ct : PySem.W.takesIn K (.builtin "object.__class__") = some true
  cm : PySem.W.mroIn K C (.type "object") = some true
section
variable {X : Cx} {fx : Fx} {m : Type → Type} [Mo m] {G : List Sl} {es : List Expr} {kws : List Keyword} {ks : List Str} {pos p : Pos} {ys zz : m (List D)} {kk j n : Nat} {c : Str} {C fI : Addr} {ns : List Str} {g : List D → R (List D)}
/-- an object is made: what __init__ is asked -/
theorem make_core {vs : List V} {ds : List D} {Hf : Hp} {s : S} {σ : L2.St} {H : Hp} {Q : VK} {x dx : Addr} (cn : ClsN X.K X.mg c C) (na : ∀ f ∈ ns, NoAttr X.K C f) {L : Nat → Prop} (hn : L (ds.length + 1)) (r : IsL X.K X.mg Hf ds vs) (h : tX X.K X.mg fx G (fun H d v => Is X.K X.mg H d v) (Mo.lift (g ds) >>= fun es => pure (.ins c ns es) : m D) Hf s σ H Q) (hx : H x = none) (hdx : H dx = none) (hne : dx ≠ x) :
    spI X.K X.mg ns L g (.ref x :: vs) (upd (upd H dx (.own x)) x (.ins C dx [])) (fun v H2 => v = .non ∧ Q (.ref x) H2) (WE fx.W σ) := by
  have w := Mo.wp_lift (Mo.wp_bind h.2)
  have hl := r.len
  have e2 : ∀ a o, H a = some o → upd (upd H dx (.own x)) x (.ins C dx []) a = some o := fun a o q => by rw [upd_ne (ne_of_none q hx), upd_ne (ne_of_none q hdx)]; exact q
  have hfx : Hf x = none := h.1.top.none hx
  have up : ∀ {Hf' H' : Hp}, Ste [x] Hf (upd (upd H dx (.own x)) x (.ins C dx [])) Hf' H' → Ste [] Hf H Hf' H' := fun {Hf' H'} st => ⟨st.sub, st.top, fun a o q _ => st.keep a o (e2 a o q) (by simpa using ne_of_none q hx), fun a q => st.dom a (by
    cases z : H a with
    | none => exact absurd z q
    | some o => rw [e2 a o z]; simp), fun a o q => by
    rcases st.fresh a o q with z | z
    · exact .inl z
    · refine .inr ?_
      cases y : H a with
      | none => rfl
      | some u => rw [e2 a u y] at z; cases z⟩
  refine ⟨by rw [List.length_cons, ← hl]; exact hn, x, C, dx, vs, Hf, ds, rfl, fun a o q => e2 a o (h.1.top a o q), hfx, upd_same, cn.cl, na, r, ?_⟩
  cases z : g ds with
  | ok es =>
    rw [z] at w
    intro us Hf' H' st hp hnl l hf'
    refine ⟨rfl, ?_⟩
    have w' := Mo.wp_pure w
    have st0 := up st
    have sb : Sub Hf' (upd Hf' x (.ins C dx (ns.zip us))) := fun a o q => by
      have ne : a ≠ x := fun z => by rw [z, hf'] at q; cases q
      rw [upd_ne ne]; exact q
    have st1 : Ste [] Hf H (upd Hf' x (.ins C dx (ns.zip us))) H' := ⟨st0.sub.trans sb, fun a o q => by
        by_cases c : a = x
        · subst c; rw [upd_same] at q; cases q; exact hp
        · rw [upd_ne c] at q; exact st0.top a o q, st0.keep, st0.dom, fun a o q => by
        by_cases c : a = x
        · subst c; exact .inr hx
        · rw [upd_ne c] at q; exact st0.fresh a o q⟩
    exact w' (.ref x) _ H' st1.wide (st1.bag h.1.bag) ⟨x, C, dx, us, rfl, cn.mg, upd_same, hnl, l.mono sb⟩
  | ex e =>
    rw [z] at w
    exact fun cls dd Hf' H' st xi => w cls dd Hf' H' (h.1.step (up st).wide ((up st).bag h.1.bag)) xi
  | stuck => rw [z] at w; exact w
/-- C(e, ..) -/
theorem de_make {L : Nat → Prop} (Ck : Cok X fx kk) (cn : ClsN X.K X.mg c C) (na : ∀ f ∈ ns, NoAttr X.K C f) (M : Mk X.K C fI) (F : FnP X.prog X.w X.K X.mg X.base j fI [] (spI X.K X.mg ns L g)) (ha : PA X es (tA X.K X.mg fx G ys)) (hn : ∀ ds : List D, g ds ≠ .stuck → L (ds.length + 1))
    (hj : j + 1 ≤ kk := by decide) (hg : Gl X c := by rfl) (hdb : (c == ("__debug__" : Str)) = false := by decide)
    (he : ArgHd X.env es := by first | exact True.intro | exact rfl)
    (hpl : ((backTo pos (starEach es X.env)).any (·.1) || (backToKw pos (keywordEach [] X.env)).any (·.1.isNone)) = false := by rfl) :
    PE X (.Call (.Name c p) es [] pos) (tE X.K X.mg fx G (do let ds ← ys; let es ← Mo.lift (g ds); pure (.ins c ns es))) := by
  refine ⟨fun pins s σ H Q I ⟨Hf, s0, h⟩ => ?_⟩
  refine wpAny_Call_Name_kw (ld_glob I hg cn.mg ?_ hdb)
  refine args_run (ks := []) (tk := tNil) M.kp ha pk_nil I ?_ he rfl rfl hpl
  refine (h.bind.mono fun vs H1 ⟨ds, Hf1, s1, sb, r, h1⟩ => ?_).to
  refine ⟨rfl, fun s2 us ws I2 hw rv => ?_⟩
  rw [List.append_nil] at rv
  have hlen : L (ds.length + 1) := hn ds fun z => by
    have w := Mo.wp_lift (Mo.wp_bind h1.2)
    rw [z] at w
    exact w
  exact run_makeP (E := WE fx.W) M F Ck.gd (Ck.rm.mono hj) (passAt Ck.tk σ) I2 hw rv fun x dx hx hdx hne => make_core cn na hlen r h1 hx hdx hne
end
/-! ### attributes, methods, properties -/
def fldD (cs : List Str) (f : Str) : D → Option D
  | .ins c ns ds => if c ∈ cs then (ns.idxOf? f).bind (ds[·]?) else none
  | _ => none
def FldOk (K : PySem.W.Frag) (mg : Str → Option Value) (f : Str) (cs : List Str) : Prop := ∀ c ∈ cs, ∃ C, mg c = some (.ref C) ∧ Cls K C ∧ NoAttr K C f
def insOk (cs : List Str) (m : Str) : D → Option Unit
  | .ins c ns _ => if c ∈ cs ∧ m ∉ ns then some () else none
  | _ => none
def dispM {α : Type} (L : List (Str × (List D → R α))) : D → List D → R α
  | .ins c ns vs, ds => match L.lookup c with
    | some g => g (.ins c ns vs :: ds)
    | none => .stuck
  | _, _ => .stuck
def MethG (P : Program) (w : World) (K : PySem.W.Frag) (mg : Str → Option Value) (base : Heap) (k : Nat) (m : Str) (ks : List Str) (c : Str) (g : List D → R D) : Prop :=
  ∃ C f n, mg c = some (.ref C) ∧ Cls K C ∧ Meth K C m f ∧ FnP P w K mg base k f ks (spR K mg false n g) ∧ ∀ ds, g ds ≠ .stuck → ds.length = n
theorem lookup_mem {α : Type} {c : Str} {g : α} : ∀ {L : List (Str × α)}, L.lookup c = some g → (c, g) ∈ L
  | [], h => by cases h
  | (d, a) :: L, h => by
    by_cases q : c = d
    · subst q
      simp [List.lookup] at h
      subst h
      exact .head _
    · have q' : (c == d) = false := by simpa using q
      simp [List.lookup, q'] at h
      exact .tail _ (lookup_mem h)
theorem lookup_none {f : Str} : ∀ {ns : List Str} {vs : List V}, f ∉ ns → (ns.zip vs).lookup f = none
  | [], _, _ => rfl
  | g :: ns, [], _ => rfl
  | g :: ns, v :: vs, h => by
    have q : (f == g) = false := by
      have : f ≠ g := fun z => h (by simp [z])
      simpa using this
    simp only [List.zip_cons_cons, List.lookup, q]
    exact lookup_none fun z => h (List.mem_cons_of_mem _ z)
section
variable {X : Cx} {fx : Fx} {m : Type → Type} [Mo m] {G : List Sl} {o : Expr} {es : List Expr} {pos p apos : Pos} {x : m D} {ys : m (List D)} {kk j : Nat} {f mn : Str} {cs : List Str}
theorem de_fld (cs : List Str) (ho : PE X o (tE X.K X.mg fx G x)) (hf : FldOk X.K X.mg f cs) (hb : attributeBase o f X.env (eval o X.env) = eval o X.env := by rfl) : PE X (.Attribute o f pos) (tE X.K X.mg fx G (do let u ← x; DL.ask (fldD cs f u))) :=
  peI (pe_fld ho hb) fun σ H Q ⟨Hf, s, h⟩ => (h.bind.mono fun v1 H1 ⟨d1, Hf1, s1, sb1, r1, h1⟩ => by
    obtain ⟨d, e, q⟩ := h1.ask
    cases d1 with
    | ins c ns ds =>
      have e' : (if c ∈ cs then (ns.idxOf? f).bind (ds[·]?) else none) = some d := e
      by_cases hc : c ∈ cs
      · rw [if_pos hc] at e'
        obtain ⟨C, mC, cl, na⟩ := hf c hc
        obtain ⟨a, C', dx, vs, ea, mC', ha, hl, l⟩ := r1
        rw [mC] at mC'
        cases mC'
        cases e1 : ns.idxOf? f with
        | none => rw [e1] at e'; cases e'
        | some i =>
          rw [e1] at e'
          obtain ⟨v, ev, iv⟩ := l.get (show ds[i]? = some d from e')
          exact ⟨a, C, dx, _, v, ea, h1.1.top _ _ ha, cl, na, lookup_zip e1 ev, q v Hf1 H1 (.refl h1.1.top) iv⟩
      · rw [if_neg hc] at e'; cases e'
    | _ => cases e).to
theorem de_meth {pl : Sem Bool} {L : List (Str × (List D → R D))} (Ck : Cok X fx kk) (ho : PE X o (tE X.K X.mg fx G x)) (hL : ∀ q ∈ L, MethG X.prog X.w X.K X.mg X.base j mn [] q.1 q.2) (ha : PA X es (tA X.K X.mg fx G ys)) (hj : j ≤ kk := by decide)
    (he : ArgHd X.env es := by first | exact True.intro | exact rfl) (hpl : ((backTo pos (starEach es X.env)).any (·.1) || (backToKw pos (keywordEach [] X.env)).any (·.1.isNone)) = false := by rfl)
    (ht : eval (.Call (.Attribute o mn apos) es [] pos) X.env = (do
      let ov ← eval o X.env
      standAt apos.atName
      let (f, first) ← holding [ov] (getMethod ov mn pl)
      callWith pos f first (backTo pos (starEach es X.env)) (backToKw pos (keywordEach [] X.env))) := by rfl) :
    PE X (.Call (.Attribute o mn apos) es [] pos) (tE X.K X.mg fx G (do let u ← x; DL.ask (insOk (L.map Prod.fst) mn u); let ds ← ys; Mo.lift (dispM L u ds))) := by
  refine ⟨fun pins s σ H Q I ⟨Hf, s0, h⟩ => ?_⟩
  refine PySem.W.methodCall_KW (pl := pl) (thn (ho.run pins s σ H _ I (h.bind.to)) fun u s1 ⟨v, H1, I1, rx, d1, Hf1, s1', sb1, r1, h1⟩ => ?_) ht
  have w1 := Mo.wp_lift (Mo.wp_bind h1.2)
  cases d1 with
  | ins c ns vs =>
    by_cases hc : c ∈ L.map Prod.fst ∧ mn ∉ ns
    · have e1 : insOk (L.map Prod.fst) mn (.ins c ns vs) = some () := if_pos hc
      rw [e1] at w1
      obtain ⟨q0, hq0, eq0⟩ := List.mem_map.mp hc.1
      have hlk : ∃ g, L.lookup c = some g := by
        cases z : L.lookup c with
        | some g => exact ⟨g, rfl⟩
        | none =>
          exfalso
          rw [List.lookup_eq_none_iff] at z
          have := z q0 hq0
          simp [eq0] at this
      obtain ⟨g, hg⟩ := hlk
      obtain ⟨C, f, n, mC, cl, mt, F, hn⟩ := hL _ (lookup_mem hg)
      have r1' := r1
      obtain ⟨a, C', dx, us, ea, mC', hH, hl, l⟩ := r1
      rw [mC] at mC'
      cases mC'
      subst ea
      cases (show u = Value.ref a from rx)
      refine getmeth_ok I1 (h1.1.top _ _ hH) cl mt (lookup_none hc.2) ?_
      have h2 : tX X.K X.mg fx G (fun H d v => Is X.K X.mg H d v) (ys >>= fun ds => Mo.lift (dispM L (.ins c ns vs) ds) : m D) Hf1 s1' σ H1 Q := ⟨h1.1, w1⟩
      refine args_run (ks := []) (tk := tNil) (first := [.ref a]) mt.kp ha pk_nil I1 ?_ he rfl rfl hpl
      refine (h2.bind.mono fun ws H2 ⟨ds, Hf2, s2, sb2, r2, h3⟩ => ?_).to
      refine ⟨rfl, fun s2' us' ws' I2 hw rv => ?_⟩
      rw [List.append_nil] at rv
      have e3 : dispM L (.ins c ns vs) ds = g (.ins c ns vs :: ds) := by
        simp only [dispM, hg]
      rw [e3] at h3
      have hlen : (D.ins c ns vs :: ds).length = n := hn _ fun z => by
        have w := Mo.wp_lift h3.2
        have z' : g (D.ins c ns vs :: ds) = .stuck := z
        rw [z'] at w
        exact w
      have rr : IsL X.K X.mg Hf2 (D.ins c ns vs :: ds) (.ref a :: ws) := .cons (r1'.mono sb2) r2
      have hws : ws' = [] := List.length_eq_zero_iff.mp hw
      subst hws
      rw [List.append_nil] at rv
      exact run_P (E := WE fx.W) F Ck.gd (Ck.rm.mono hj) (passAt Ck.tk σ) I2 rfl (by rw [List.append_nil]; exact .cons rfl rv) (fn_core (by rw [← rr.len]; exact hlen) rr h3)
    · have e1 : insOk (L.map Prod.fst) mn (.ins c ns vs) = none := if_neg hc
      rw [e1] at w1
      exact w1.elim
  | _ => exact w1.elim
end
end DL
/-! ### properties, isinstance, calls by names -/
namespace DL
open PySem PySem.Spec PyProof.Rows L2
/-! isinstance -/
/-- what isinstance says of a class tv: of the program's classes, of the built-in ones -/
structure IsT (K : PySem.W.Frag) (mg : Str → Option Value) (tv : Value) (L : List (Str × Bool)) (B : List (String × Bool)) : Prop where
  own : ∀ q ∈ L, ∃ C, ClsN K mg q.1 C ∧ PySem.W.kitOne K (.ref C) tv = some q.2
  bl : ∀ q ∈ B, PySem.W.kitOne K (.type q.1) tv = some q.2
def isiT (L : List (Str × Bool)) (B : List (String × Bool)) : D → Option D
  | .ins c _ _ => (L.lookup c).map .bl
  | d => match tyD d with
    | some a => (B.lookup a).map .bl
    | none => none
theorem lookup_mem' {α β : Type} [BEq α] [LawfulBEq α] {c : α} {g : β} : ∀ {L : List (α × β)}, L.lookup c = some g → (c, g) ∈ L
  | [], h => by cases h
  | (d, a) :: L, h => by
    by_cases q : c = d
    · subst q
      simp [List.lookup] at h
      subst h
      exact .head _
    · have q' : (c == d) = false := by simpa using q
      simp [List.lookup, q'] at h
      exact .tail _ (lookup_mem' h)
section
variable {X : Cx} {fx : Fx} {m : Type → Type} [Mo m] {G : List Sl} {e e2 : Expr} {pos p : Pos} {x : m D}
theorem isi_call {pins : List (Addr × Obj)} {σ : L2.St} {H Hf : Hp} {s : Shared} {Q : VK} {d r : D} {v : V} {u tv : Value} {L : List (Str × Bool)} {B : List (String × Bool)} (T : IsT X.K X.mg tv L B) (I : L2.Inv X pins σ H s) (sb : Sub Hf H) (i : Is X.K X.mg Hf d v) (ru : L2.RelV v u) (hr : isiT L B d = some r)
    (q : ∀ w Hf' H', Ste [] Hf H Hf' H' → Is X.K X.mg Hf' r w → Q w H') : wpAny (model X.prog X.w) X.A (call (.builtin "isinstance") [u, tv]) (EP X pins σ Q) X.xe s := by
  have other : ∀ {a : String} {b : Bool}, tyD d = some a → B.lookup a = some b → r = .bl b → wpAny (model X.prog X.w) X.A (call (.builtin "isinstance") [u, tv]) (EP X pins σ Q) X.xe s := by
    intro a b e1 e2 e3
    subst e3
    obtain ⟨P, Z, p, hx⟩ := kit_of I ru (tyD_is sb i e1)
    exact PySem.W.kia_one Z I.kIn p (T.bl _ (lookup_mem' e2)) hx fun tk => ⟨.bl b, H, I.tok tk, rfl, q _ Hf H (.refl sb) (is_bl _)⟩
  cases d with
  | ins c ns ds =>
    have e' : (L.lookup c).map D.bl = some r := hr
    cases hb : L.lookup c with
    | none => rw [hb] at e'; cases e'
    | some b =>
      rw [hb] at e'
      cases e'
      obtain ⟨C, cn, hk⟩ := T.own _ (lookup_mem hb)
      obtain ⟨a, C', dx, us, ea, mC', hH, hl, l⟩ := i
      subst ea
      cases (show u = Value.ref a from ru)
      have mC := cn.mg
      rw [mC'] at mC
      cases mC
      obtain ⟨mA, O, _⟩ := ins_get I.hok (sb _ _ hH)
      obtain ⟨od, J, _⟩ := O.look
      have ic : PySem.W.isClsIn X.K C = true := by
        obtain ⟨cd, hc, _⟩ := PySem.W.any_some cn.cl.hd
        show (PySem.W.clsIn X.K C).isSome = true
        rw [hc]
        rfl
      exact PySem.W.kia_one (OwX.kitx_slt ic (cn.cl.get _) cn.ca cn.cn cn.ct cn.cm) I.kIn J hk (fun z => nomatch z) fun tk => ⟨.bl b, H, I.tok _, rfl, q _ Hf H (.refl sb) (is_bl _)⟩
  | _ =>
    simp only [isiT] at hr
    split at hr
    · rename_i a e1
      cases e2 : B.lookup a with
      | none => rw [e2] at hr; cases hr
      | some b => rw [e2] at hr; cases hr; exact other e1 e2 rfl
    · cases hr
/-- a class's name as a value -/
theorem pe_own {c : Str} {C : Addr} (h : X.mg c = some (.ref C)) (hg : Gl X c := by rfl) (hd : (c == ("__debug__" : Str)) = false := by decide) : PE X (.Name c p) (fun _ H Q => Q (.ref C) H) := pe_glob hg h (v := .ref C) rfl hd
def rIsT (X : Cx) (L : List (Str × Bool)) (B : List (String × Bool)) (c : V) : List V → Hp → VK → Prop := fun xs H Q => ∃ Hf d v r, xs = [v, c] ∧ Sub Hf H ∧ Is X.K X.mg Hf d v ∧ isiT L B d = some r ∧ ∀ w Hf' H', Ste [] Hf H Hf' H' → Is X.K X.mg Hf' r w → Q w H'
theorem call_isT {tv : Value} {c : V} {L : List (Str × Bool)} {B : List (String × Bool)} (k : ClsV c tv) (T : IsT X.K X.mg tv L B) : CallR X (.builtin "isinstance") (rIsT X L B c) := by
  intro pins s σ H xs us Q I r h
  obtain ⟨Hf, d, v, rr, rfl, sb, i, e, q⟩ := h
  obtain ⟨u1, u2, rfl, r1, r2⟩ := vals2 r
  have e2 := k.eq r2
  subst e2
  exact isi_call T I sb i r1 e q
theorem de_isT {tv : Value} {cv : V} {L : List (Str × Bool)} {B : List (String × Bool)} (k : ClsV cv tv) (T : IsT X.K X.mg tv L B) (he : PE X e (tE X.K X.mg fx G x)) (hc : PE X e2 (fun _ H Q => Q cv H)) (hg : Gl X "isinstance") (hm : X.mg "isinstance" = none)
    (hs : starEach [e, e2] X.env = (false, eval e X.env) :: starEach [e2] X.env := by rfl) (hs2 : starEach [e2] X.env = (false, eval e2 X.env) :: starEach [] X.env := by rfl) (hpl : (backTo pos (starEach [e2] X.env)).any (·.1) = false := by rfl) :
    PE X (.Call (.Name "isinstance" p) [e, e2] [] pos) (tE X.K X.mg fx G (do let d ← x; DL.ask (isiT L B d))) :=
  peI (pe_callB (call_isT k T) hg hm rfl (pa_cons he (pa_cons hc pa_nil hs2) hs) (by decide) (by decide) hs hpl) fun σ H Q ⟨Hf, s, h⟩ =>
  (h.bind.mono fun v1 H1 ⟨d1, Hf1, s1, sb1, r1, h1⟩ => by
    obtain ⟨d, e, q⟩ := h1.ask
    exact ⟨Hf1, d1, v1, d, rfl, h1.1.top, r1, e, q⟩).to
end
end DL
/-! ### == by an own __eq__ -/
namespace DL
open PySem PySem.Spec PyProof.Rows L2
def toO : R D → Option D
  | .ok d => some d
  | _ => none
def okR (Ls : List Str) : D → Bool
  | .ins c _ _ => decide (c ∈ Ls)
  | d => (tyD d).isSome
def eqO (L : List (Str × (List D → R D))) (a b : D) : Option D := match a with
  | .ins c ns ds => if okR (L.map Prod.fst) b = true then (L.lookup c).bind fun g => toO (g [.ins c ns ds, b]) else none
  | a => eqD a b
def notD : D → Option D
  | .bl b => some (.bl !b)
  | _ => none
def neO (L : List (Str × (List D → R D))) (a b : D) : Option D := match a with
  | .ins c ns ds => (eqO L (.ins c ns ds) b).bind notD
  | a => neD a b
def baseTys : List String := ["NoneType", "bool", "int", "str", "tuple", "list", "dict"]
def EqC (P : Program) (w : World) (K : PySem.W.Frag) (mg : Str → Option Value) (base : Heap) (k : Nat) (Ls : List Str) (c : Str) (g : List D → R D) : Prop :=
  ∃ C f, ClsN K mg c C ∧ PySem.W.findIn K (.ref C) "__eq__" = some (some (.ref f)) ∧ PySem.W.isFn K (.ref f) = true ∧ FnP P w K mg base k f [] (spR K mg false 2 g) ∧ (∀ T ∈ baseTys, PySem.W.notFirst K C (.type T) = true) ∧ (∀ c' ∈ Ls, ∀ C', mg c' = some (.ref C') → PySem.W.notFirst K C (.ref C') = true) ∧
    PySem.W.findIn K (.ref C) "__ne__" = some (some (.builtin "object.__ne__"))
theorem tyD_base {d : D} {T : String} (h : tyD d = some T) : T ∈ baseTys := by
  cases d <;> cases h <;> simp [baseTys]
theorem ex_false {P : Program} {w : World} {outer : List Env} {H : Hp} {s s' : Shared} {e : Value} (h : L2.CX P w outer H s (fun _ _ _ => False) e s') : False := by
  obtain ⟨_, _, _, _, _, _, _, _, _, _, _, _, z⟩ := h
  exact z
section
variable {X : Cx} {k n : Nat} {L : List (Str × (List D → R D))}
/-- a def that lets nothing out, called below -/
theorem dun_run {A : Around} {E : Value → Shared → Prop} {pins : List (Addr × Obj)} {σ : L2.St} {H Hf : Hp} {s : Shared} {Q : VK} {f : Addr} {g : List D → R D} {ds : List D} {vs : List V} {us : List Value} {d : D} (F : FnP X.prog X.w X.K X.mg X.base k f [] (spR X.K X.mg false n g)) (hg : A.guards = some []) (hr : Room k A) (e0 : Env0 X.prog X.w X.K X.mg X.base A X.stack s H) (I : L2.Inv X pins σ H s)
    (sb : Sub Hf H) (i : IsL X.K X.mg Hf ds vs) (hn : vs.length = n) (r : Vals vs us) (e : toO (g ds) = some d) (q : ∀ u Hf' H', Ste [] Hf H Hf' H' → Is X.K X.mg Hf' d u → Q u H') : wpAny (model X.prog X.w) A (call (.ref f) us) (EP X pins σ Q) E s := by
  refine wpAny_call (codeAny_mono (F A X.stack s H us [] vs Q (fun _ _ _ => False) hg hr e0 rfl (by rw [List.append_nil]; exact r) ⟨hn, Hf, ds, sb, i, ?_⟩) fun r s' hq => ?_)
  · cases z : g ds with
    | ok d' => rw [z] at e; cases e; exact fun v Hf' H' st i => q v Hf' H' st i
    | ex e2 => rw [z] at e; cases e
    | stuck => rw [z] at e; cases e
  · cases r with
    | error e => exact (ex_false hq).elim
    | ok fl =>
      cases fl with
      | ret u => exact I.after hq
      | next => exact False.elim hq
      | brk => exact False.elim hq
      | cont => exact False.elim hq
theorem right_ty {pins : List (Addr × Obj)} {σ : L2.St} {H Hf : Hp} {s : Shared} {d : D} {v : V} {u : Value} {Ls : List Str} (I : L2.Inv X pins σ H s) (sb : Sub Hf H) (i : Is X.K X.mg Hf d v) (r : L2.RelV v u) (h : okR Ls d = true) :
    ∃ tb, PySem.W.Looks (model X.prog X.w) s.heap (typeOf u) tb ∧ ((∃ T ∈ baseTys, tb = .type T) ∨ ∃ c ∈ Ls, ∃ C, X.mg c = some (.ref C) ∧ tb = .ref C) := by
  have other : ∀ {T : String}, tyD d = some T → ∃ tb, PySem.W.Looks (model X.prog X.w) s.heap (typeOf u) tb ∧ ((∃ T ∈ baseTys, tb = .type T) ∨ ∃ c ∈ Ls, ∃ C, X.mg c = some (.ref C) ∧ tb = .ref C) := by
    intro T e
    obtain ⟨P, Z, p, _⟩ := kit_of I r (tyD_is sb i e)
    exact ⟨.type T, Z.ty _ _ I.kIn p, .inl ⟨T, tyD_base e, rfl⟩⟩
  cases d with
  | ins c ns ds =>
    have hc : c ∈ Ls := of_decide_eq_true h
    obtain ⟨a, C, dx, us, ea, mC, hH, hl, l⟩ := i
    subst ea
    cases (show u = Value.ref a from r)
    obtain ⟨mA, O, _⟩ := ins_get I.hok (sb _ _ hH)
    obtain ⟨od, J, _⟩ := O.look
    exact ⟨.ref C, J.type, .inr ⟨c, hc, C, mC, rfl⟩⟩
  | scr _ => exact other rfl
  | xc _ _ _ _ => cases h
  | non => exact other rfl
  | bl _ => exact other rfl
  | int _ => exact other rfl
  | str _ => exact other rfl
  | tup _ => exact other rfl
  | lst _ => exact other rfl
  | dic _ _ => exact other rfl
theorem od_eqO (hL : ∀ q ∈ L, EqC X.prog X.w X.K X.mg X.base k (L.map Prod.fst) q.1 q.2) (hg : X.A.guards = some []) (hr : Room k X.A) (hb : OpR X (compareOp .Eq) (rD2 X.K X.mg eqD)) : OpR X (compareOp .Eq) (rD2 X.K X.mg (eqO L)) := by
  intro pins s σ H x y v u Q I rx ry h
  obtain ⟨Hf, dx, dy, d, sb, ix, iy, e, q⟩ := h
  have other : eqD dx dy = some d → wpAny (model X.prog X.w) X.A (compareOp .Eq v u) (EP X pins σ Q) X.xe s := fun e => hb pins s σ H x y v u Q I rx ry ⟨Hf, dx, dy, d, sb, ix, iy, e, q⟩
  cases dx with
  | ins c ns ds =>
    have e' : (if okR (L.map Prod.fst) dy = true then (L.lookup c).bind fun g => toO (g [.ins c ns ds, dy]) else none) = some d := e
    by_cases hk : okR (L.map Prod.fst) dy = true
    · rw [if_pos hk] at e'
      cases hlk : L.lookup c with
      | none => rw [hlk] at e'; cases e'
      | some g =>
        rw [hlk] at e'
        have e2 : toO (g [.ins c ns ds, dy]) = some d := e'
        obtain ⟨C, f, cn, hs, hf, F, n1, n2, _⟩ := hL _ (lookup_mem hlk)
        have ix' := ix
        obtain ⟨a, C', dx', us, ea, mC, hH, hl, l⟩ := ix
        rw [cn.mg] at mC
        cases mC
        subst ea
        cases (show v = Value.ref a from rx)
        obtain ⟨mA, O, _⟩ := ins_get I.hok (sb _ _ hH)
        obtain ⟨od, J, _⟩ := O.look
        obtain ⟨tb, ht, hn⟩ := right_ty I sb iy ry hk
        have hn' : PySem.W.notFirst X.K C tb = true := by
          rcases hn with ⟨T, hT, rfl⟩ | ⟨c', hc', C', mC', rfl⟩
          · exact n1 T hT
          · exact n2 c' hc' C' mC'
        obtain ⟨m', hF⟩ := I.fr
        refine PySem.W.cmp_K (op := .Eq) (tb := tb) hr.units0 hF I.ok.mod.kin J ht hn' hs hf ?_
        refine wpAny_mono (dun_run (us := [.ref a, u]) (Q := Q) F hg hr I.env0 I sb (.cons ix' (.cons iy .nil)) rfl (.cons rfl (.cons ry .nil)) e2 q) (fun w s' z => ?_) fun _ _ z => z
        obtain ⟨z', H', I', rz, qz⟩ := z
        exact SlX.cmpback rz ⟨z', H', I', rz, qz⟩
    · rw [if_neg hk] at e'; cases e'
  | _ => exact other e
end
/-! ### != by object's __ne__, in, len, str -/
open Builtin in
theorem ne_call {prog : Program} {w : World} {A : Around} {E : Value → Shared → Prop} {s : Shared} {K : PySem.W.Frag} {x C f : Addr} {ox : Obj} {od : Option Obj} {b : Value} {Q : Value → Shared → Prop} (hu : A.in1.units < cLine) (X : K.In s.heap) (I : PySem.W.InstAt s.heap x ox C od) (hm : PySem.W.mroIn K C (.type "object") = some true)
    (hs : PySem.W.findIn K (.ref C) "__eq__" = some (some (.ref f))) (hf : PySem.W.isFn K (.ref f) = true) (h : wpAny (model prog w) A.in1 (call (.ref f) [.ref x, b]) (fun v s' => ∃ r, v = .bool r ∧ Q (.bool (!r)) s') E s) : wpAny (model prog w) A (call (.builtin "object.__ne__") [.ref x, b]) Q E s := by
  refine wpAny_call (codeAny_call_builtin PySem.F.slot_object_ne.plain PySem.F.cmpEntry_ne (PySem.W.check_slot (i := "object.__ne__") (owner := "object") (n := "__ne__") (by decide +kernel) (by decide +kernel) (I.type.andThen (PySem.W.looks_mroIn X hm)) (PySem.F.cmpArgs_ne _ _) ?_))
  unfold Builtin.«object.__ne__»
  repeat (first
    | with_reducible refine wpAny_cRoomFor hu ?_
    | (refine wpAny_bind (m := callSpecialIfBound? (.ref x) (Str.ofString "__eq__") [b])
        (PySem.W.ifBound_K X I hs hf (wpAny_mono h (fun r s' hr => by
          obtain ⟨b, rfl, hq⟩ := hr
          repeat (first | exact hq | exact wpAny_pure hq | exact wpAny_truthy_bool hq | (refine wpAny_bind (m := truthy (.bool _)) (wpAny_truthy_bool ?_)) | wp_step)) fun _ _ e => e)))
    | wp_step)
theorem ifBound_B {M : Model} {A : Around} {E : Value → Shared → Prop} {s : Shared} {K : PySem.W.Frag} {x C : Addr} {ox : Obj} {od : Option Obj} {name : Str} {id : String} {args : List Value} {Q : Option Value → Shared → Prop} (X : K.In s.heap) (I : PySem.W.InstAt s.heap x ox C od) (hs : PySem.W.findIn K (.ref C) name = some (some (.builtin id))) (hb : ∀ self, bindSpecial (.builtin id) self = pure (.builtin id, [self]))
    (h : wpAny M A (call (.builtin id) (.ref x :: args)) (fun v => Q (some v)) E s) : wpAny M A (callSpecialIfBound? (.ref x) name args) Q E s := by
  simp only [callSpecialIfBound?, bindSpecialIfBound?]
  refine wpAny_holding (wpAny_bind (wpAny_bind (wpAny_bind (I.type.here ((PySem.W.looks_findIn X hs).here ?_)))))
  refine wpAny_bind (wpAny_askSetting (wpAny_ite ?_))
  have fin : wpAny M A (call (.builtin id) ([.ref x] ++ args) >>= fun v => pure (some v)) Q E s := wpAny_bind (wpAny_mono h (fun v s' h' => wpAny_pure h') fun _ _ h' => h')
  split
  · exact wpAny_bind ((PySem.W.Looks.of_pure (hb _)).here (wpAny_pure (by exact fin)))
  · exact wpAny_tryCatch (wpAny_bind ((PySem.W.Looks.of_pure (hb _)).here (wpAny_pure (by exact fin))))
theorem ne_K {prog : Program} {w : World} {A : Around} {E : Value → Shared → Prop} {s : Shared} {K : PySem.W.Frag} {x C f : Addr} {ox : Obj} {od : Option Obj} {b tb : Value} {Q : Value → Shared → Prop} (hu : A.in1.units < cLine) (hu0 : A.units < cLine) (X : K.In s.heap) (I : PySem.W.InstAt s.heap x ox C od) (hb : PySem.W.Looks (model prog w) s.heap (typeOf b) tb) (hn : PySem.W.notFirst K C tb = true) (hm : PySem.W.mroIn K C (.type "object") = some true)
    (hne : PySem.W.findIn K (.ref C) "__ne__" = some (some (.builtin "object.__ne__")))
    (hs : PySem.W.findIn K (.ref C) "__eq__" = some (some (.ref f))) (hf : PySem.W.isFn K (.ref f) = true) (h : wpAny (model prog w) A.in1 (call (.ref f) [.ref x, b]) (fun v s' => ∃ r, v = .bool r ∧ Q (.bool (!r)) s') E s) : wpAny (model prog w) A (richCompare .NotEq (.ref x) b) Q E s := by
  have one : wpAny (model prog w) A (tryCompare (.ref x) (cmpInfo .NotEq).2.1 b) (fun r s' => ∃ v, r = some v ∧ Q v s') E s := by
    unfold tryCompare
    refine wpAny_bind (wpAny_mono (ifBound_B (Q := fun r s' => ∃ r', r = some (.bool r') ∧ Q (.bool r') s') X I hne PySem.F.slot_object_ne.bind (wpAny_mono (ne_call (Q := fun v s' => ∃ r, v = .bool r ∧ Q (.bool r) s') hu X I hm hs hf (wpAny_mono h (fun v s' hv => ?_) fun _ _ e => e)) (fun v s' hv => ?_) fun _ _ e => e)) (fun r s' hr => ?_) fun _ _ e => e)
    · obtain ⟨r, rfl, q⟩ := hv
      exact ⟨r, rfl, _, rfl, q⟩
    · obtain ⟨r', rfl, q⟩ := hv
      exact ⟨r', rfl, q⟩
    · obtain ⟨r', rfl, q⟩ := hr
      exact wpAny_pure ⟨_, rfl, q⟩
  unfold richCompare
  simp only [oneThing_ref]
  refine wpAny_holding (wpAny_bind (wpAny_cRoomFor hu0 ?_))
  refine wpAny_bind (I.type.here (wpAny_bind (hb.here ?_)))
  split
  · rename_i q
    have e : PySem.W.subIn K tb (.ref C) = some false := by
      rcases Bool.or_eq_true_iff.mp hn with e | e
      · rw [beq_iff_eq.mp e] at q; simp at q
      · exact beq_iff_eq.mp e
    refine wpAny_bind ((PySem.W.looks_subIn X e).here ?_)
    simp only [Bool.false_eq_true, if_false]
    refine wpAny_bind (wpAny_mono one (fun r s' z => ?_) fun _ _ e => e)
    obtain ⟨v, rfl, hq⟩ := z
    exact wpAny_pure hq
  · refine wpAny_bind (wpAny_pure ?_)
    simp only [Bool.false_eq_true, if_false]
    refine wpAny_bind (wpAny_mono one (fun r s' z => ?_) fun _ _ e => e)
    obtain ⟨v, rfl, hq⟩ := z
    exact wpAny_pure hq
section
variable {X : Cx} {k : Nat} {L : List (Str × (List D → R D))}
theorem od_neO (hL : ∀ q ∈ L, EqC X.prog X.w X.K X.mg X.base k (L.map Prod.fst) q.1 q.2) (hg : X.A.guards = some []) (hr : Room (k + 1) X.A) (hb : OpR X (compareOp .NotEq) (rD2 X.K X.mg neD)) : OpR X (compareOp .NotEq) (rD2 X.K X.mg (neO L)) := by
  intro pins s σ H x y v u Q I rx ry h
  obtain ⟨Hf, dx, dy, d, sb, ix, iy, e, q⟩ := h
  have other : neD dx dy = some d → wpAny (model X.prog X.w) X.A (compareOp .NotEq v u) (EP X pins σ Q) X.xe s := fun e => hb pins s σ H x y v u Q I rx ry ⟨Hf, dx, dy, d, sb, ix, iy, e, q⟩
  cases dx with
  | ins c ns ds =>
    have e0 : (eqO L (.ins c ns ds) dy).bind notD = some d := e
    cases e3 : eqO L (.ins c ns ds) dy with
    | none => rw [e3] at e0; cases e0
    | some d1 =>
      rw [e3] at e0
      have e4 : notD d1 = some d := e0
      have e' : (if okR (L.map Prod.fst) dy = true then (L.lookup c).bind fun g => toO (g [.ins c ns ds, dy]) else none) = some d1 := e3
      by_cases hk : okR (L.map Prod.fst) dy = true
      · rw [if_pos hk] at e'
        cases hlk : L.lookup c with
        | none => rw [hlk] at e'; cases e'
        | some g =>
          rw [hlk] at e'
          have e2 : toO (g [.ins c ns ds, dy]) = some d1 := e'
          obtain ⟨C, f, cn, hs, hf, F, n1, n2, hne⟩ := hL _ (lookup_mem hlk)
          have ix' := ix
          obtain ⟨a, C', dx', us, ea, mC, hH, hl, l⟩ := ix
          rw [cn.mg] at mC
          cases mC
          subst ea
          cases (show v = Value.ref a from rx)
          obtain ⟨mA, O, _⟩ := ins_get I.hok (sb _ _ hH)
          obtain ⟨od, J, _⟩ := O.look
          obtain ⟨tb, ht, hn⟩ := right_ty I sb iy ry hk
          have hn' : PySem.W.notFirst X.K C tb = true := by
            rcases hn with ⟨T, hT, rfl⟩ | ⟨c', hc', C', mC', rfl⟩
            · exact n1 T hT
            · exact n2 c' hc' C' mC'
          cases d1 with
          | bl b =>
            cases e4
            refine ne_K hr.in1.units0 hr.units0 I.kIn J ht hn' cn.cm hne hs hf ?_
            refine wpAny_mono (dun_run (us := [.ref a, u]) (Q := fun v H' => ∃ Hf', v = .bl b ∧ Ste [] Hf H Hf' H') F hg hr.in1 I.env0.in1 I sb (.cons ix' (.cons iy .nil)) rfl (.cons rfl (.cons ry .nil)) e2 fun u Hf' H' st i => ⟨Hf', i, st⟩) (fun w s' z => ?_) fun _ _ z => z
            obtain ⟨z', H', I', rz, Hf', ez, st⟩ := z
            subst ez
            exact ⟨b, rz, .bl (!b), H', I', rfl, q _ Hf' H' st (is_bl _)⟩
          | _ => cases e4
      · rw [if_neg hk] at e'; cases e'
  | _ => exact other e
/-! in, by an own __contains__ -/
end
end DL
/-! ### in, len, str of instances; str of ints; f-strings -/
namespace DL
open PySem PySem.Spec PyProof.Rows L2
/-- an own special method, without exceptions -/
def DunC (P : Program) (w : World) (K : PySem.W.Frag) (mg : Str → Option Value) (base : Heap) (k n : Nat) (m : Str) (c : Str) (g : List D → R D) : Prop :=
  ∃ C f, ClsN K mg c C ∧ PySem.W.findIn K (.ref C) m = some (some (.ref f)) ∧ PySem.W.isFn K (.ref f) = true ∧ FnP P w K mg base k f [] (spR K mg false n g)
section
variable {X : Cx} {k : Nat} {L : List (Str × (List D → R D))}
/-! len -/
def lenO (L : List (Str × (List D → R D))) : List D → Option D
  | [.ins c ns ds] => match (L.lookup c).bind fun g => toO (g [.ins c ns ds]) with
    | some (.int i) => if 0 ≤ i ∧ i < 9223372036854775808 then some (.int i) else none
    | _ => none
  | ds => lenD ds
theorem oc_lenO (hL : ∀ q ∈ L, DunC X.prog X.w X.K X.mg X.base k 1 "__len__" q.1 q.2) (hg : X.A.guards = some []) (hr : Room (k + 1) X.A) : CallR X (.builtin "len") (rDs X.K X.mg (lenO L)) := by
  intro pins s σ H xs us Q I r h
  obtain ⟨Hf, ds, d, sb, l, e, q⟩ := h
  unfold lenO at e
  split at e
  · rename_i c ns vs
    split at e
    · rename_i i hi
      split at e
      · rename_i hb
        cases e
        cases hlk : L.lookup c with
        | none => rw [hlk] at hi; cases hi
        | some g =>
          rw [hlk] at hi
          obtain ⟨C, f, cn, hs, hf, F⟩ := hL _ (lookup_mem hlk)
          obtain ⟨v, r1, rfl, iv, rfl⟩ := l
          obtain ⟨u, rfl, ru⟩ := r.one
          have iv' := iv
          obtain ⟨a, C', dx', us', ea, mC, hH, hl, l'⟩ := iv
          rw [cn.mg] at mC
          cases mC
          subst ea
          cases (show u = Value.ref a from ru)
          obtain ⟨mA, O, _⟩ := ins_get I.hok (sb _ _ hH)
          obtain ⟨od, J, _⟩ := O.look
          obtain ⟨m', hF⟩ := I.fr
          refine PySem.W.len_K hF I.ok.mod.kin J hs hf ?_
          refine wpAny_mono (dun_run (us := [.ref a]) (Q := fun v H' => v = .int i ∧ ∃ Hf', Ste [] Hf H Hf' H') F hg hr.in1 I.env0.in1 I sb (.cons iv' .nil) rfl (.cons rfl .nil) hi fun u Hf' H' st i => ⟨i, Hf', st⟩) (fun w s' z => ?_) fun _ _ z => z
          obtain ⟨z', H', I', rz, ez, Hf', st⟩ := z
          subst ez
          obtain ⟨t, rfl⟩ := (show ∃ t, w = Value.int i t from rz)
          exact ⟨⟨hb.1, by have := hb.2; omega⟩, .int i, H', I'.tok _, ⟨_, rfl⟩, q _ Hf' H' st (is_int _)⟩
      · cases e
    · cases e
  · exact oc_len pins s σ H xs us Q I r ⟨Hf, ds, d, sb, l, e, q⟩
/-! str -/
end
end DL
/-! ### more statements: unpacking, three at once, augmented, while -/
namespace DL
open PySem PySem.Spec PyProof.Rows L2
def setN : List Nat → Nat → List D → List Sl → List Sl
  | [], _, _, G => G
  | i :: is, k, c, G => setN is (k + 1) c (G.set i (.im (c.getD k .non)))
def unN (n : Nat) : D → Option (List D)
  | .tup ds => if ds.length = n then some ds else none
  | _ => none
def gsOf : List Nat → TGs
  | [] => gNil
  | i :: is => gCons (gName i) (gsOf is)
section
variable {X : Cx} {fx : Fx} {kk : Nat} {pos : Pos}
/-- plain names as targets -/
inductive Tgts (X : Cx) : List Expr → List Nat → Prop
  | nil : Tgts X [] []
  | cons {n : Str} {p : Pos} {es : List Expr} {is : List Nat} (i : Nat) (r : Tgts X es is) (hi : X.N[i]? = some n := by rfl) (hx : Loc X.env.scope n := by first | exact Or.inl rfl | exact Or.inr rfl) (hf : X.fn n = true ∨ X.env.scope.names.lookup n = some .local := by first | exact .inl rfl | exact .inr rfl) : Tgts X (.Name n p :: es) (i :: is)
theorem tgts_pgs (nd : X.N.Nodup) {es : List Expr} {is : List Nat} (h : Tgts X es is) : PGs X es (gsOf is) := by
  induction h with
  | nil => exact pgs_nil
  | cons i r hi hx hf ih => exact pgs_cons (pg_name nd hi hx hf) ih
theorem gs_read {Hf H : Hp} {s : S} {Q : L2.St → Hp → Prop} : ∀ (is : List Nat) (k : Nat) (c ds : List D) (vs : List V) {σ : L2.St} {G : List Sl}, StS X.K X.mg fx Hf H σ G s → IsL X.K X.mg Hf ds vs → c.drop k = ds → ds.length = is.length →
    (∀ σ', (∀ j, j ∉ is → σ'[j]? = σ[j]?) → σ'.length = σ.length → StS X.K X.mg fx Hf H σ' (setN is k c G) s → Q σ' H) → gsOf is vs σ H Q
  | [], k, c, ds, vs, σ, G, st, l, e, hl, q => by
    cases ds with
    | nil => cases l; exact ⟨rfl, q σ (fun _ _ => rfl) rfl st⟩
    | cons d ds => simp at hl
  | i :: is, k, c, ds, vs, σ, G, st, l, e, hl, q => by
    cases ds with
    | nil => simp at hl
    | cons d ds =>
      obtain ⟨v, r, rfl, iv, l'⟩ := l
      have hk : c.getD k .non = d := by
        have : c[k]? = some d := by
          have := congrArg (fun z => z[0]?) e
          simpa using this
        simp [List.getD, this]
      refine ⟨v, r, rfl, ?_⟩
      refine gs_read is (k + 1) c ds r (st.set (i := i) iv) l' ?_ (by simpa using hl) fun σ' h1 h2 st' => q σ' (fun j hj => ?_) (by simpa using h2) ?_
      · have := congrArg (List.drop 1) e
        simpa [List.drop_drop, Nat.add_comm] using this
      · rw [h1 j fun z => hj (List.mem_cons_of_mem _ z), List.getElem?_set_ne fun z => hj (by simp [z])]
      · show StS X.K X.mg fx Hf H σ' (setN is (k + 1) c (G.set i (.im (c.getD k .non)))) s
        rw [hk]; exact st'
theorem pgd_tupN (C : Cok X fx kk) {es : List Expr} {is : List Nat} {k : Nat} (n : Nat) (h : Tgts X es is) (hn : is.length = n := by rfl) (hl : (assignEach es X.env).length = n := by rfl) (hst : (assignEach es X.env).findIdx? (·.1) = none := by rfl) :
    PGd X fx (.Tuple es k pos) (gTup X.K n (gsOf is)) (unN n) (fun G c => setN is 0 c G) is :=
  ⟨pg_tup C.calm (tgts_pgs C.nd h) hl hst, fun {G Hf d v σ H s c Q} st r e q => by
    cases d with
    | tup ds =>
      obtain ⟨hz, a, vs, rfl, t, l⟩ := r
      have e' : (if ds.length = n then some ds else none) = some c := e
      by_cases hd : ds.length = n
      · rw [if_pos hd] at e'
        cases e'
        exact ⟨a, vs, rfl, st.top.sqt t, l.len.symm.trans hd, gs_read is 0 c c vs st l rfl (hd.trans hn.symm) q⟩
      · rw [if_neg hd] at e'; cases e'
    | _ => cases e⟩
end
section
variable {X : Cx} {fx : Fx} {m : Type → Type} [Mo m] {G : List Sl} {α β γ : Type} {kk : Nat} {e : Expr} {rest : List Stmt} {ex : α → List Sl} {exb : β → List Sl} {pos : Pos} {x : m D}
/-- a, b, .. = e -/
theorem dss_unp {tg : Expr} {g : TG} {u : D → Option γ} {st : List Sl → γ → List Sl} {is : List Nat} {k : γ → m (Fl α β)} (hg : PGd X fx tg g u st is) (he : PE X e (tE X.K X.mg fx G x)) (hr : ∀ c, PSs X rest (tS X.K X.mg fx (st G c) ex exb (k c)))
    (hs : swapsWithSole [tg] e pos.line X.env = pure false := by rfl) (hw : swappedStores [tg] e X.env = pure none := by rfl) (h1 : (assignEach [tg] X.env).map (·.2) = [assign tg X.env] := by rfl)
    (hgx : GxOk fx G := by first | exact True.intro | repeat' (first | exact True.intro | exact Or.inl rfl | exact Or.inr rfl | refine And.intro ?_ ?_)) :
    PSs X (.Assign [tg] e pos :: rest) (tS X.K X.mg fx G ex exb (do let d ← x; let c ← DL.ask (u d); k c)) := pssI (pss_cons (ps_asg he hg.1 hs hw h1) (pss_ex hr)) fun De σ H ⟨Hf, s, h⟩ =>
  ((h.bind hgx).mono fun v H1 ⟨d, Hf1, s1, sb, r, h1⟩ => by
    have w1 := Mo.wp_lift (Mo.wp_bind h1.2)
    cases hu : u d with
    | none => rw [hu] at w1; exact w1.elim
    | some c =>
      rw [hu] at w1
      exact hg.2 h1.1 r hu fun σ' _ _ st' => ⟨c, Hf1, s1, st', w1⟩).to
/-- a, b, c = x, y, z -/
theorem dss_par3 {a b c : Expr} {n1 n2 n3 : Str} {px py pz pt pt2 : Pos} {kt k2 : _} {x y z : m D} {k : D → D → D → m (Fl α β)} (C : Cok X fx kk) (i j l : Nat) (ha : PE X a (tE X.K X.mg fx G x)) (hb : PE X b (tE X.K X.mg fx G y)) (hc : PE X c (tE X.K X.mg fx G z)) (hr : ∀ d e f, PSs X rest (tS X.K X.mg fx (((G.set i (.im d)).set j (.im e)).set l (.im f)) ex exb (k d e f)))
    (hij : i ≠ j := by decide) (hil : i ≠ l := by decide) (hjl : j ≠ l := by decide) (hi : X.N[i]? = some n1 := by rfl) (hj : X.N[j]? = some n2 := by rfl) (hl : X.N[l]? = some n3 := by rfl) (hx : X.env.scope.names.lookup n1 = some .local := by rfl) (hy : X.env.scope.names.lookup n2 = some .local := by rfl) (hz : X.env.scope.names.lookup n3 = some .local := by rfl)
    (hw : swappedStores [.Tuple [.Name n1 px, .Name n2 py, .Name n3 pz] kt pt] (.Tuple [a, b, c] k2 pt2) X.env = pure (some [n1, n2, n3]) := by rfl)
    (hs : swapsWithSole [.Tuple [.Name n1 px, .Name n2 py, .Name n3 pz] kt pt] (.Tuple [a, b, c] k2 pt2) pos.line X.env = pure false := by rfl)
    (hsa : starEach [a, b, c] X.env = (false, eval a X.env) :: starEach [b, c] X.env := by rfl) (hsb : starEach [b, c] X.env = (false, eval b X.env) :: starEach [c] X.env := by rfl) (hsc : starEach [c] X.env = (false, eval c X.env) :: starEach [] X.env := by rfl) (hg : GxOk fx G := by first | exact True.intro | repeat' (first | exact True.intro | exact Or.inl rfl | exact Or.inr rfl | refine And.intro ?_ ?_)) :
    PSs X (.Assign [.Tuple [.Name n1 px, .Name n2 py, .Name n3 pz] kt pt] (.Tuple [a, b, c] k2 pt2) pos :: rest) (tS X.K X.mg fx G ex exb (do let d ← x; let e ← y; let f ← z; k d e f)) :=
  pssI (pss_cons (ps_par3 C.calm C.nd hi hj hl hij hil hjl hx hy hz (pa_cons ha (pa_cons hb (pa_cons hc pa_nil hsc) hsb) hsa) hw hs) (pss_ex (ι := D × D × D) fun r => hr r.1 r.2.1 r.2.2)) fun De σ H ⟨Hf, s, h⟩ =>
    ((h.bind hg).mono fun v H1 ⟨d, Hf1, s1, sb, r, h1⟩ => ((h1.bind hg).mono fun v2 H2 ⟨e, Hf2, s2, sb2, r2, h2⟩ => ((h2.bind hg).mono fun v3 H3 ⟨f, Hf3, s3, sb3, r3, h3⟩ =>
      ⟨v, v2, v3, rfl, (d, e, f), Hf3, s3, ((h3.1.set ((r.mono sb2).mono sb3)).set (r2.mono sb3)).set r3, h3.2⟩).to).to).to
end
section
variable {X : Cx} {fx : Fx} {m : Type → Type} [Mo m] {G : List Sl} {α β : Type} {ex : α → List Sl} {exb : β → List Sl} {sts : List Stmt}
/-- a part that is not reached -/
theorem dss_stuck : PSs X sts (tS X.K X.mg fx G ex exb (Mo.lift R.stuck : m (Fl α β))) := pssI pss_never fun D σ H ⟨Hf, s, h⟩ => Mo.wp_lift h.2
end
end DL
/-! ### dicts: displays with text keys, d[k] -/
namespace DL
open PySem PySem.Spec PyProof.Rows L2
def eqK : D → D → Bool
  | .str a, .str b => decide (a = b)
  | .int a, .int b => decide (a = b)
  | _, _ => false
def lookK : List D → List D → D → Option D
  | k :: ks, d :: ds, x => if eqK k x = true then some d else lookK ks ds x
  | _, _, _ => none
def keyOk : D → Bool
  | .str _ => true
  | .int _ => true
  | _ => false
def dgetD (d k : D) : Option D := match d with
  | .dic ks ds => if keyOk k = true then lookK ks ds k else none
  | _ => none
def dicK (ls : List (List Nat)) (ds : List D) : Option D := if ls.Nodup ∧ ls.length = ds.length ∧ ls.length ≤ 15 then some (.dic (ls.map .str) ds) else none
section
variable {K : PySem.W.Frag} {mg : Str → Option Value}
theorem eqK_key {H : Hp} {k x : D} {kk : Key} {v : V} (hk : Is K mg H k (kV kk)) (hx : Is K mg H x v) (ho : keyOk x = true) : ∃ kx, v = kV kx ∧ (eqK k x = true ↔ kk = kx) := by
  cases x with
  | str b =>
    obtain ⟨rfl, _⟩ := hx
    refine ⟨.inr ⟨b.toArray⟩, rfl, ?_⟩
    cases k with
    | str a =>
      obtain ⟨e, _⟩ := hk
      cases kk with
      | inl i => cases e
      | inr s =>
        have e' : s = ⟨a.toArray⟩ := by injection e
        subst e'
        show decide (a = b) = true ↔ _
        constructor
        · intro h; rw [of_decide_eq_true h]
        · intro h
          refine decide_eq_true ?_
          have := Sum.inr.inj h
          have := congrArg (fun z : Str => z.cps.toList) this
          simpa using this
    | int a =>
      have e : kV kk = .int a := hk
      cases kk with
      | inl i => simp [eqK]
      | inr s => cases e
    | non => cases kk <;> cases (show kV _ = V.non from hk)
    | bl b => cases kk <;> cases (show kV _ = V.bl b from hk)
    | tup _ => obtain ⟨_, a, vs, e, _⟩ := hk; cases kk <;> cases e
    | lst _ => obtain ⟨_, a, vs, e, _⟩ := hk; cases kk <;> cases e
    | dic _ _ => obtain ⟨a, vs, e, _⟩ := hk; cases kk <;> cases e
    | ins _ _ _ => obtain ⟨a, _, _, vs, e, _⟩ := hk; cases kk <;> cases e
    | scr _ => obtain ⟨_, a, e, _⟩ := hk; cases kk <;> cases e
    | xc _ _ _ _ => obtain ⟨e, _⟩ := hk; cases kk <;> cases e
  | int b =>
    have ev : v = .int b := hx
    subst ev
    refine ⟨.inl b, rfl, ?_⟩
    cases k with
    | str a =>
      obtain ⟨e, _⟩ := hk
      cases kk with
      | inl i => cases e
      | inr s => simp [eqK]
    | int a =>
      have e : kV kk = .int a := hk
      cases kk with
      | inl i' =>
        cases e
        simp [eqK]
      | inr s => cases e
    | non => cases kk <;> cases (show kV _ = V.non from hk)
    | bl b => cases kk <;> cases (show kV _ = V.bl b from hk)
    | tup _ => obtain ⟨_, a, vs, e, _⟩ := hk; cases kk <;> cases e
    | lst _ => obtain ⟨_, a, vs, e, _⟩ := hk; cases kk <;> cases e
    | dic _ _ => obtain ⟨a, vs, e, _⟩ := hk; cases kk <;> cases e
    | ins _ _ _ => obtain ⟨a, _, _, vs, e, _⟩ := hk; cases kk <;> cases e
    | scr _ => obtain ⟨_, a, e, _⟩ := hk; cases kk <;> cases e
    | xc _ _ _ _ => obtain ⟨e, _⟩ := hk; cases kk <;> cases e
  | _ => cases ho
theorem lookK_val {H : Hp} {x : D} {v : V} {kx : Key} (hx : Is K mg H x v) (ho : keyOk x = true) (ev : v = kV kx) : ∀ {ks ds : List D} {kvs : List (Key × V)}, IsL K mg H ks (kvs.map fun p => kV p.1) → IsL K mg H ds (kvs.map fun p => p.2) →
    (∀ d, lookK ks ds x = some d → ∃ u, valV kvs kx = some u ∧ Is K mg H d u) ∧ (ks.length = ds.length → lookK ks ds x = none → valV kvs kx = none)
  | [], ds, kvs, hk, hd => by
    cases kvs with
    | nil =>
      refine ⟨fun d e => ?_, fun _ _ => rfl⟩
      cases ds <;> cases e
    | cons p r => cases hk
  | k :: ks, ds, [], hk, hd => by obtain ⟨_, _, e, _⟩ := hk; cases e
  | k :: ks, [], p :: r, hk, hd => by cases hd
  | k :: ks, d :: ds, p :: r, hk, hd => by
    obtain ⟨v1, r1, e1, i1, l1⟩ := hk
    obtain ⟨v2, r2, e2, i2, l2⟩ := hd
    injection e1 with e11 e12
    injection e2 with e21 e22
    subst e11 e12 e21 e22
    obtain ⟨kx', ev', h⟩ := eqK_key i1 hx ho
    have ek : kx' = kx := by
      rw [ev] at ev'
      cases kx <;> cases kx' <;> cases ev' <;> rfl
    subst ek
    obtain ⟨h1, h2⟩ := lookK_val hx ho ev l1 l2
    by_cases c : eqK k x = true
    · have hp := h.mp c
      refine ⟨fun d' e => ?_, fun _ e => ?_⟩
      · have : lookK (k :: ks) (d :: ds) x = some d := if_pos c
        rw [this] at e
        cases e
        exact ⟨_, valV_pos hp, i2⟩
      · have : lookK (k :: ks) (d :: ds) x = some d := if_pos c
        rw [this] at e
        cases e
    · have hp : ¬ p.1 = kx' := fun z => c (h.mpr z)
      have e0 : lookK (k :: ks) (d :: ds) x = lookK ks ds x := if_neg c
      rw [e0, valV_neg hp]
      exact ⟨h1, fun hl e => h2 (by simpa using hl) e⟩
theorem keys_merge : ∀ (more kvs : List (Key × V)), ((kvs ++ more).map (·.1)).Nodup → mergeK kvs more = kvs ++ more
  | [], kvs, _ => by simp [mergeK]
  | p :: r, kvs, h => by
    have hn : (kvs.any fun kv => decide (kv.1 = p.1)) = false := by
      rw [List.any_eq_false]
      intro q hq e
      have e' : q.1 = p.1 := of_decide_eq_true e
      rw [List.map_append, List.nodup_append] at h
      exact h.2.2 q.1 (List.mem_map_of_mem hq) p.1 (by simp) e'
    have e1 : putK kvs p.1 p.2 = kvs ++ [p] := by
      unfold putK
      rw [hn]
      rfl
    show mergeK (putK kvs p.1 p.2) r = _
    rw [e1, keys_merge r (kvs ++ [p]) (by simpa using h)]
    simp
end
section
variable {X : Cx} {fx : Fx} {m : Type → Type} [Mo m] {G : List Sl} {pos : Pos}
/-- the pairs of a display whose keys are written texts -/
inductive KVs (X : Cx) (fx : Fx) (m : Type → Type) [Mo m] (G : List Sl) : List (Option Expr) → List Expr → List (List Nat) → m (List D) → List (TE × TE) → Prop
  | nil : KVs X fx m G [] [] [] (pure []) []
  | cons {t : Str} {j : Nat} {p : Pos} {ks : List (Option Expr)} {v : Expr} {vs : List Expr} {ls : List (List Nat)} {x : m D} {ys : m (List D)} {trs : List (TE × TE)} (l : List Nat) (hv : PE X v (tE X.K X.mg fx G x)) (r : KVs X fx m G ks vs ls ys trs) (ht : t = ⟨l.toArray⟩ := by first | rfl | decide +kernel) (hl : l.length ≤ 1000 := by decide) :
      KVs X fx m G (some (.Constant (.str t) j p) :: ks) (v :: vs) (l :: ls) (do let d ← x; let ds ← ys; pure (d :: ds)) ((fun σ H Q => Q (.str ⟨l.toArray⟩) H, tE X.K X.mg fx G x) :: trs)
theorem KVs.pps {ks : List (Option Expr)} {vs : List Expr} {ls : List (List Nat)} {ys : m (List D)} {trs : List (TE × TE)} (h : KVs X fx m G ks vs ls ys trs) : PPs X pos ks vs trs := by
  induction h with
  | nil => exact pps_nil
  | cons l hv r ht hl ih =>
    subst ht
    exact pps_cons pe_str hv ih
theorem KVs.some {ks : List (Option Expr)} {vs : List Expr} {ls : List (List Nat)} {ys : m (List D)} {trs : List (TE × TE)} (h : KVs X fx m G ks vs ls ys trs) : ks.all (·.isSome) = true ∧ ks.length = vs.length ∧ ks.length = ls.length := by
  induction h with
  | nil => exact ⟨rfl, rfl, rfl⟩
  | cons l hv r ht hl ih => exact ⟨by simp [ih.1], by simp [ih.2.1], by simp [ih.2.2]⟩
theorem KVs.small {ks : List (Option Expr)} {vs : List Expr} {ls : List (List Nat)} {ys : m (List D)} {trs : List (TE × TE)} (h : KVs X fx m G ks vs ls ys trs) : ∀ l ∈ ls, l.length ≤ 1000 := by
  induction h with
  | nil => intro l h; cases h
  | cons l hv r ht hl ih =>
    intro z hz
    rcases List.mem_cons.mp hz with rfl | hz
    · exact hl
    · exact ih z hz
theorem KVs.read {ks : List (Option Expr)} {vs : List Expr} {ls : List (List Nat)} {ys : m (List D)} {trs : List (TE × TE)} (h : KVs X fx m G ks vs ls ys trs) {Hf : Hp} {s : S} {σ : L2.St} {H : Hp} {Q : List V → Hp → Prop} {P : List (V × V) → Hp → Prop} (q : tX X.K X.mg fx G (fun H d v => IsL X.K X.mg H d v) ys Hf s σ H Q)
    (k : ∀ us H1, us.length = ls.length → Q us H1 → P ((ls.zip us).map fun p => (V.str ⟨p.1.toArray⟩, p.2)) H1) : tPairs trs σ H P := by
  induction h generalizing Hf s H Q P with
  | nil => exact k [] H rfl (q.pure rfl)
  | cons l hv r ht hl ih =>
    show tE X.K X.mg fx G _ σ H _
    refine (q.bind.mono fun v1 H1 ⟨d1, Hf1, s1, sb1, r1, h1⟩ => ?_).to
    exact ih (h1.bind.mono fun us H2 ⟨ds, Hf2, s2, sb2, r2, h2⟩ => h2.pure (IsL.cons (r1.mono sb2) r2)) fun us H2 hl' q2 => k (v1 :: us) H2 (by simp [hl']) q2
theorem de_disp {ks : List (Option Expr)} {vs : List Expr} {ls : List (List Nat)} {ys : m (List D)} {trs : List (TE × TE)} (h : KVs X fx m G ks vs ls ys trs) (h0 : ks ≠ [] := by intro z; cases z) (h15 : ks.length ≤ 15 := by decide) :
    PE X (.Dict ks vs pos) (tE X.K X.mg fx G (do let ds ← ys; DL.ask (dicK ls ds))) := peI (pe_disp h.pps h.some.1 h.some.2.1 h0 h15) fun σ H Q ⟨Hf, s, q⟩ p hp => by
  have st0 : Ste fx.bag Hf H Hf (L2.upd H p (.dK [])) := .new' q.1.top hp
  have np := q.1.new0 hp
  have q1 : tX X.K X.mg fx G (fun H d v => IsL X.K X.mg H d v) ys Hf s σ (L2.upd H p (.dK [])) (fun us H1 => ∃ ds Hf1 s1, Ste fx.bag Hf (L2.upd H p (.dK [])) Hf1 H1 ∧ BagAt fx.bag H1 s1 ∧ IsL X.K X.mg Hf1 ds us ∧
      Mo.wp (DL.ask (dicK ls ds) : m D) s1 (fun a s' => ∀ b Hf' H', Ste fx.bag Hf H Hf' H' → BagAt fx.bag H' s' → Is X.K X.mg Hf' a b → Q b H') (EX X.K X.mg fx G σ)) :=
    ⟨q.1.step st0 (q.1.bag.upd np.2.1), Mo.wp_mono (Mo.wp_bind q.2) (fun ds s1 w us Hf1 H1 e bg r => ⟨ds, Hf1, s1, e, bg, r, w⟩) fun e s' k => k⟩
  refine h.read q1 fun us H1 hus ⟨ds, Hf1, s1, st1, bg1, l1, w⟩ => ?_
  have w1 := Mo.wp_lift w
  have hfp : Hf p = none := np.2.2
  have hp1 : H1 p = some (.dK []) := st1.keep p _ upd_same np.2.1
  have hf1 : Hf1 p = none := st1.stayNone hfp (by rw [upd_same]; simp)
  by_cases hc : ls.Nodup ∧ ls.length = ds.length ∧ ls.length ≤ 15
  · have e1 : dicK ls ds = some (.dic (ls.map .str) ds) := if_pos hc
    rw [e1] at w1
    have key : ∀ (ls : List (List Nat)) (us : List V), us.length = ls.length → (∀ l ∈ ls, l.length ≤ 1000) → ls.map (fun l => V.str ⟨l.toArray⟩) = ((ls.zip us).map fun p => ((Sum.inr ⟨p.1.toArray⟩, p.2) : Key × V)).map (fun q => kV q.1) ∧ us = ((ls.zip us).map fun p => ((Sum.inr ⟨p.1.toArray⟩, p.2) : Key × V)).map (fun q => q.2) ∧
        ((ls.zip us).map fun p => ((Sum.inr ⟨p.1.toArray⟩, p.2) : Key × V)).map (·.1) = ls.map fun l => Sum.inr ⟨l.toArray⟩ := by
      intro ls
      induction ls with
      | nil => intro us h _; cases us with
        | nil => exact ⟨rfl, rfl, rfl⟩
        | cons _ _ => simp at h
      | cons l ls ih => intro us h hl; cases us with
        | nil => simp at h
        | cons u us =>
          obtain ⟨a, b, c⟩ := ih us (by simpa using h) fun z hz => hl z (List.mem_cons_of_mem _ hz)
          refine ⟨?_, ?_, ?_⟩
          · rw [List.map_cons, a]; rfl
          · simp only [List.zip_cons_cons, List.map_cons]; rw [← b]
          · simp only [List.zip_cons_cons, List.map_cons]; rw [c]
    obtain ⟨k1, k2, k3⟩ := key ls us hus h.small
    refine ⟨hp1, (ls.zip us).map (fun p => ((Sum.inr ⟨p.1.toArray⟩, p.2) : Key × V)), by rw [List.map_map]; rfl, by simp [hus]; exact hc.2.2, ?_⟩
    have nd : (((ls.zip us).map fun p => ((Sum.inr ⟨p.1.toArray⟩, p.2) : Key × V)).map (·.1)).Nodup := by
      rw [k3]
      refine List.pairwise_map.mpr (hc.1.imp fun {a b} hab e => hab ?_)
      have := congrArg (fun z : Str => z.cps.toList) (Sum.inr.inj e)
      simpa using this
    rw [keys_merge _ [] (by simpa using nd), List.nil_append]
    have txs : ∀ ls : List (List Nat), (∀ l ∈ ls, l.length ≤ 1000) → ∀ H, IsL X.K X.mg H (ls.map .str) (ls.map fun l => V.str ⟨l.toArray⟩) := by
      intro ls
      induction ls with
      | nil => intro _ H; rfl
      | cons l ls ih => intro hl H; exact ⟨_, _, rfl, ⟨rfl, Nat.le_of_lt (small1000 (hl l (.head _)))⟩, ih (fun z hz => hl z (.tail _ hz)) H⟩
    have sb : Sub Hf1 (L2.upd Hf1 p (.dK ((ls.zip us).map fun p => ((Sum.inr ⟨p.1.toArray⟩, p.2) : Key × V)))) := fun a o q => by
      rw [upd_ne (fun z => by rw [z, hf1] at q; cases q)]; exact q
    refine w1 (.ref p) (L2.upd Hf1 p (.dK ((ls.zip us).map fun p => ((Sum.inr ⟨p.1.toArray⟩, p.2) : Key × V)))) _ ⟨st1.sub.trans sb, fun a o q => ?_, fun a o q n => ?_, fun a q => ?_, fun a o q => ?_⟩ (bg1.upd np.2.1) ⟨p, _, rfl, .inl upd_same, ?_, ?_⟩
    · by_cases c : a = p
      · subst c; rw [upd_same] at q ⊢; exact q
      · rw [upd_ne c] at q ⊢; exact st1.top a o q
    · have ne := ne_of_none q hp
      rw [upd_ne ne]
      exact st1.keep a o (by rw [upd_ne ne]; exact q) n
    · by_cases c : a = p
      · rw [c, upd_same]; simp
      · rw [upd_ne c]; exact st1.dom a (by rw [upd_ne c]; exact q)
    · by_cases c : a = p
      · subst c; exact .inr hp
      · rw [upd_ne c] at q
        rcases st1.fresh a o q with z | z
        · exact .inl z
        · rw [upd_ne c] at z; exact .inr z
    · rw [← k1]; exact txs ls h.small _
    · rw [← k2]; exact l1.mono sb
  · have e1 : dicK ls ds = none := if_neg hc
    rw [e1] at w1
    exact w1.elim
/-- d[k] -/
theorem de_dget {a b : Expr} {x y : m D} {kk : Nat} (C : Cok X fx kk) (ha : PE X a (tE X.K X.mg fx G x)) (hb : PE X b (tE X.K X.mg fx G y)) (hs : NoSl b := by intro _ _; rfl) : PE X (.Subscript a b pos) (tE X.K X.mg fx G (do let u ← x; let v ← y; DL.ask (dgetD u v))) := peI (pe_dget (hu_of C.rm) ha hb hs) fun σ H Q ⟨Hf, s, h⟩ =>
  (h.bind.mono fun v1 H1 ⟨d1, Hf1, s1, sb1, r1, h1⟩ => (h1.bind.mono fun v2 H2 ⟨d2, Hf2, s2, sb2, r2, h2⟩ => by
    obtain ⟨d, e, q⟩ := h2.ask
    cases d1 with
    | dic ks ds =>
      have e' : (if keyOk d2 = true then lookK ks ds d2 else none) = some d := e
      by_cases ho : keyOk d2 = true
      · rw [if_pos ho] at e'
        obtain ⟨p, kvs, ev, hp, l1, l2⟩ := r1.mono sb2
        have hkx : ∃ kx, v2 = kV kx := by
          cases d2 with
          | str b => exact ⟨.inr _, r2.1⟩
          | int i => exact ⟨.inl i, r2⟩
          | _ => cases ho
        obtain ⟨kx, ek⟩ := hkx
        obtain ⟨u, hu, iu⟩ := (lookK_val r2 ho ek l1 l2).1 d e'
        exact ⟨p, u, ev, .inl ⟨kvs, kx, h2.1.top.rd hp, ek, hu.symm⟩, q u Hf2 H2 (.refl h2.1.top) iu⟩
      · rw [if_neg ho] at e'; cases e'
    | _ => cases e).to).to
end
end DL
/-! ### defs with a star; star calls -/
namespace DL
open PySem PySem.Spec PyProof.Rows L2 StX
def spStar (n : Nat) (sp : Sp) : Sp := fun vs H Q E => ∃ ws rest, vs = ws ++ rest ∧ ws.length = n ∧ rest.length ≤ sizeLine ∧ ∀ p, H p = none → sp (ws ++ [V.ref p]) (upd H p (.tup rest)) Q E
section
variable {P : Program} {w : World} {K : PySem.W.Frag} {mg : Str → Option Value} {base : Heap}
section
variable {P : Program} {w : World} {K : PySem.W.Frag} {mg : Str → Option Value} {base : Heap}
theorem fnP_star {x qual : Str} {st : Stmt} {f : Addr} {fd : FuncData} {N ps : List Str} {pv : Str} {k : Nat} {sp : Sp} (F : Fun K x qual st f fd) (S : FnScope N (ps ++ [pv]) (defScope st))
    (hb : ∀ us rest : List Value, us.length = ps.length → bindArgs fd ⟨us ++ rest, []⟩ = (newTuple rest >>= fun t => pure (ps.zip us ++ [(pv, t)])))
    (hbody : ∀ (cdv : Value) (A : Around) (outer : List Env) (s : Shared) (H : Hp) (vs : List V) (Q : VK) (E : XK), A.guards = some [] → Room k (A.deeper (envOfC qual (defScope st) s.heap.objs.size f cdv)) → sp vs H Q E →
      ∃ t, PSs (cxOf (L2.CX P w) P w K mg base N qual (defScope st) f cdv A outer s H E) (defBody st) t ∧ t { nx := fun _ H' => Q .non H', rt := Q } (start N vs) H) :
    FnP P w K mg base (k + 1) f [] (spStar ps.length sp) := fun A outer s H us kw _ Q E gd room e0 noKw rel ⟨ws, rest, ev, len, long, want⟩ => by
  subst ev
  obtain rfl := List.length_eq_zero_iff.mp noKw
  rw [List.append_nil] at rel
  obtain ⟨u1, u2, rfl, r1, r2⟩ := vals_split rel
  have n1 : u1.length = ps.length := r1.length.symm.trans len
  obtain ⟨oc, od, kV, doc, pm, an, cdv, ct, osl, rfl, lk, hcd⟩ := F.ex
  have free : H s.heap.objs.size = Option.none := e0.hok.fresh (Nat.le_refl _)
  -- the values behind the star lie in a tuple of their own
  let o : Obj := { cls := .type "tuple", data := .seq u2.toArray }
  have lies : ObjOk P w (upd H s.heap.objs.size (.tup rest)) (s.heap.push o) s.heap.objs.size (.tup rest) := ⟨long, u2, r2, o, Heap.get?_push_size _ rfl, rfl, 0, rfl⟩
  have un := un_laid (fs := frs outer) (s := s) (o := o) (u := .tup rest) free
  have names : ps.zip u1 ++ [(pv, Value.ref s.heap.objs.size)] = (ps ++ [pv]).zip (u1 ++ [.ref s.heap.objs.size]) := by rw [List.zip_append n1.symm]; rfl
  refine run_bnd lk hcd S room e0 (G := fun xs H2 => ∃ p, H p = Option.none ∧ xs = ws ++ [V.ref p] ∧ H2 = upd H p (.tup rest)) (fun A' Ex Q' go => ?_) fun s2 H2 xs ⟨p, new, ex, eH⟩ room' => ?_
  · have called := hb u1 u2 n1
    show wpAny _ _ (bindArgs _ ⟨u1 ++ u2, []⟩) _ _ _
    rw [called]
    refine wpAny_bind (wpAny_newTuple (wpAny_pure (names ▸ go _ _ (ws ++ [V.ref s.heap.objs.size]) _ (env0_laid e0 lies) un rfl (fun e s' => cxUp outer s H _ _ E e s' un (fun b o q => Heap.get?_push_of_some _ q) rfl) (r1.append (.cons rfl .nil)) ?_ ⟨_, free, rfl, rfl⟩)) (r2.length ▸ long))
    simp only [List.length_append, len, List.length_singleton]
  · subst ex eH
    exact hbody cdv A outer s2 _ _ Q E gd room' (want p new)
end
end
section
variable {K : PySem.W.Frag} {mg : Str → Option Value}
def starD {α : Type} (n : Nat) (g : List D → R α) (ds : List D) : R α := if n ≤ ds.length ∧ ds.length ≤ 1000000 then g (ds.take n ++ [.tup (ds.drop n)]) else .stuck
/-- an __init__ with a star (n: the parameters behind self, ahead of the star) -/
theorem spI_star {ns : List Str} {n : Nat} {g : List D → R (List D)} {vs : List V} {H : Hp} {Q : VK} {E : XK} (h : spI K mg ns (fun _ => True) (starD n g) vs H Q E) : spStar (n + 1) (spI K mg ns (fun l => l = n + 2) g) vs H Q E := by
  obtain ⟨_, x, C, dx, rest, Hf, ds, rfl, sb, hf, hx, c, na, l, q⟩ := h
  have hlen : n ≤ ds.length ∧ ds.length ≤ 1000000 := by
    by_cases z : n ≤ ds.length ∧ ds.length ≤ 1000000
    · exact z
    · have : starD n g ds = .stuck := if_neg z
      rw [this] at q; exact q.elim
  have e : starD n g ds = g (ds.take n ++ [.tup (ds.drop n)]) := if_pos hlen
  rw [e] at q
  have hl := l.len
  have hsz : sizeLine = 16777216 := sizeLine_eq
  refine ⟨.ref x :: rest.take n, rest.drop n, by simp, by simp; omega, by simp; omega, fun p hp => ?_⟩
  have hxp : x ≠ p := fun z => by rw [z, hp] at hx; cases hx
  have hfp : Hf p = none := sb.none hp
  have st0 : Ste [x] Hf H (upd Hf p (.tup (rest.drop n))) (upd H p (.tup (rest.drop n))) := .new sb hp
  refine ⟨by simp; omega, x, C, dx, rest.take n ++ [.ref p], upd Hf p (.tup (rest.drop n)), ds.take n ++ [.tup (ds.drop n)], by simp, st0.top, by rw [upd_ne hxp]; exact hf, by rw [upd_ne hxp]; exact hx, c, na, ?_, ?_⟩
  · refine ((l.take n).mono st0.sub).app (.cons ⟨by simp; omega, p, rest.drop n, rfl, .inl (.inl upd_same), (l.drop n).mono st0.sub⟩ .nil)
  · cases z : g (ds.take n ++ [.tup (ds.drop n)]) with
    | ok es => rw [z] at q; intro us Hf' H' st h1 h2 h3 h4; exact q us Hf' H' (st0.trans st) h1 h2 h3 h4
    | ex e => rw [z] at q; intro cls dd Hf' H' st xi; exact q cls dd Hf' H' (st0.trans st) xi
    | stuck => rw [z] at q; exact q
/-- an __init__ with a star, by its body -/
theorem fnI_star {P : Program} {w : World} {base : Heap} {x qual : Str} {st : Stmt} {f : Addr} {fd : FuncData} {N ps ns : List Str} {pv : Str} {k n : Nat} {g : List D → R (List D)} (F : Fun K x qual st f fd) (Sc : FnScope N (ps ++ [pv]) (defScope st)) (hn : ps.length = n + 1) (hN : n + 2 ≤ N.length)
    (hb0 : ∀ us rest : List Value, us.length = ps.length → bindArgs fd ⟨us ++ rest, []⟩ = (newTuple rest >>= fun t => pure (ps.zip us ++ [(pv, t)])))
    (hb : ∀ (cdv : Value) (A : Around) (outer : List Env) (s : Shared) (H Hf : Hp) (E : XK) (o : Addr) (ds : List D), Cok (cxOf (L2.CX P w) P w K mg base N qual (defScope st) f cdv A outer s H E) (fxI ns o H Hf E) k → ds.length = n + 1 →
      ∃ body : R (Fl (List D) Empty), PSs (cxOf (L2.CX P w) P w K mg base N qual (defScope st) f cdv A outer s H E) (defBody st)
        (tS (cxOf (L2.CX P w) P w K mg base N qual (defScope st) f cdv A outer s H E).K (cxOf (L2.CX P w) P w K mg base N qual (defScope st) f cdv A outer s H E).mg (fxI ns o H Hf E) (GI N ds) (exI N ns) Empty.elim body) ∧ g ds = runI body) :
    FnP P w K mg base (k + 1) f [] (spI K mg ns (fun _ => True) (starD n g)) := by
  refine FnP.imp (fnP_star (sp := spI K mg ns (fun l => l = n + 2) g) F Sc hb0 fun cdv A outer s H vs Q E gd hr h => ?_) fun vs H Q E h => by rw [hn]; exact spI_star h
  obtain ⟨hl, o, C, dx, rest, Hf, ds, rfl, sb, hf, hx, c, na, l, q⟩ := h
  have Ck : Cok (cxOf (L2.CX P w) P w K mg base N qual (defScope st) f cdv A outer s H E) (fxI ns o H Hf E) k := ⟨rfl, passes_of rfl, takes_of rfl rfl rfl rfl, hr, Sc.nd, gd⟩
  have hl' : rest.length = n + 1 := by simpa using hl
  obtain ⟨body, hp, hg⟩ := hb cdv A outer s H Hf E o ds Ck (l.len.trans hl')
  refine ⟨_, hp, Hf, ⟨0, 0, 0, [], false⟩, .initI sb hf hx c na l (by omega), ?_⟩
  rw [hg] at q
  exact runI_read hx q
end
end DL
/-! ### partition, ints of texts, f-strings, constants of classes, defs called by names -/
namespace DL
open PySem PySem.Spec PyProof.Rows L2
/-! f-strings -/
end DL
/-! ### constants of classes, static methods, keyword-only parameters with defaults -/
namespace DL
open PySem PySem.Spec PyProof.Rows L2 StX
/-! keyword-only parameters -/
end DL
namespace DL
open PySem PySem.Spec PyProof.Rows L2
def apI1 (fn : D → R (List D)) : List D → R (List D)
  | [a] => fn a
  | _ => .stuck
end DL
namespace DL
open PySem PySem.Spec PyProof.Rows L2
end DL
namespace DL
open PySem
/-- isinstance of plain data against an own class -/
def noneOfB : List (String × Bool) := [("NoneType", false), ("bool", false), ("int", false), ("str", false), ("tuple", false), ("list", false), ("dict", false)]
end DL
/-! ### a, b, c = [..], [..], 'text' -/
namespace DL
open PySem PySem.Spec PyProof.Rows L2
end DL
/-! ### an own list becomes the bag; keyword calls of defs -/
namespace DL
open PySem PySem.Spec PyProof.Rows L2 StX
/-! keyword calls of defs without defaults -/
end DL
namespace DL
open PySem PySem.Spec PyProof.Rows L2
end DL
/-! ### text.index(sign) -/
namespace DL
open PySem PySem.Spec PyProof.Rows L2
end DL
/-! ### fields as targets of an unpacking -/
namespace DL
open PySem PySem.Spec PyProof.Rows L2
end DL
namespace DL
open PySem L2
/-! ### plain laws -/
instance : LawfulMonad R := LawfulMonad.mk' (m := R) (id_map := fun x => by cases x <;> rfl) (pure_bind := fun _ _ => rfl) (bind_assoc := fun x _ _ => by cases x <;> rfl)
theorem M.ext {α : Type} {x y : M α} (h : ∀ s, x s = y s) : x = y := funext h
instance : LawfulMonad M := LawfulMonad.mk' (m := M)
  (id_map := fun x => M.ext fun s => by
    show (x s).bd (fun a s => .ok a s) = x s
    cases x s <;> rfl)
  (pure_bind := fun _ _ => rfl)
  (bind_assoc := fun x f g => M.ext fun s => by
    show ((x s).bd f).bd g = (x s).bd fun a => f a >>= g
    cases x s <;> rfl)
@[simp] theorem lift_R {α : Type} (r : R α) : (Mo.lift r : R α) = r := rfl
@[simp] theorem lift_M {α : Type} (a : α) : (Mo.lift (R.ok a) : M α) = pure a := rfl
@[simp] theorem noex_R {α : Type} (a : α) : (Mo.noex (R.ok a) : R α) = .ok a := rfl
@[simp] theorem noex_M {α : Type} (a : α) : (Mo.noex (pure a : M α) : M α) = pure a := rfl
@[simp] theorem askM {α : Type} (a : α) : (ask (some a) : M α) = pure a := rfl
@[simp] theorem mkL_R (ds : List D) : (mkL (R.ok ds) : R D) = .ok (.lst ds) := rfl
@[simp] theorem mkL_M (ds : List D) : (mkL (pure ds : M (List D)) : M D) = pure (.lst ds) := rfl
def Inv (s : S) : Prop := s.w = false ∧ 0 ≤ s.y ∧ s.y < 4294967296
def OkR {α : Type} (x : R α) (Q : α → Prop) : Prop := ∃ a, x = .ok a ∧ Q a
section
variable {α β γ : Type} {Q : β → Prop} {P : α → Prop}
theorem okr_pure {a : β} (h : Q a) : OkR (.ok a) Q := ⟨a, rfl, h⟩
theorem okr_bind {x : R α} {f : α → R β} (h : OkR x fun a => OkR (f a) Q) : OkR (x >>= f) Q := by
  obtain ⟨a, rfl, q⟩ := h
  exact q
theorem okr_mono {x : R α} {P' : α → Prop} (h : OkR x P) (w : ∀ a, P a → P' a) : OkR x P' := by
  obtain ⟨a, rfl, q⟩ := h
  exact ⟨a, rfl, w a q⟩
end
/-! defs -/
def FlQ (nr : Bool) (Q : D → Prop) : Fl Unit Empty → Prop
  | .nx _ => nr = false ∧ Q .non
  | .rt d => Q d
  | _ => False
theorem okr_runR {nr : Bool} {x : R (Fl Unit Empty)} {Q : D → Prop} (h : OkR x (FlQ nr Q)) : OkR (runR nr x) Q := by
  obtain ⟨a, rfl, q⟩ := h
  cases a with
  | nx a =>
    obtain ⟨q1, q2⟩ := q
    subst q1
    exact ⟨.non, rfl, q2⟩
  | rt d => exact ⟨d, rfl, q⟩
  | bk b => exact b.elim
  | ct b => exact b.elim
theorem runR_rt {nr : Bool} {d : D} : runR nr (.ok (.rt d)) = .ok d := rfl
/-! flow -/
section
variable {α β γ : Type}
@[simp] theorem seqR_nx {a : α} {k : α → R (Fl γ β)} : seqF (R.ok (.nx a)) k = k a := rfl
@[simp] theorem seqR_rt {d : D} {k : α → R (Fl γ β)} : seqF (R.ok (.rt d)) k = .ok (.rt d) := rfl
@[simp] theorem seqR_bk {b : β} {k : α → R (Fl γ β)} : seqF (R.ok (.bk b)) k = .ok (.bk b) := rfl
@[simp] theorem seqR_ct {b : β} {k : α → R (Fl γ β)} : seqF (R.ok (.ct b)) k = .ok (.ct b) := rfl
def SeqQ (k : α → Prop) (Q : Fl γ β → Prop) : Fl α β → Prop
  | .nx a => k a
  | .rt d => Q (.rt d)
  | .bk b => Q (.bk b)
  | .ct b => Q (.ct b)
theorem okr_seq {x : R (Fl α β)} {k : α → R (Fl γ β)} {Q : Fl γ β → Prop} (h : OkR x (SeqQ (fun a => OkR (k a) Q) Q)) : OkR (seqF x k) Q := okr_bind (okr_mono h fun f q => by
  cases f with
  | nx a => exact q
  | rt d => exact okr_pure q
  | bk b => exact okr_pure q
  | ct b => exact okr_pure q)
/-- what a turn of a loop leaves -/
def TurnQ (I : α → Prop) (Q : Fl α β → Prop) : Fl α α → Prop
  | .nx a => I a
  | .ct a => I a
  | .bk a => Q (.nx a)
  | .rt d => Q (.rt d)
theorem okr_for {u : D → Option γ} {xb : α → γ → R (Fl α α)} {Q : Fl α β → Prop} (I : Nat → α → Prop) (ds : List D) (a0 : α) (h0 : I 0 a0) (hs : ∀ i d a, ds[i]? = some d → I i a → ∃ c, u d = some c ∧ OkR (xb a c) (TurnQ (I (i + 1)) Q)) (he : ∀ a, I ds.length a → Q (.nx a)) : OkR (forF u xb ds a0) Q := by
  induction ds generalizing I a0 with
  | nil => exact okr_pure (he _ h0)
  | cons d ds ih =>
    unfold forF
    obtain ⟨c, e, h⟩ := hs 0 d a0 rfl h0
    rw [e]
    refine okr_bind (okr_pure (okr_bind (okr_mono h fun f q => ?_)))
    cases f with
    | nx a => exact ih (fun i => I (i + 1)) a q (fun i d' a' e' q' => hs (i + 1) d' a' (by simpa using e') q') (fun a q => he a (by simpa using q))
    | ct a => exact ih (fun i => I (i + 1)) a q (fun i d' a' e' q' => hs (i + 1) d' a' (by simpa using e') q') (fun a q => he a (by simpa using q))
    | bk a => exact okr_pure q
    | rt d => exact okr_pure q
end
/-! comprehensions -/
theorem lcR {γ : Type} {u : D → Option γ} {xt : γ → R Bool} {xe : γ → R D} (c : D → γ) (p : D → Bool) (f : D → D) : ∀ ds : List D, (∀ d ∈ ds, u d = some (c d)) → (∀ d ∈ ds, xt (c d) = .ok (p d)) → (∀ d ∈ ds, p d = true → xe (c d) = .ok (f d)) → lcF u xt xe ds = .ok ((ds.filter p).map f)
  | [], _, _, _ => rfl
  | d :: ds, h1, h2, h3 => by
    have ih := lcR c p f ds (fun x m => h1 x (.tail _ m)) (fun x m => h2 x (.tail _ m)) (fun x m => h3 x (.tail _ m))
    unfold lcF
    rw [h1 d (.head _)]
    simp only [ask_some, R.bind_eq, R.bd, h2 d (.head _), noex_R]
    cases q : p d with
    | false => simp only [Bool.false_eq_true, if_false, ih, List.filter_cons, q]
    | true =>
      simp only [if_true, List.filter_cons, q, List.map_cons]
      rw [h3 d (.head _) q, ih]
      rfl
inductive All2 {α β : Type} (P : α → β → Prop) : List α → List β → Prop
  | nil : All2 P [] []
  | cons {x : α} {y : β} {xs : List α} {ys : List β} (h : P x y) (t : All2 P xs ys) : All2 P (x :: xs) (y :: ys)
/-! the bag -/
/-! numbers -/
theorem mul_ii {i j : Int} (hi : i.natAbs < 2 ^ 64) (hj : j.natAbs < 2 ^ 64) : mulD (.int i) (.int j) = some (.int (i * j)) := by
  have h1 := PySem.Flt.log2_lt_of (n := i.natAbs) (k := 64) (by decide) hi
  have h2 := PySem.Flt.log2_lt_of (n := j.natAbs) (k := 64) (by decide) hj
  exact if_pos (show i.natAbs.log2 + j.natAbs.log2 < 1000000 by omega)
theorem mod_ii {i j : Int} (hj : 0 < j) : modD (.int i) (.int j) = some (.int (i % j)) := if_pos hj
theorem fdiv_ii {i j : Int} (hj : 0 < j) (h : j.natAbs < 2 ^ 64) : fdivD (.int i) (.int j) = some (.int (i / j)) := by
  have h1 := PySem.Flt.log2_lt_of (n := j.natAbs) (k := 64) (by decide) h
  exact if_pos (show 0 < j ∧ j.natAbs.log2 < 9000 from ⟨hj, by omega⟩)
@[simp] theorem add_ii {i j : Int} : addD (.int i) (.int j) = some (.int (i + j)) := rfl
@[simp] theorem sub_ii {i j : Int} : subD (.int i) (.int j) = some (.int (i - j)) := rfl
@[simp] theorem lt_ii {i j : Int} : ltD (.int i) (.int j) = some (.bl (decide (i < j))) := rfl
@[simp] theorem le_ii {i j : Int} : leD (.int i) (.int j) = some (.bl (decide (i ≤ j))) := rfl
@[simp] theorem gt_ii {i j : Int} : gtD (.int i) (.int j) = some (.bl (decide (j < i))) := rfl
@[simp] theorem ge_ii {i j : Int} : geD (.int i) (.int j) = some (.bl (decide (j ≤ i))) := rfl
@[simp] theorem eq_ii {i j : Int} : eqD (.int i) (.int j) = some (.bl (decide (i = j))) := rfl
@[simp] theorem ne_ii {i j : Int} : neD (.int i) (.int j) = some (.bl (!decide (i = j))) := rfl
@[simp] theorem eq_ss {a b : List Nat} : eqD (.str a) (.str b) = some (.bl (decide (a = b))) := rfl
@[simp] theorem ne_ss {a b : List Nat} : neD (.str a) (.str b) = some (.bl (!decide (a = b))) := rfl
@[simp] theorem bOf_bl {b : Bool} : bOf (.bl b) = some b := rfl
@[simp] theorem tru_bl {b : Bool} : truD (.bl b) = some b := rfl
@[simp] theorem tru_str {s : List Nat} : truD (.str s) = some (!s.isEmpty) := rfl
@[simp] theorem tru_lst {s : List D} : truD (.lst s) = some (!s.isEmpty) := rfl
@[simp] theorem tru_tup {s : List D} : truD (.tup s) = some (!s.isEmpty) := rfl
@[simp] theorem tru_int {i : Int} : truD (.int i) = some (i != 0) := rfl
@[simp] theorem int_int {i : Int} : intD [.int i] = some (.int i) := rfl
@[simp] theorem len_lst {s : List D} : lenD [.lst s] = some (.int s.length) := rfl
@[simp] theorem len_tup {s : List D} : lenD [.tup s] = some (.int s.length) := rfl
@[simp] theorem len_str {s : List Nat} : lenD [.str s] = some (.int s.length) := rfl
@[simp] theorem len_scr {s : List Int} : lenD [.scr s] = some (.int s.length) := rfl
@[simp] theorem it_lst {s : List D} : itD (.lst s) = some s := rfl
@[simp] theorem it_tup {s : List D} : itD (.tup s) = some s := rfl
@[simp] theorem it_str {s : List Nat} : itD (.str s) = some (chrs s) := rfl
@[simp] theorem int_of {i : Int} : intOf (.int i) = some i := rfl
@[simp] theorem str_of {i : List Nat} : strOf (.str i) = some i := rfl
theorem sz_ok {ds : List D} (h : ds.length ≤ 1000000) : szL ds = some ds := if_pos (by rw [sizeLine_eq]; omega)
theorem apd_ok {ds : List D} {d : D} (h : ds.length < 1000000) : apd ds d = some (ds ++ [d]) := if_pos (by rw [sizeLine_eq]; omega)
theorem rng1_ok {j : Int} (h0 : -4611686018427387904 ≤ j) (h : j ≤ 1000000) : rng1 [.int j] = some (rangeL 0 j.toNat) := if_pos ⟨h0, h⟩
theorem range_len {lo : Int} {n : Nat} : (rangeL lo n).length = n := by simp [rangeL]
theorem range_get {lo : Int} {n i : Nat} {d : D} (h : (rangeL lo n)[i]? = some d) : i < n ∧ d = .int (lo + i) := by
  unfold rangeL at h
  rw [List.getElem?_map] at h
  by_cases c : i < n
  · rw [List.getElem?_range c] at h
    cases h
    exact ⟨c, rfl⟩
  · rw [List.getElem?_eq_none (by simpa using c)] at h
    cases h
theorem ix_lst {ds : List D} {i : Int} (h0 : 0 ≤ i) (h : i < ds.length) : ixD (.lst ds) (.int i) = some (ds[i.toNat]'(by omega)) := by
  unfold ixD L2.atI ixN
  simp only
  rw [if_pos h0, if_pos h]
  exact List.getElem?_eq_getElem (by omega)
theorem ixN_ok {n : Nat} {i : Int} (h0 : 0 ≤ i) (h : i < n) : ixN n i = some i.toNat := by
  unfold ixN
  rw [if_pos h0, if_pos h]
end DL
namespace FN
open DL
def c_CHARACTERS : D := (.str [48, 49, 50, 51, 52, 53, 54, 55, 56, 57, 97, 98, 99, 100, 101, 102, 103, 104, 105, 106, 107, 108, 109, 110, 111, 112, 113, 114, 115, 116, 117, 118, 119, 120, 121, 122])
def c_LONGEST_LABEL : D := (.int (20))
def c_MOST_LABELS : D := (.int (20))
def b_is_label_344b (a0 : D) : R (Fl Unit Empty) := (do let t16 ← (DL.orM (DL.notM (do let x2 ← (do let x1 ← (pure a0); DL.ask (isiD "str" x1)); DL.ask (truD x2))) (DL.notM (do let x6 ← (chainM leD leD (pure (.int 1)) (do let r5 ← (do let x3 ← (pure a0); let r4 ← pure []; pure (x3 :: r4)); DL.ask (lenD r5)) (pure c_LONGEST_LABEL)); DL.ask (bOf x6)))); seqF (if t16 = true then (do let v8 ← (pure (.bl false)); pure (.rt v8)) else (pure (.nx ()))) fun (a7 : Unit) => (do let v15 ← (notV (mkL (do let r14 ← (do let r9 ← (pure a0); DL.ask (itD r9)); lcF (fun d => some d) (fun (c11 : D) => (do let x12 ← (pure c11); let y13 ← (pure c_CHARACTERS); DL.ask ((notInD x12 y13).bind bOf))) (fun (c11 : D) => (pure c11)) r14))); pure (.rt v15)))
def m_is_label_344b : List D → R D := apR1 fun a0 => runR false (b_is_label_344b a0)
theorem n_is_label_344b : ∀ ds : List D, m_is_label_344b ds ≠ .stuck → ds.length = 1 := apR1_len _
def b_is_path_08e1 (a0 : D) : R (Fl Unit Empty) := (do let t19 ← (DL.orM (DL.notM (do let x2 ← (do let x1 ← (pure a0); DL.ask (isiD "tuple" x1)); DL.ask (truD x2))) (do let x6 ← (do let r5 ← (do let x3 ← (pure a0); let r4 ← pure []; pure (x3 :: r4)); DL.ask (lenD r5)); let y7 ← (pure c_MOST_LABELS); DL.ask ((gtD x6 y7).bind bOf))); seqF (if t19 = true then (do let v9 ← (pure (.bl false)); pure (.rt v9)) else (pure (.nx ()))) fun (a8 : Unit) => (do let v18 ← (notV (mkL (do let r17 ← (do let r10 ← (pure a0); DL.ask (itD r10)); lcF (fun d => some d) (fun (c12 : D) => (DL.notM (do let x16 ← (do let r15 ← (do let x13 ← (pure c12); let r14 ← pure []; pure (x13 :: r14)); Mo.lift (m_is_label_344b r15)); DL.ask (truD x16)))) (fun (c12 : D) => (pure c12)) r17))); pure (.rt v18)))
def m_is_path_08e1 : List D → R D := apR1 fun a0 => runR false (b_is_path_08e1 a0)
theorem n_is_path_08e1 : ∀ ds : List D, m_is_path_08e1 ds ≠ .stuck → ds.length = 1 := apR1_len _
def b_is_host_45ba (a0 : D) : R (Fl Unit Empty) := (do let v9 ← (andV (do let r3 ← (do let x1 ← (pure a0); let r2 ← pure []; pure (x1 :: r2)); Mo.lift (m_is_path_08e1 r3)) (do let x7 ← (do let r6 ← (do let x4 ← (pure a0); let r5 ← pure []; pure (x4 :: r5)); DL.ask (lenD r6)); let y8 ← (pure (.int 0)); DL.ask (gtD x7 y8))); pure (.rt v9))
def m_is_host_45ba : List D → R D := apR1 fun a0 => runR false (b_is_host_45ba a0)
theorem n_is_host_45ba : ∀ ds : List D, m_is_host_45ba ds ≠ .stuck → ds.length = 1 := apR1_len _
/-! ### what they do -/
/-- the thirty-six signs -/
def CH : List Nat := [48, 49, 50, 51, 52, 53, 54, 55, 56, 57, 97, 98, 99, 100, 101, 102, 103, 104, 105, 106, 107, 108, 109, 110, 111, 112, 113, 114, 115, 116, 117, 118, 119, 120, 121, 122]
/-! labels, paths, hosts -/
def isLab (n : Nat) (z : List Nat) : Bool := decide (1 ≤ z.length) && (decide (z.length ≤ n) && z.all fun c => decide (c ∈ CH))
def labD : D → Bool
  | .str z => isLab 20 z
  | _ => false
theorem labD_str {z : List Nat} : labD (.str z) = isLab 20 z := rfl
def isStr : D → Bool
  | .str _ => true
  | _ => false
def isTup : D → Bool
  | .tup _ => true
  | _ => false
theorem isi_str {d : D} {T : String} (h : tyD d = some T) : isiD "str" d = some (.bl (isStr d)) := by
  cases d with
  | non => exact congrArg (Option.map D.bl) (show L2.kitB "NoneType" "str" = some false by decide +kernel)
  | bl _ => exact congrArg (Option.map D.bl) (show L2.kitB "bool" "str" = some false by decide +kernel)
  | int _ => exact congrArg (Option.map D.bl) (show L2.kitB "int" "str" = some false by decide +kernel)
  | str _ => exact congrArg (Option.map D.bl) (show L2.kitB "str" "str" = some true by decide +kernel)
  | tup _ => exact congrArg (Option.map D.bl) (show L2.kitB "tuple" "str" = some false by decide +kernel)
  | lst _ => exact congrArg (Option.map D.bl) (show L2.kitB "list" "str" = some false by decide +kernel)
  | scr _ => exact congrArg (Option.map D.bl) (show L2.kitB "list" "str" = some false by decide +kernel)
  | dic _ _ => exact congrArg (Option.map D.bl) (show L2.kitB "dict" "str" = some false by decide +kernel)
  | ins _ _ _ => cases h
  | xc _ _ _ _ => cases h
theorem isi_tup {d : D} {T : String} (h : tyD d = some T) : isiD "tuple" d = some (.bl (isTup d)) := by
  cases d with
  | non => exact congrArg (Option.map D.bl) (show L2.kitB "NoneType" "tuple" = some false by decide +kernel)
  | bl _ => exact congrArg (Option.map D.bl) (show L2.kitB "bool" "tuple" = some false by decide +kernel)
  | int _ => exact congrArg (Option.map D.bl) (show L2.kitB "int" "tuple" = some false by decide +kernel)
  | str _ => exact congrArg (Option.map D.bl) (show L2.kitB "str" "tuple" = some false by decide +kernel)
  | tup _ => exact congrArg (Option.map D.bl) (show L2.kitB "tuple" "tuple" = some true by decide +kernel)
  | lst _ => exact congrArg (Option.map D.bl) (show L2.kitB "list" "tuple" = some false by decide +kernel)
  | scr _ => exact congrArg (Option.map D.bl) (show L2.kitB "list" "tuple" = some false by decide +kernel)
  | dic _ _ => exact congrArg (Option.map D.bl) (show L2.kitB "dict" "tuple" = some false by decide +kernel)
  | ins _ _ _ => cases h
  | xc _ _ _ _ => cases h
theorem chrs_mem {z : List Nat} {d : D} (h : d ∈ chrs z) : ∃ c ∈ z, d = .str [c] := by
  obtain ⟨c, m, rfl⟩ := List.mem_map.mp h
  exact ⟨c, m, rfl⟩
def sgn : D → Nat
  | .str [c] => c
  | _ => 0
theorem filter_chrs (p : Nat → Bool) : ∀ z : List Nat, (chrs z).filter (fun d => p (sgn d)) = chrs (z.filter p)
  | [] => rfl
  | c :: z => by
    show ((D.str [c]) :: chrs z).filter (fun d => p (sgn d)) = _
    rw [List.filter_cons, List.filter_cons, filter_chrs p z]
    show (if p c = true then _ else _) = _
    cases p c <;> rfl
theorem filter_none {α : Type} (p : α → Bool) (z : List α) : (z.filter fun c => !p c).isEmpty = z.all p := by
  induction z with
  | nil => rfl
  | cons c z ih =>
    rw [List.filter_cons, List.all_cons, ← ih]
    cases p c <;> rfl
theorem chrs_empty (z : List Nat) : (chrs z).isEmpty = z.isEmpty := by cases z <;> rfl
theorem is_label_ok {d : D} {T : String} (h : tyD d = some T) : m_is_label_344b [d] = .ok (.bl (labD d)) := by
  unfold m_is_label_344b apR1 b_is_label_344b
  simp only [R.pure_eq, R.bind_eq, R.bd, isi_str h, ask_some, tru_bl, DL.orM, DL.notM]
  cases d with
  | str z =>
    simp only [isStr, Bool.not_true, Bool.false_eq_true, if_false, chainM, R.pure_eq, R.bind_eq, R.bd, len_str, ask_some, le_ii, Option.bind_some, bOf_bl, c_LONGEST_LABEL]
    by_cases h1 : 1 ≤ z.length
    · have e1 : decide ((1 : Int) ≤ (z.length : Int)) = true := decide_eq_true (by omega)
      simp only [e1, if_true, R.bd, ask_some, bOf_bl]
      by_cases h2 : z.length ≤ 20
      · have e2 : decide ((z.length : Int) ≤ 20) = true := decide_eq_true (by omega)
        simp only [e2, Bool.not_true, Bool.false_eq_true, if_false, seqR_nx, it_str, ask_some, R.bd]
        rw [lcR (c := fun d => d) (p := fun d => !decide (sgn d ∈ CH)) (f := fun d => d) _ (fun _ _ => rfl) (fun d m => ?_) (fun _ _ _ => rfl)]
        · rw [filter_chrs (fun c => !decide (c ∈ CH))]
          simp only [List.map_id', mkL_R, notV, R.bind_eq, R.bd, tru_lst, ask_some, R.pure_eq, runR_rt, chrs_empty, filter_none, Bool.not_not]
          rw [labD_str]
          unfold isLab
          rw [decide_eq_true h1, decide_eq_true h2]
          rfl
        · obtain ⟨c, _, rfl⟩ := chrs_mem m
          rfl
      · have e2 : decide ((z.length : Int) ≤ 20) = false := decide_eq_false (by omega)
        simp only [e2, Bool.not_false, if_true, seqR_rt, runR_rt]
        rw [labD_str]
        unfold isLab
        rw [decide_eq_true h1, decide_eq_false h2]
        rfl
    · have e1 : decide ((1 : Int) ≤ (z.length : Int)) = false := decide_eq_false (by omega)
      simp only [e1, Bool.false_eq_true, if_false, R.bd, ask_some, bOf_bl, Bool.not_false, if_true, seqR_rt, runR_rt]
      rw [labD_str]
      unfold isLab
      rw [decide_eq_false h1]
      rfl
  | ins _ _ _ => cases h
  | xc _ _ _ _ => cases h
  | _ => rfl
def pathD : D → Bool
  | .tup ds => decide (ds.length ≤ 20) && ds.all labD
  | _ => false
theorem pathD_tup {ds : List D} : pathD (.tup ds) = (decide (ds.length ≤ 20) && ds.all labD) := rfl
def kids : D → List D
  | .tup ds => ds
  | _ => []
theorem is_path_ok {d : D} {T : String} (h : tyD d = some T) (hk : ∀ x ∈ kids d, tyD x ≠ none) : m_is_path_08e1 [d] = .ok (.bl (pathD d)) := by
  unfold m_is_path_08e1 apR1 b_is_path_08e1
  simp only [R.pure_eq, R.bind_eq, R.bd, isi_tup h, ask_some, tru_bl, DL.orM, DL.notM]
  cases d with
  | tup ds =>
    simp only [isTup, Bool.not_true, Bool.false_eq_true, if_false, R.bd, len_tup, ask_some, gt_ii, Option.bind_some, bOf_bl, c_MOST_LABELS]
    by_cases h2 : ds.length ≤ 20
    · have e2 : decide ((20 : Int) < (ds.length : Int)) = false := decide_eq_false (by omega)
      simp only [e2, Bool.false_eq_true, if_false, seqR_nx, it_tup, ask_some, R.bd]
      rw [lcR (c := fun d => d) (p := fun d => !labD d) (f := fun d => d) _ (fun _ _ => rfl) (fun d m => ?_) (fun _ _ _ => rfl)]
      · simp only [List.map_id', mkL_R, notV, R.bind_eq, R.bd, tru_lst, ask_some, R.pure_eq, runR_rt, filter_none, Bool.not_not]
        rw [pathD_tup, decide_eq_true h2]
        rfl
      · cases e : tyD d with
        | none => exact absurd e (hk d m)
        | some T => simp only [lift_R, is_label_ok e, R.bd, tru_bl, ask_some]
    · have e2 : decide ((20 : Int) < (ds.length : Int)) = true := decide_eq_true (by omega)
      simp only [e2, if_true, seqR_rt, runR_rt]
      rw [pathD_tup, decide_eq_false h2]
      rfl
  | ins _ _ _ => cases h
  | xc _ _ _ _ => cases h
  | _ => rfl
def hostD (d : D) : Bool := pathD d && !(kids d).isEmpty
theorem is_host_ok {d : D} {T : String} (h : tyD d = some T) (hk : ∀ x ∈ kids d, tyD x ≠ none) : m_is_host_45ba [d] = .ok (.bl (hostD d)) := by
  unfold m_is_host_45ba apR1 b_is_host_45ba
  simp only [R.pure_eq, R.bind_eq, R.bd, lift_R, is_path_ok h hk, andV, tru_bl, ask_some]
  unfold hostD
  cases e : pathD d with
  | false => rfl
  | true =>
    cases d with
    | tup ds =>
      simp only [if_true, R.bd, len_tup, ask_some, gt_ii, runR_rt, kids, Bool.true_and]
      congr 2
      cases ds with
      | nil => rfl
      | cons x xs => exact decide_eq_true (by simp only [List.length_cons]; omega)
    | _ => cases e
end FN
namespace DL
open PySem
theorem okr_seqP {α β γ : Type} {x : R (Fl α β)} {k : α → R (Fl γ β)} {Q : Fl γ β → Prop} (P : α → Prop) (h : OkR x (SeqQ P Q)) (w : ∀ a, P a → OkR (k a) Q) : OkR (seqF x k) Q := okr_seq (okr_mono h fun f q => by
  cases f with
  | nx a => exact w a q
  | rt d => exact q
  | bk b => exact q
  | ct b => exact q)
theorem askR {α : Type} {a : α} : (ask (some a) : R α) = pure a := rfl
theorem okpR {α : Type} {a : α} : (R.ok a) = (pure a : R α) := rfl
theorem lift_pR {α : Type} {a : R α} : (Mo.lift a : R α) = a := rfl
theorem okr_p {α : Type} {a : α} {Q : α → Prop} (h : Q a) : OkR (pure a : R α) Q := ⟨a, rfl, h⟩
/-! ### texts -/
def Tx (n : Nat) (z : List Nat) : Prop := z.length ≤ n ∧ ∀ c ∈ z, c < 1114112
theorem Tx.up {n m : Nat} {z : List Nat} (h : Tx n z) (w : n ≤ m) : Tx m z := ⟨Nat.le_trans h.1 w, h.2⟩
theorem Tx.app {n m : Nat} {a b : List Nat} (h : Tx n a) (k : Tx m b) : Tx (n + m) (a ++ b) := ⟨by rw [List.length_append]; exact Nat.add_le_add h.1 k.1, fun c hc => by
  rcases List.mem_append.mp hc with hc | hc
  · exact h.2 c hc
  · exact k.2 c hc⟩
theorem add_ss {a b : List Nat} (h : a.length + b.length ≤ 1000000) : addD (.str a) (.str b) = some (.str (a ++ b)) := if_pos (by rw [sizeLine_eq]; omega)
@[simp] theorem slice_s {z : List Nat} {lo hi : Option Int} : sliceD (.str z) lo hi = some (.str (cutL z lo hi)) := rfl
@[simp] theorem slice_l {z : List D} {lo hi : Option Int} : sliceD (.lst z) lo hi = some (.lst (cutL z lo hi)) := rfl
theorem cut_hi {α : Type} {z : List α} {i : Int} (h : 0 ≤ i) : cutL z none (some i) = z.take i.toNat := by
  unfold cutL
  have e1 : HT.sIx z.length 0 none = 0 := rfl
  have e2 : HT.sIx z.length z.length (some i) = min i.toNat z.length := by
    unfold HT.sIx
    simp only
    split <;> omega
  rw [e1, e2, List.drop_zero, Nat.sub_zero, List.take_eq_take_iff]
  omega
theorem cut_lo {α : Type} {z : List α} {i : Int} (h : 0 ≤ i) : cutL z (some i) none = z.drop i.toNat := by
  unfold cutL
  have e1 : HT.sIx z.length z.length none = z.length := rfl
  have e2 : HT.sIx z.length 0 (some i) = min i.toNat z.length := by
    unfold HT.sIx
    simp only
    split <;> omega
  rw [e1, e2]
  by_cases c : i.toNat ≤ z.length
  · rw [Nat.min_eq_left c, List.take_of_length_le (by simp)]
  · rw [Nat.min_eq_right (by omega), List.drop_eq_nil_of_le (Nat.le_refl _), List.drop_eq_nil_of_le (by omega)]
    simp
theorem joinN_nil : ∀ ps : List (List Nat), joinN [] ps = ps.flatten
  | [] => rfl
  | [p] => by simp [joinN]
  | p :: q :: r => by rw [joinN, joinN_nil (q :: r)]; simp
theorem strs_map : ∀ ps : List (List Nat), strsOf (ps.map .str) = some ps
  | [] => rfl
  | p :: ps => by
    show (strsOf (ps.map .str)).map (p :: ·) = _
    rw [strs_map ps]
    rfl
theorem join_ok {S : List Nat} {ps : List (List Nat)} (h : (ps.map (·.length)).sum + ps.length * S.length ≤ 16777216) : joinD (.str S) (.lst (ps.map .str)) = some (.str (joinN S ps)) := by
  unfold joinD
  show (match strsOf (ps.map .str) with | some ps => _ | none => _) = _
  rw [strs_map]
  exact if_pos h
theorem flat_ones : ∀ z : List Nat, (z.map fun c => [c]).flatten = z
  | [] => rfl
  | c :: z => by simp [flat_ones z]
theorem sum_ones : ∀ z : List Nat, ((z.map fun c => [c]).map (·.length)).sum = z.length
  | [] => rfl
  | c :: z => by rw [List.map_cons, List.map_cons, List.sum_cons, sum_ones z]; simp; omega
/-- the text of drawn signs -/
theorem join_chrs {z : List Nat} (h : z.length ≤ 1000000) : joinD (.str []) (.lst (chrs z)) = some (.str z) := by
  have e : chrs z = (z.map fun c => [c]).map .str := by unfold chrs; rw [List.map_map]; rfl
  rw [e, join_ok, joinN_nil, flat_ones]
  rw [sum_ones]
  simp
  omega
/-! ### repr -/
theorem toPyL_strs : ∀ zs : List (List Nat), toPyL (zs.map .str) = some (zs.map fun z => .str ⟨z.toArray⟩)
  | [] => by simp [toPyL]
  | z :: zs => by simp [toPyL, toPy, toPyL_strs zs]
theorem lay_strs : ∀ {zs : List (List Nat)}, (∀ z ∈ zs, Tx 1000 z) → PyData.canLayAll0 (zs.map fun z => .str ⟨z.toArray⟩) = true ∧ PyData.depthAll (zs.map fun z => .str ⟨z.toArray⟩) = 0 ∧ PyData.weightAll (zs.map fun z => .str ⟨z.toArray⟩) ≤ zs.length * 1001 ∧ PyData.intsShortAll 13 (zs.map fun z => .str ⟨z.toArray⟩) = true ∧ PyData.showableAll (zs.map fun z => .str ⟨z.toArray⟩) = true
  | [], _ => by simp [PyData.canLayAll0, PyData.depthAll, PyData.weightAll, PyData.intsShortAll, PyData.showableAll]
  | z :: zs, h => by
    obtain ⟨h1, h2, h3, h4, h5⟩ := lay_strs fun x m => h x (.tail _ m)
    have hz := h z (.head _)
    refine ⟨?_, ?_, ?_, ?_, ?_⟩
    · rw [List.map_cons, PyData.canLayAll0, h1]
      simp only [PyData.canLay0, Bool.and_true, PyData.strOk]
      simpa using hz.2
    · rw [List.map_cons, PyData.depthAll, h2, PyData.depth]; rfl
    · rw [List.map_cons, PyData.weightAll, PyData.weight, List.length_cons]
      have := hz.1
      simp only [List.size_toArray]
      omega
    · rw [List.map_cons, PyData.intsShortAll, h4, PyData.intsShort]; rfl
    · rw [List.map_cons, PyData.showableAll, h5, PyData.showable]; rfl
theorem str_beq (a b : List Nat) : PyData.eqv (.str ⟨a.toArray⟩) (.str ⟨b.toArray⟩) = decide (a = b) := by
  rw [PyData.eqv]
  by_cases h : a = b
  · subst h
    simp
  · rw [decide_eq_false h]
    have : (⟨a.toArray⟩ : Str) ≠ ⟨b.toArray⟩ := fun z => by
      have z2 : a.toArray = b.toArray := Str.mk.inj z
      exact h (by simpa using z2)
    simpa using this
theorem any_strs (a : List Nat) : ∀ zs : List (List Nat), ((zs.map fun z => PyData.str ⟨z.toArray⟩).any fun z => PyData.eqv z (.str ⟨a.toArray⟩)) = decide (a ∈ zs)
  | [] => rfl
  | z :: zs => by
    rw [List.map_cons, List.any_cons, any_strs a zs, str_beq]
    by_cases h : a = z
    · subst h; simp
    · have h' : ¬ z = a := fun e => h e.symm
      simp [h, h']
theorem shaped_str {n : Nat} {a : List Nat} (h : Tx n a) : SeqAt.shaped (.str ⟨a.toArray⟩) = true := by
  unfold SeqAt.shaped
  simp only [PyData.canLay0, PyData.strOk, PyData.depth]
  simpa using h.2
theorem shaped_strs {zs : List (List Nat)} (h : ∀ z ∈ zs, Tx 1000 z) : SeqAt.shaped (.list (zs.map fun z => .str ⟨z.toArray⟩)) = true ∧ SeqAt.shaped (.tuple (zs.map fun z => .str ⟨z.toArray⟩)) = true := by
  obtain ⟨h1, h2, _⟩ := lay_strs h
  unfold SeqAt.shaped
  simp only [PyData.canLay0, h1, PyData.depth, h2]
  exact ⟨rfl, rfl⟩
theorem in_strs {n : Nat} {a : List Nat} {zs : List (List Nat)} (ha : Tx n a) (h : ∀ z ∈ zs, Tx 1000 z) : inD (.str a) (.lst (zs.map .str)) = some (.bl (decide (a ∈ zs))) := by
  have e : inP (.str a) (.lst (zs.map .str)) = some (decide (a ∈ zs)) := by
    unfold inP
    split
    · rename_i q; cases q
    · rename_i ds _ q
      cases q
      rw [toPy, toPy, toPyL_strs]
      simp only [Option.map_some, shaped_str ha, (shaped_strs h).1, Bool.and_self, if_true, any_strs]
    · rename_i q; cases q
    · rename_i q _ _; exact absurd rfl (q _)
  unfold inD
  rw [e]
  rfl
theorem bols_map {α : Type} (f : α → Bool) : ∀ xs : List α, bolsOf (xs.map fun x => .bl (f x)) = some (xs.map f)
  | [] => rfl
  | x :: xs => by
    show (bolsOf _).map (_ :: ·) = _
    rw [bols_map f xs]
    rfl
theorem all_map {α : Type} (f : α → Bool) (xs : List α) : allD [.lst (xs.map fun x => .bl (f x))] = some (.bl (xs.all f)) := by
  unfold allD
  simp only [bols_map, Option.map_some, List.all_map]
  rfl
end DL
/-! ### plain data of a bounded depth: repr, ==, in -/
namespace DL
open PySem
mutual
def wt : D → Nat
  | .str z => z.length
  | .tup ds => wtL ds + 1
  | .lst ds => wtL ds + 1
  | .int _ => 70
  | _ => 1
def wtL : List D → Nat
  | [] => 0
  | d :: ds => wt d + 1 + wtL ds
end
mutual
def nic : Nat → D → Bool
  | _, .non => true
  | _, .bl _ => true
  | _, .int i => decide (i.natAbs < 10 ^ 20)
  | _, .str z => z.all fun c => decide (c < 1114112)
  | n + 1, .tup ds => nicL n ds
  | n + 1, .lst ds => nicL n ds
  | _, _ => false
def nicL : Nat → List D → Bool
  | _, [] => true
  | n, d :: ds => nic n d && nicL n ds
end
mutual
def py : D → PyData
  | .non => .none
  | .bl b => .bool b
  | .int i => .int i
  | .str s => .str ⟨s.toArray⟩
  | .tup ds => .tuple (pyL ds)
  | .lst ds => .list (pyL ds)
  | _ => .none
def pyL : List D → List PyData
  | [] => []
  | d :: ds => py d :: pyL ds
end
mutual
def deq : D → D → Bool
  | .non, .non => true
  | .bl a, .bl b => a == b
  | .bl a, .int j => (if a then 1 else 0) == j
  | .int i, .bl b => i == (if b then 1 else 0)
  | .int i, .int j => i == j
  | .str x, .str y => decide (x = y)
  | .lst xs, .lst ys => deqL xs ys
  | .tup xs, .tup ys => deqL xs ys
  | _, _ => false
def deqL : List D → List D → Bool
  | [], [] => true
  | x :: xs, y :: ys => deq x y && deqL xs ys
  | _, _ => false
end
theorem int20 {i : Int} (h : i.natAbs < 10 ^ 20) : i.natAbs.log2 < 67 := PySem.Flt.log2_lt_of (k := 67) (by decide) (Nat.lt_of_lt_of_le h (by decide))
theorem shown20 {i : Int} (h : i.natAbs < 10 ^ 20) : (PyData.shown (.int i)).length ≤ 21 := by
  have e := int_text_length_le10 (k := 20) (by decide) h
  show (Str.ofString (toString i)).length ≤ 21
  rw [ofString_length]; exact e
structure NicP (n : Nat) (w : Nat) (p : PyData) : Prop where
  lay : p.canLay0 = true
  dep : p.depth ≤ n
  sho : p.showable = true
  lea : p.leavesShort 25 = true
  wei : p.weight ≤ w
  nod : p.hasDict = false
structure NicL (n : Nat) (w : Nat) (p : List PyData) : Prop where
  lay : PyData.canLayAll0 p = true
  dep : PyData.depthAll p ≤ n
  sho : PyData.showableAll p = true
  lea : PyData.leavesShortAll 25 p = true
  wei : PyData.weightAll p ≤ w
  nod : PyData.hasDictAll p = false
mutual
theorem nic_ok : ∀ (n : Nat) (d : D), nic n d = true → toPy d = some (py d) ∧ NicP n (wt d) (py d)
  | n, .non, _ => ⟨by simp [toPy, py], by constructor <;> simp [py, PyData.canLay0, PyData.depth, PyData.showable, PyData.leavesShort, PyData.weight, PyData.hasDict, wt]⟩
  | n, .bl _, _ => ⟨by simp [toPy, py], by constructor <;> simp [py, PyData.canLay0, PyData.depth, PyData.showable, PyData.leavesShort, PyData.weight, PyData.hasDict, wt]⟩
  | n, .int i, h => by
    have h' : i.natAbs < 10 ^ 20 := by simpa [nic] using h
    have hl := int20 h'
    refine ⟨by simp [toPy, py], ?_⟩
    constructor <;> simp [py, PyData.canLay0, PyData.depth, PyData.showable, PyData.leavesShort, PyData.hasDict]
    · omega
    · have := shown20 h'; omega
    · simp only [PyData.weight, wt]
      split <;> omega
  | n, .str z, h => by
    have h' : ∀ c ∈ z, c < 1114112 := by simpa [nic] using h
    refine ⟨by simp [toPy, py], ?_⟩
    constructor <;> simp [py, PyData.canLay0, PyData.depth, PyData.showable, PyData.leavesShort, PyData.hasDict, PyData.strOk, PyData.weight, wt]
    · exact h'
    · intro c hc; have := h' c hc; omega
  | n + 1, .tup ds, h => by
    obtain ⟨e, q⟩ := nicL_ok n ds (by simpa [nic] using h)
    refine ⟨by rw [toPy, e]; simp [py], ?_⟩
    constructor <;> simp only [py, PyData.canLay0, PyData.depth, PyData.showable, PyData.leavesShort, PyData.hasDict, PyData.weight, wt]
    · exact q.lay
    · exact Nat.succ_le_succ q.dep
    · exact q.sho
    · exact q.lea
    · exact Nat.le_succ_of_le q.wei
    · exact q.nod
  | n + 1, .lst ds, h => by
    obtain ⟨e, q⟩ := nicL_ok n ds (by simpa [nic] using h)
    refine ⟨by rw [toPy, e]; simp [py], ?_⟩
    constructor <;> simp only [py, PyData.canLay0, PyData.depth, PyData.showable, PyData.leavesShort, PyData.hasDict, PyData.weight, wt]
    · exact q.lay
    · exact Nat.succ_le_succ q.dep
    · exact q.sho
    · exact q.lea
    · exact Nat.le_succ_of_le q.wei
    · exact q.nod
  | 0, .tup _, h => by simp [nic] at h
  | 0, .lst _, h => by simp [nic] at h
  | n, .dic _ _, h => by simp [nic] at h
  | n, .ins _ _ _, h => by simp [nic] at h
  | n, .scr _, h => by simp [nic] at h
  | n, .xc _ _ _ _, h => by simp [nic] at h
theorem nicL_ok : ∀ (n : Nat) (ds : List D), nicL n ds = true → toPyL ds = some (pyL ds) ∧ NicL n (wtL ds) (pyL ds)
  | n, [], _ => ⟨by simp [toPyL, pyL], by constructor <;> simp [pyL, PyData.canLayAll0, PyData.depthAll, PyData.showableAll, PyData.leavesShortAll, PyData.weightAll, PyData.hasDictAll, wtL]⟩
  | n, d :: ds, h => by
    have h' : nic n d = true ∧ nicL n ds = true := by simpa [nicL] using h
    obtain ⟨e1, q1⟩ := nic_ok n d h'.1
    obtain ⟨e2, q2⟩ := nicL_ok n ds h'.2
    refine ⟨by simp [toPyL, e1, e2, pyL], ?_⟩
    have := q1.wei
    have := q2.wei
    have := q1.dep
    have := q2.dep
    constructor <;> simp only [pyL, PyData.canLayAll0, PyData.depthAll, PyData.showableAll, PyData.leavesShortAll, PyData.weightAll, PyData.hasDictAll, wtL]
    · rw [q1.lay, q2.lay]; rfl
    · omega
    · rw [q1.sho, q2.sho]; rfl
    · rw [q1.lea, q2.lea]; rfl
    · omega
    · rw [q1.nod, q2.nod]; rfl
end
theorem shaped_nic {n : Nat} {d : D} (h : nic n d = true) (hn : n ≤ 60) : toPy d = some (py d) ∧ SeqAt.shaped (py d) = true := by
  obtain ⟨e, q⟩ := nic_ok n d h
  refine ⟨e, ?_⟩
  unfold SeqAt.shaped
  rw [q.lay]
  have := q.dep
  simp only [Bool.true_and, decide_eq_true_eq]
  omega
theorem str_eqv (x y : List Nat) : ((⟨x.toArray⟩ : Str) == ⟨y.toArray⟩) = decide (x = y) := by
  have := str_beq x y
  rw [PyData.eqv] at this
  exact this
mutual
theorem deq_py : ∀ (n m : Nat) (a b : D), nic n a = true → nic m b = true → PyData.eqv (py a) (py b) = deq a b
  | n, m, .non, b, _, hb => by cases b <;> simp [py, PyData.eqv, deq] <;> simp [nic] at hb
  | n, m, .bl x, b, _, hb => by cases b <;> simp [py, PyData.eqv, deq] <;> simp [nic] at hb
  | n, m, .int x, b, _, hb => by cases b <;> simp [py, PyData.eqv, deq] <;> simp [nic] at hb
  | n, m, .str x, b, _, hb => by cases b <;> simp [py, PyData.eqv, deq, str_eqv] <;> simp [nic] at hb
  | n + 1, m, .tup x, b, ha, hb => by
    cases b with
    | tup y =>
      cases m with
      | zero => simp [nic] at hb
      | succ m =>
        simp only [py, PyData.eqv, deq]
        exact deqL_py n m x y (by simpa [nic] using ha) (by simpa [nic] using hb)
    | _ => simp [py, PyData.eqv, deq] <;> simp [nic] at hb
  | n + 1, m, .lst x, b, ha, hb => by
    cases b with
    | lst y =>
      cases m with
      | zero => simp [nic] at hb
      | succ m =>
        simp only [py, PyData.eqv, deq]
        exact deqL_py n m x y (by simpa [nic] using ha) (by simpa [nic] using hb)
    | _ => simp [py, PyData.eqv, deq] <;> simp [nic] at hb
  | 0, m, .tup _, b, h, _ => by simp [nic] at h
  | 0, m, .lst _, b, h, _ => by simp [nic] at h
  | n, m, .dic _ _, b, h, _ => by simp [nic] at h
  | n, m, .ins _ _ _, b, h, _ => by simp [nic] at h
  | n, m, .scr _, b, h, _ => by simp [nic] at h
  | n, m, .xc _ _ _ _, b, h, _ => by simp [nic] at h
theorem deqL_py : ∀ (n m : Nat) (a b : List D), nicL n a = true → nicL m b = true → PyData.eqvAll (pyL a) (pyL b) = deqL a b
  | n, m, [], [], _, _ => by simp [pyL, PyData.eqvAll, deqL]
  | n, m, [], _ :: _, _, _ => by simp [pyL, PyData.eqvAll, deqL]
  | n, m, _ :: _, [], _, _ => by simp [pyL, PyData.eqvAll, deqL]
  | n, m, x :: xs, y :: ys, h, k => by
    have h' : nic n x = true ∧ nicL n xs = true := by simpa [nicL] using h
    have k' : nic m y = true ∧ nicL m ys = true := by simpa [nicL] using k
    simp only [pyL, PyData.eqvAll, deqL]
    rw [deq_py n m x y h'.1 k'.1, deqL_py n m xs ys h'.2 k'.2]
end
theorem eqP_nic {n m : Nat} {a b : D} (ha : nic n a = true) (hb : nic m b = true) (hn : n ≤ 60) (hm : m ≤ 60) : eqP a b = some (deq a b) := by
  have e : eqS a b = some (deq a b) := by
    obtain ⟨e1, s1⟩ := shaped_nic ha hn
    obtain ⟨e2, s2⟩ := shaped_nic hb hm
    unfold eqS
    rw [e1, e2]
    simp only [s1, s2, Bool.and_self, if_true, deq_py n m a b ha hb]
  unfold eqP
  split
  · simp [deq]
  · simp [deq]; rw [Bool.eq_iff_iff]; simp
  · simp [deq]; rw [Bool.eq_iff_iff]; simp
  · simp [deq]
  · exact e
theorem eq_nic {n m : Nat} {a b : D} (ha : nic n a = true) (hb : nic m b = true) (hn : n ≤ 60) (hm : m ≤ 60) : eqD a b = some (.bl (deq a b)) := by unfold eqD; rw [eqP_nic ha hb hn hm]; rfl
theorem ne_nic {n m : Nat} {a b : D} (ha : nic n a = true) (hb : nic m b = true) (hn : n ≤ 60) (hm : m ≤ 60) : neD a b = some (.bl (!deq a b)) := by unfold neD; rw [eqP_nic ha hb hn hm]; rfl
mutual
theorem deq_refl : ∀ (n : Nat) (a : D), nic n a = true → deq a a = true
  | n, .non, _ => by simp [deq]
  | n, .bl _, _ => by simp [deq]
  | n, .int _, _ => by simp [deq]
  | n, .str _, _ => by simp [deq]
  | n + 1, .tup x, h => by simp only [deq]; exact deqL_refl n x (by simpa [nic] using h)
  | n + 1, .lst x, h => by simp only [deq]; exact deqL_refl n x (by simpa [nic] using h)
  | 0, .tup _, h => by simp [nic] at h
  | 0, .lst _, h => by simp [nic] at h
  | n, .dic _ _, h => by simp [nic] at h
  | n, .ins _ _ _, h => by simp [nic] at h
  | n, .scr _, h => by simp [nic] at h
  | n, .xc _ _ _ _, h => by simp [nic] at h
theorem deqL_refl : ∀ (n : Nat) (a : List D), nicL n a = true → deqL a a = true
  | n, [], _ => by simp [deqL]
  | n, x :: xs, h => by
    have h' : nic n x = true ∧ nicL n xs = true := by simpa [nicL] using h
    simp only [deqL, deq_refl n x h'.1, deqL_refl n xs h'.2, Bool.and_self]
end
theorem nicL_iff {n : Nat} : ∀ {ds : List D}, nicL n ds = true ↔ ∀ d ∈ ds, nic n d = true
  | [] => by simp [nicL]
  | d :: ds => by simp [nicL, nicL_iff (ds := ds)]
theorem nic_strs {n : Nat} {zs : List (List Nat)} (h : ∀ z ∈ zs, ∀ c ∈ z, c < 1114112) : nicL n (zs.map .str) = true := nicL_iff.mpr fun d m => by
  obtain ⟨z, hz, rfl⟩ := List.mem_map.mp m
  simpa [nic] using h z hz
theorem deqL_strs : ∀ {A B : List (List Nat)}, deqL (A.map .str) (B.map .str) = decide (A = B)
  | [], [] => by simp [deqL]
  | [], _ :: _ => by simp [deqL]
  | _ :: _, [] => by simp [deqL]
  | a :: A, b :: B => by
    simp only [List.map_cons, deqL, deq, deqL_strs (A := A) (B := B)]
    by_cases h : a = b <;> by_cases k : A = B <;> simp [h, k]
mutual
theorem nic_mono : ∀ (n m : Nat) (d : D), n ≤ m → nic n d = true → nic m d = true
  | n, m, .non, _, _ => by simp [nic]
  | n, m, .bl _, _, _ => by simp [nic]
  | n, m, .int _, _, h => by simpa [nic] using h
  | n, m, .str _, _, h => by simpa [nic] using h
  | n + 1, m + 1, .tup ds, k, h => by
    have := nicL_mono n m ds (by omega) (by simpa [nic] using h)
    simpa [nic] using this
  | n + 1, m + 1, .lst ds, k, h => by
    have := nicL_mono n m ds (by omega) (by simpa [nic] using h)
    simpa [nic] using this
  | n + 1, 0, .tup _, k, h => by omega
  | n + 1, 0, .lst _, k, h => by omega
  | 0, m, .tup _, _, h => by simp [nic] at h
  | 0, m, .lst _, _, h => by simp [nic] at h
  | n, m, .dic _ _, _, h => by simp [nic] at h
  | n, m, .ins _ _ _, _, h => by simp [nic] at h
  | n, m, .scr _, _, h => by simp [nic] at h
  | n, m, .xc _ _ _ _, _, h => by simp [nic] at h
theorem nicL_mono : ∀ (n m : Nat) (ds : List D), n ≤ m → nicL n ds = true → nicL m ds = true
  | n, m, [], _, _ => by simp [nicL]
  | n, m, d :: ds, k, h => by
    have h' : nic n d = true ∧ nicL n ds = true := by simpa [nicL] using h
    simp only [nicL, nic_mono n m d k h'.1, nicL_mono n m ds k h'.2, Bool.and_self]
end
theorem nic_tup {n : Nat} {ds : List D} : nic (n + 1) (.tup ds) = nicL n ds := by simp [nic]
theorem nic_lst {n : Nat} {ds : List D} : nic (n + 1) (.lst ds) = nicL n ds := by simp [nic]
end DL
namespace DL
open PySem PySem.W
/-! ### orders of rows of labels -/
def pr (z : List Nat) : PyData := .tuple [.int z.length, .str ⟨z.toArray⟩]
end DL
namespace FN
open DL
/-! ### rows in their order -/
def okRow (A : List (List Nat)) : Bool := decide (A.length ≤ 20) && A.all (isLab 20)
theorem row_kids (A : List (List Nat)) : ∀ x ∈ kids (.tup (A.map .str)), tyD x ≠ none := fun x m => by
  obtain ⟨z, _, rfl⟩ := List.mem_map.mp (show x ∈ A.map .str from m)
  simp [tyD]
theorem path_row (A : List (List Nat)) : pathD (.tup (A.map .str)) = okRow A := by
  rw [pathD_tup, List.length_map, List.all_map]
  rfl
theorem host_row (A : List (List Nat)) : hostD (.tup (A.map .str)) = (okRow A && !A.isEmpty) := by
  unfold hostD
  rw [path_row]
  cases A <;> rfl
theorem is_host_row (A : List (List Nat)) : m_is_host_45ba [.tup (A.map .str)] = .ok (.bl (okRow A && !A.isEmpty)) := by
  rw [is_host_ok (d := .tup (A.map .str)) rfl (row_kids A), host_row]
/-! ### drawn labels -/
theorem isLab_iff {n : Nat} {z : List Nat} : isLab n z = true ↔ 1 ≤ z.length ∧ z.length ≤ n ∧ ∀ c ∈ z, c ∈ CH := by
  unfold isLab
  simp
theorem ch_lt {c : Nat} (h : c ∈ CH) : c < 1114112 := by
  have : ∀ x ∈ CH, x < 1114112 := by decide
  exact this c h
theorem lab_tx {z : List Nat} (h : isLab 20 z = true) : Tx 20 z := ⟨(isLab_iff.mp h).2.1, fun c m => ch_lt ((isLab_iff.mp h).2.2 c m)⟩
end FN
/-! ### pages: shared mirrors and what they do -/
namespace FN
open DL
end FN
namespace FN
open DL PySem PySem.W
theorem abs_i {i : Int} : absD [.int i] = some (.int (if i < 0 then -i else i)) := rfl
theorem ix_str {z : List Nat} {i : Int} (h0 : 0 ≤ i) (h : i < z.length) : ∃ c, c ∈ z ∧ ixD (.str z) (.int i) = some (.str [c]) := by
  refine ⟨z[i.toNat]'(by omega), List.getElem_mem _, ?_⟩
  unfold ixD L2.atI
  simp only [ixN_ok h0 h]
  show Option.map (fun c => D.str [c]) (z[i.toNat]?) = _
  rw [List.getElem?_eq_getElem (by omega)]
  rfl
theorem tup_lst {ds : List D} : tupleD [.lst ds] = some (.tup ds) := rfl
theorem sub_ii {i j : Int} : subD (.int i) (.int j) = some (.int (i - j)) := rfl
def Sm (n W : Nat) (d : D) : Prop := nic n d = true ∧ wt d ≤ W
theorem Sm.mono {n m W V : Nat} {d : D} (h : Sm n W d) (h1 : n ≤ m) (h2 : W ≤ V) : Sm m V d := ⟨nic_mono n m d h1 h.1, Nat.le_trans h.2 h2⟩
theorem add_tt {a b : List D} (h : a.length + b.length ≤ 1000000) : addD (.tup a) (.tup b) = some (.tup (a ++ b)) := if_pos (by rw [sizeLine_eq]; omega)
theorem slice_t {z : List D} {lo hi : Option Int} : sliceD (.tup z) lo hi = some (.tup (cutL z lo hi)) := rfl
theorem join_tup {S : List Nat} {ps : List (List Nat)} (h : (ps.map (·.length)).sum + ps.length * S.length ≤ 16777216) : joinD (.str S) (.tup (ps.map .str)) = some (.str (joinN S ps)) := by
  unfold joinD
  show (match strsOf (ps.map .str) with | some ps => _ | none => _) = _
  rw [strs_map]
  exact if_pos h
theorem sum_le {A : List (List Nat)} {k : Nat} (h : ∀ z ∈ A, z.length ≤ k) : (A.map (·.length)).sum ≤ A.length * k := by
  induction A with
  | nil => simp
  | cons z A ih =>
    have h1 := h z (.head _)
    have h2 := ih fun w m => h w (.tail _ m)
    rw [List.map_cons, List.sum_cons, List.length_cons, Nat.succ_mul]
    omega
theorem le_l {i j : Int} : leD (.int i) (.int j) = some (.bl (decide (i ≤ j))) := rfl
theorem row_sum {A : List (List Nat)} (h : okRow A = true) : A.length ≤ 20 ∧ (A.map (·.length)).sum ≤ 400 := by
  simp only [okRow, Bool.and_eq_true, decide_eq_true_eq, List.all_eq_true] at h
  have := sum_le (A := A) (k := 20) fun z m => (lab_tx (h.2 z m)).1
  exact ⟨h.1, by omega⟩
theorem sz3 {a b c : D} : szL [a, b, c] = some [a, b, c] := sz_ok (by simp)
theorem sz2 {a b : D} : szL [a, b] = some [a, b] := sz_ok (by simp)
end FN
/-! ### pages read and compared: shared mirrors and what they do -/
namespace FN
open DL
end FN
namespace FN
open DL PySem PySem.W
section
variable {w w' : List Nat} {A A' B B' : List (List Nat)} {i i' : Int}
def pre (w : List Nat) (A : List (List Nat)) : List Nat := w ++ [58, 47, 47] ++ joinN [46] A
theorem join_row2 {S : List Nat} {A : List (List Nat)} (h : okRow A = true) (hS : S.length ≤ 1) : joinD (.str S) (.tup (A.map .str)) = some (.str (joinN S A)) ∧ (joinN S A).length ≤ 1000 := by
  obtain ⟨h1, h2⟩ := row_sum h
  have h3 : A.length * S.length ≤ 20 * 1 := Nat.mul_le_mul h1 hS
  refine ⟨join_tup (by omega), ?_⟩
  have := joinN_len S A
  omega
theorem join_tx {S : Nat} {A : List (List Nat)} (h : okRow A = true) (hS : S < 1114112) : ∀ c ∈ joinN [S] A, c < 1114112 := by
  simp only [okRow, Bool.and_eq_true, decide_eq_true_eq, List.all_eq_true] at h
  have hA := h.2
  clear h
  induction A with
  | nil => intro c hc; cases hc
  | cons z A ih =>
    have hz := (lab_tx (hA z (.head _))).2
    have ih' := ih fun w m => hA w (.tail _ m)
    cases A with
    | nil => intro c hc; exact hz c (by simpa [joinN] using hc)
    | cons y A =>
      intro c hc
      rw [joinN] at hc
      rcases List.mem_append.mp hc with hc | hc
      · exact hz c hc
      · rcases List.mem_append.mp hc with hc | hc
        · rw [List.mem_singleton.mp hc]; exact hS
        · exact ih' c hc
theorem row_of (h1 : A.length ≤ 20) (h2 : ∀ z ∈ A, isLab 20 z = true) : okRow A = true := by
  simp only [okRow, Bool.and_eq_true, decide_eq_true_eq, List.all_eq_true]; exact ⟨h1, h2⟩
theorem ch_free {s : Nat} (h : ¬ s ∈ CH) {z : List Nat} (hz : isLab 20 z = true) : s ∉ z := fun m => h ((isLab_iff.mp hz).2.2 s m)
theorem split_ok {s : Nat} (hs : s < 256) (hc : ¬ s ∈ CH) (hA : ∀ z ∈ A, isLab 20 z = true) (h0 : A ≠ []) (hl : (joinN [s] A).length ≤ 1000000) : splitD (.str (joinN [s] A)) (.str [s]) = some (A.map .str) := by
  show (if s < 256 ∧ (joinN [s] A).length ≤ 1000000 then some ((TL.spl [s] 0 [] (joinN [s] A)).map D.str) else none) = _
  rw [if_pos ⟨hs, hl⟩, joinN_eq, TL.spl_join h0 fun p m => ch_free hc (hA p m)]
end
end FN
/-! ### text.replace(a, b, 1): a token is out -/
namespace DL
open PySem PySem.Spec PyProof.Rows L2
end DL
/-! ### texts cut and glued, ports of any text, rows: shared lemmas -/
namespace FN
open DL PySem PySem.W
theorem spl_len {S : List Nat} : ∀ (z : List Nat) (k : Nat) (acc : List Nat), (TL.spl S k acc z).length ≤ z.length + 1
  | [], k, acc => by rw [TL.spl_nil]; simp
  | x :: r, 0, acc => by
    by_cases hp : TL.pre S (x :: r) = true
    · rw [TL.spl_hit hp]
      have := spl_len (S := S) r (S.length - 1) []
      simp only [List.length_cons]; omega
    · rw [TL.spl_miss (by simpa using hp)]
      have := spl_len (S := S) r 0 (acc ++ [x])
      simp only [List.length_cons]; omega
  | x :: r, k + 1, acc => by
    have := spl_len (S := S) r k acc
    simp only [List.length_cons]
    show (TL.spl S k acc r).length ≤ _
    omega
theorem sqp {α β γ : Type} {a : α} {k : α → R (Fl γ β)} : seqF (pure (Fl.nx a) : R (Fl α β)) k = k a := rfl
theorem noexM {α : Type} {a : α} : (Mo.noex (pure a : M α) : M α) = pure a := rfl
theorem isLab_up {n m : Nat} {z : List Nat} (h : isLab n z = true) (w : n ≤ m) : isLab m z = true := by
  obtain ⟨a, b, c⟩ := isLab_iff.mp h
  exact isLab_iff.mpr ⟨a, by omega, c⟩
def Rn (l n : Nat) (d : D) : Prop := ∃ A : List (List Nat), d = .tup (A.map .str) ∧ l ≤ A.length ∧ A.length ≤ n ∧ ∀ z ∈ A, isLab 20 z = true
theorem Rn.up {l n m : Nat} {d : D} (h : Rn l n d) (w : n ≤ m) : Rn l m d := by
  obtain ⟨A, a, b, c, e⟩ := h
  exact ⟨A, a, b, by omega, e⟩
end FN
/-! ### an __init__ that says super().__init__(..) and nothing else -/
namespace DL
open PySem PySem.Spec PyProof.Rows L2 NdefX ClX
end DL
/-! ### self.a, x, .. = e; objects of classes whose __init__ says super().__init__(..) -/
namespace DL
open PySem PySem.Spec PyProof.Rows L2
end DL
/-! ### list(zip(a, b)) of two tuples -/
namespace DL
open PySem PySem.Spec PyProof.Rows PySem.Calls L2 RZ
/-! the tracked heap -/
section
variable {X : Cx} {fx : Fx} {m : Type → Type} [Mo m] {G : List Sl} {a b : Expr} {p p2 pos zpos : Pos} {ys : m (List D)}
section
open PySem PySem.Spec PyProof.Rows PySem.Calls L2 RZ
section
variable {prog : Program} {w : World} {A : Around} {E : Value → Shared → Prop} {s : Shared}
/-- a zip of two tuples, k of its pairs given out, all of them still held -/
structure ZpSt (h : Heap) (z TI TO i1 i2 l1 l2 S : Addr) (xs ys : Array Value) (k : Nat) : Prop where
  ti : IsPair h TI (.ref i1) (.ref i2)
  a1 : h.IsTupleIter i1 l1 k
  a2 : h.IsTupleIter i2 l2 k
  b1 : h.IsTuple l1 xs
  b2 : h.IsTuple l2 ys
  st : (IsZip h z TI TO .none ∧ IsPair h TO .none .none) ∨ ∃ T f oT, IsZipHeld h z TI TO T f ∧ h.get? T = some oT ∧ T ≠ z ∧ T ≠ i1 ∧ T ≠ i2 ∧ T ≠ S
structure ZpOff (z TI TO i1 i2 l1 l2 S : Addr) : Prop where
  z : z ≠ S
  TI : TI ≠ S
  TO : TO ≠ S
  i1 : i1 ≠ S
  i2 : i2 ≠ S
  l1 : l1 ≠ S
  l2 : l2 ≠ S
theorem ZpSt.keep {h h' : Heap} {z TI TO i1 i2 l1 l2 S : Addr} {xs ys : Array Value} {k : Nat} (o : ZpOff z TI TO i1 i2 l1 l2 S) (a : ZpSt h z TI TO i1 i2 l1 l2 S xs ys k) (hk : ∀ b o, b ≠ S → h.get? b = some o → h'.get? b = some o) : ZpSt h' z TI TO i1 i2 l1 l2 S xs ys k where
  ti := hk _ _ o.TI a.ti
  a1 := a.a1.at fun u e => hk _ u o.i1 e
  a2 := a.a2.at fun u e => hk _ u o.i2 e
  b1 := a.b1.at fun u e => hk _ u o.l1 e
  b2 := a.b2.at fun u e => hk _ u o.l2 e
  st := a.st.elim (fun ⟨h1, h2⟩ => .inl ⟨hk _ _ o.z h1, hk _ _ o.TO h2⟩) fun ⟨T, f, oT, h1, h2, n1, n2, n3, n4⟩ => .inr ⟨T, f, oT, hk _ _ o.z h1, hk _ _ n4 h2, n1, n2, n3, n4⟩
end
/-- what was built is frozen -/
theorem Ste.freeze {bag : List Addr} {Hf H Hf' H' : Hp} {p : Addr} {o : HO} (e : Ste bag Hf H Hf' H') (at_ : H' p = some o) (no : Hf' p = none) (new : H p = none) : Ste bag Hf H (L2.upd Hf' p o) H' where
  sub := fun a u q => by
    have q' := e.sub a u q
    rw [upd_ne (ne_of_none q' no)]; exact q'
  top := fun a u q => by
    by_cases ap : a = p
    · subst ap; rw [upd_same] at q; cases q; exact at_
    · rw [upd_ne ap] at q; exact e.top a u q
  keep := e.keep
  dom := e.dom
  fresh := fun a u q => by
    by_cases ap : a = p
    · exact .inr (ap ▸ new)
    · rw [upd_ne ap] at q; exact e.fresh a u q
end
end
end DL
/-! ### text.count, text.find; a field set again; what is never reached -/
namespace DL
open PySem PySem.Spec PyProof.Rows L2
/-! calls of defs with keywords and defaults -/
/-! the facts of an __init__ that is super().__init__ -/
end DL
namespace DL
open PySem PySem.Spec PyProof.Rows L2
/-! an __init__ without defaults, called by names -/
/-! text.lstrip(signs) -/
section
variable {X : Cx} {fx : Fx} {m : Type → Type} [Mo m] {G : List Sl} {o e : Expr} {pos apos : Pos} {x y : m D}
def lstripD : D → D → Option D
  | .str a, .str b => if (Txt.lstripChars ⟨a.toArray⟩ ⟨b.toArray⟩).cps.toList.length ≤ sizeLine then some (.str (Txt.lstripChars ⟨a.toArray⟩ ⟨b.toArray⟩).cps.toList) else none
  | _, _ => none
theorem de_lstrip (ho : PE X o (tE X.K X.mg fx G x)) (he : PE X e (tE X.K X.mg fx G y)) (hs : starEach [e] X.env = [(false, eval e X.env)] := by rfl) (hbase : attributeBase o "lstrip" X.env (eval o X.env) = eval o X.env := by rfl) (hline : (apos.endLine == pos.line) = true := by rfl) :
    PE X (.Call (.Attribute o "lstrip" apos) [e] [] pos) (tE X.K X.mg fx G (do let u ← x; let _ ← DL.ask (strOf u); let v ← y; DL.ask (lstripD u v))) :=
  peI (pe_m1 PySem.F.slot_str_lstrip PySem.F.type_str_lstrip L2.mt_lstripChars ho he hs hbase hline) fun σ H Q ⟨Hf, s, h⟩ =>
  (h.bind.mono fun v1 H1 ⟨d1, Hf1, s1, sb1, r1, h1⟩ => by
    have k := Mo.wp_lift (Mo.wp_bind h1.2)
    cases d1 with
    | str S =>
      obtain ⟨rfl, hz1⟩ := r1
      refine ⟨⟨_, rfl⟩, ?_⟩
      have h2 : tX X.K X.mg fx G (fun H d v => Is X.K X.mg H d v) (do let v ← y; DL.ask (lstripD (.str S) v) : m D) Hf1 s1 σ H1 Q := ⟨h1.1, k⟩
      refine (h2.bind.mono fun v2 H2 ⟨d2, Hf2, s2, sb2, r2, h3⟩ => ?_).to
      obtain ⟨d, e, q⟩ := h3.ask
      cases d2 with
      | str T =>
        obtain ⟨rfl, _⟩ := r2
        have e' : (if (Txt.lstripChars ⟨S.toArray⟩ ⟨T.toArray⟩).cps.toList.length ≤ sizeLine then some (D.str (Txt.lstripChars ⟨S.toArray⟩ ⟨T.toArray⟩).cps.toList) else none) = some d := e
        by_cases hz : (Txt.lstripChars ⟨S.toArray⟩ ⟨T.toArray⟩).cps.toList.length ≤ sizeLine
        · rw [if_pos hz] at e'
          cases e'
          exact ⟨_, _, rfl, rfl, by simpa [Str.length] using hz1, q _ Hf2 H2 (.refl h3.1.top) ⟨by simp, hz⟩⟩
        · rw [if_neg hz] at e'
          cases e'
      | _ => cases e
    | _ => exact k.elim).to
end
end DL
/-! ### list.index of a list of texts -/
namespace DL
open PySem PySem.Spec PyProof.Rows L2
end DL
/-! ### patterns and rules: mirrors, texts, draws -/
namespace FN
open DL
def c_HOST : D := (.str [104, 111, 115, 116])
end FN
namespace FN
open DL PySem PySem.W
/-! ### texts of patterns -/
/-- an item of a pattern, not the gap -/
def isIt (z : List Nat) : Bool := decide (1 ≤ z.length) && decide (z.length ≤ 8) && decide (z.count 42 ≤ 1) && z.all fun c => decide (c = 42) || decide (c ∈ CH)
def gp : List Nat := [42, 42]
def enumK (I : List (List Nat)) (k : Nat) : List D := match I with
  | [] => []
  | z :: r => .tup [.int (k : Int), .str z] :: enumK r (k + 1)
theorem enumK_eq : ∀ (I : List (List Nat)) (k : Nat), (I.map D.str).mapIdx (fun i d => D.tup [.int ((i + k : Nat) : Int), d]) = enumK I k
  | [], _ => rfl
  | z :: r, k => by
    rw [List.map_cons, List.mapIdx_cons]
    show _ :: _ = _ :: enumK r (k + 1)
    rw [← enumK_eq r (k + 1)]
    simp only [Nat.zero_add]
    congr 1
    congr 1
    funext i d
    rw [show i + 1 + k = i + (k + 1) by omega]
theorem enumL_strs (I : List (List Nat)) : enumL (I.map D.str) = enumK I 0 := by
  rw [← enumK_eq]
  rfl
theorem cut_toD {z : List D} {n : Nat} : cutL z none (some (n : Int)) = z.take n := by rw [cut_hi (by omega)]; rfl
/-- items of a pattern: its head, its tail, whether a gap is between them -/
def PatI (l0 l1 mh mt : Nat) (I h t : List (List Nat)) (g : Bool) : Prop := (∀ z ∈ h ++ t, isIt z = true) ∧ ((g = false ∧ I = h ∧ t = [] ∧ l0 ≤ h.length ∧ h.length ≤ l1) ∨ (g = true ∧ I = h ++ gp :: t ∧ h.length ≤ mh ∧ t.length ≤ mt))
theorem pat_mem {l0 l1 mh mt : Nat} {I h t : List (List Nat)} {g : Bool} (p : PatI l0 l1 mh mt I h t g) : ∀ z ∈ I, z = gp ∨ isIt z = true := by
  obtain ⟨hz, ⟨rfl, rfl, rfl, h0, h1⟩ | ⟨rfl, rfl, h0, h1⟩⟩ := p
  · exact fun z m => .inr (hz z (by simpa using m))
  · intro z m
    rcases List.mem_append.mp m with m | m
    · exact .inr (hz z (List.mem_append_left _ m))
    · rcases List.mem_cons.mp m with m | m
      · exact .inl m
      · exact .inr (hz z (List.mem_append_right _ m))
theorem it_len {z : List Nat} (h : z = gp ∨ isIt z = true) : z.length ≤ 8 := by
  rcases h with rfl | h
  · decide
  · unfold isIt at h
    simp only [Bool.and_eq_true, decide_eq_true_eq] at h
    exact h.1.1.2
theorem join_len {s : Nat} : ∀ {I : List (List Nat)}, (∀ z ∈ I, z.length ≤ 8) → (joinN [s] I).length ≤ 9 * I.length
  | [], _ => Nat.zero_le _
  | [p], h => by
    show p.length ≤ 9 * 1
    have := h p (.head _)
    omega
  | p :: q :: r, h => by
    show (p ++ ([s] ++ joinN [s] (q :: r))).length ≤ _
    have ih := join_len (s := s) (I := q :: r) fun z m => h z (.tail _ m)
    have := h p (.head _)
    simp only [List.length_append, List.length_cons, List.length_nil] at ih ⊢
    omega
/-! ### rules of all pages: their ports -/
theorem in_strsT {k : Nat} {z : List Nat} {S : List (List Nat)} (h : Tx k z) (hz : ∀ w ∈ S, Tx 1000 w) : inP (.str z) (.tup (S.map .str)) = some (decide (z ∈ S)) := by
  have e : inP (.str z) (.tup (S.map .str)) = match toPy (.str z), toPy (.tup (S.map .str)) with
    | some x, some (.tuple ys) => if SeqAt.shaped x && SeqAt.shaped (.tuple ys) then some (ys.any fun z => PyData.eqv z x) else none
    | _, _ => none := by
    unfold inP
    split
    · rename_i q; cases q
    · rename_i q; cases q
    · rename_i ds _ q; cases q; rfl
    · rename_i q1 q2 q3; first | exact absurd rfl (q1 _) | exact absurd rfl (q2 _) | exact absurd rfl (q3 _)
  rw [e, toPy, toPy, toPyL_strs]
  simp only [Option.map_some, shaped_str h, (shaped_strs hz).2, Bool.and_self, if_true, any_strs]
theorem ix_zero {c : Nat} {r : List Nat} : ixD (.str (c :: r)) (.int 0) = some (.str [c]) := by
  unfold ixD L2.atI
  simp only [ixN_ok (n := (c :: r).length) (i := 0) (Int.le_refl 0) (by simp)]
  rfl
def PNs : List Str := ["text", "level", "head", "tail", "gap"]
def ptF (x : List Nat) (lv : D) (h t : List (List Nat)) (g : Bool) : List D := [.str x, lv, .tup (h.map .str), .tup (t.map .str), .bl g]
/-- a rule's host part: its name, near, host -/
inductive NmK : List Nat → D → D → Prop
  | near {A : List (List Nat)} (h0 : A ≠ []) (hl : A.length ≤ 4) (hA : ∀ z ∈ A, isLab 20 z = true) : NmK (126 :: joinN [46] A) (.tup (A.map .str)) .non
  | host {I h t : List (List Nat)} {g : Bool} (p : PatI 1 4 3 2 I.reverse h t g) (h0 : I ≠ []) (hl : I.length ≤ 10) : NmK (joinN [46] I) .non (.ins "HostPattern" PNs (ptF (joinN [46] I) c_HOST h t g))
theorem nm_len {nm : List Nat} {n h : D} (k : NmK nm n h) : nm.length ≤ 1000 := by
  cases k with
  | near h0 hl hA =>
    have hr : okRow _ = true := row_of (by omega) hA
    have e : ∀ {A : List (List Nat)}, (∀ z ∈ A, z.length ≤ 20) → (joinN [46] A).length ≤ 21 * A.length := by
      intro A
      induction A with
      | nil => intro _; exact Nat.zero_le _
      | cons z r ih =>
        intro h
        cases r with
        | nil =>
          show z.length ≤ 21 * 1
          have := h z (.head _)
          omega
        | cons q r =>
          show (z ++ ([46] ++ joinN [46] (q :: r))).length ≤ _
          have := ih fun z m => h z (.tail _ m)
          have := h z (.head _)
          simp only [List.length_append, List.length_cons, List.length_nil] at *
          omega
    have := e fun z m => (lab_tx (hA z m)).1
    simp only [List.length_cons]
    have hl' := hl
    omega
  | host p h0 hl =>
    have := join_len (s := 46) fun z m => it_len (pat_mem p z (by simpa using m))
    omega
theorem ch36 : CH.length = 36 := rfl
def Lab8 (zs : List (List Nat)) : Prop := zs ≠ [] ∧ zs.length ≤ 10 ∧ ∀ z ∈ zs, isLab 20 z = true
theorem all2_P {P : List Nat → Prop} : ∀ {ds rs : List D}, All2 (fun _ r => ∃ z, r = D.str z ∧ P z) ds rs → ∃ A : List (List Nat), rs = A.map .str ∧ A.length = ds.length ∧ ∀ z ∈ A, P z
  | [], [], _ => ⟨[], rfl, rfl, by simp⟩
  | [], _ :: _, h => by cases h
  | _ :: _, [], h => by cases h
  | d :: ds, r :: rs, h => by
    cases h with
    | cons h1 h2 =>
      obtain ⟨z, rfl, hz⟩ := h1
      obtain ⟨A, rfl, hl, hA⟩ := all2_P h2
      exact ⟨z :: A, rfl, by simp [hl], fun x m => by
        rcases List.mem_cons.mp m with rfl | m
        · exact hz
        · exact hA x m⟩
/-- what is drawn of hosts -/
inductive HpD : D → List Nat → D → D → Prop
  | near {A : List (List Nat)} (h0 : A ≠ []) (hl : A.length ≤ 4) (hA : ∀ z ∈ A, isLab 20 z = true) : HpD (.tup [.str [126], .tup (A.map .str)]) (126 :: joinN [46] A) (.tup (A.map .str)) .non
  | host {I h t : List (List Nat)} {g : Bool} (p : PatI 1 4 3 2 I.reverse h t g) (h0 : I ≠ []) (hl : I.length ≤ 10) : HpD (.tup [.str [], .lst (I.map .str)]) (joinN [46] I) .non (.ins "HostPattern" PNs (ptF (joinN [46] I) c_HOST h t g))
theorem HpD.nm {d : D} {nm : List Nat} {n h : D} (k : HpD d nm n h) : NmK nm n h := by
  cases k with
  | near h0 hl hA => exact .near h0 hl hA
  | host p h0 hl => exact .host p h0 hl
theorem sum_le8 {I : List (List Nat)} {k : Nat} (h : ∀ z ∈ I, z.length ≤ k) (hl : I.length ≤ 1000) (hk : k ≤ 100) : (I.map (·.length)).sum + I.length * 1 ≤ 16777216 := by
  have := sum_le h
  have : I.length * k ≤ 1000 * 100 := Nat.mul_le_mul hl hk
  omega
theorem HpD.join {d : D} {nm : List Nat} {n h : D} (k : HpD d nm n h) : ∃ p x r j, d = .tup [.str p, x] ∧ listD [x] = some r ∧ szL r = some r ∧ joinD (.str [46]) (.lst r) = some (.str j) ∧ nm = p ++ j ∧ p.length ≤ 1 ∧ j.length ≤ 1000 := by
  have hn := nm_len k.nm
  cases k with
  | @near A h0 hl hA =>
    refine ⟨[126], .tup (A.map .str), A.map .str, joinN [46] A, rfl, rfl, sz_ok (by rw [List.length_map]; omega), join_ok (sum_le8 (k := 20) (fun z m => (isLab_iff.mp (hA z m)).2.1) (by omega) (by omega)), rfl, by simp, ?_⟩
    simp only [List.length_cons] at hn
    omega
  | @host I h t g p h0 hl =>
    exact ⟨[], .lst (I.map .str), I.map .str, joinN [46] I, rfl, rfl, sz_ok (by rw [List.length_map]; omega), join_ok (sum_le8 (k := 8) (fun z m => it_len (pat_mem p z (by simpa using m))) (by omega) (by omega)), rfl, by simp, hn⟩
end FN
/-! ### own list += list; methods called with keywords; isinstance of two types -/
namespace DL
open PySem PySem.Spec PyProof.Rows L2
section
variable {X : Cx} {fx : Fx} {m : Type → Type} [Mo m] {G : List Sl} {α β : Type} {ss : List Stmt} {ex : α → List Sl} {exb : β → List Sl}
/-- a block whose mirror has a name -/
theorem pss_k {k k' : m (Fl α β)} (e : k = k') (h : PSs X ss (tS X.K X.mg fx G ex exb k')) : PSs X ss (tS X.K X.mg fx G ex exb k) := by
  rw [e]
  exact h
end
end DL
/-! ### enumerate of a tuple -/
namespace DL
open PySem PySem.Spec PyProof.Rows L2
theorem en_new {v : Value} {ob : Obj} {Hq : Heap → Prop} (B : Begins v ob Hq) : Meets (Builtin.«enumerate.__new__» ⟨[.type "enumerate", v], []⟩)
    (fun _ R z => Hq z.heap ∧ R (.ok (.ret (.ref (z.heap.push ob).objs.size))) { z with heap := (z.heap.push ob).push { cls := .type "enumerate", data := .fields #[.none, .bool false, .ref z.heap.objs.size, rawInt 0, .none, .none] } }) := .of_wp fun prog w A R z hz => by
  obtain ⟨hp, g, d, tk, os⟩ := z
  obtain ⟨z1, z2⟩ := hz
  have sube := sub_enumerate
  have qi : ∀ {A' : Around} {E Q : Value → Shared → Prop}, Q (.ref hp.objs.size) ⟨hp.push ob, g, d, tk, os⟩ → wpAny (model prog w) A' (pyIter v) Q E ⟨hp, g, d, tk, os⟩ := fun q => B.iter prog w _ _ ⟨hp, g, d, tk, os⟩ _ z1 q
  wp_walk using qi
  refine wpAny_stack_any (fun _ => wpAny_pure ?_)
  split
  · rename_i cc _ _ _ _ _
    cases (cc == Value.type "enumerate") <;> (wp_walk using qi; exact ⟨_, rfl, z2⟩)
  · (wp_walk using qi; exact ⟨_, rfl, z2⟩)
theorem en_call {P : Program} {w : World} {A : Around} {E : Value → Shared → Prop} {s : Shared} {v : Value} {ob : Obj} {Hq : Heap → Prop} {Q : Value → Shared → Prop} (B : Begins v ob Hq) (h1 : Hq s.heap)
    (hc : ∀ hh, IsEnum hh (s.heap.objs.size + 1) s.heap.objs.size 0 .none → hh.get? s.heap.objs.size = some ob → (∀ b u, s.heap.get? b = some u → hh.get? b = some u) → Q (.ref (s.heap.objs.size + 1)) { s with heap := hh }) :
    wpAny (model P w) A (call (.type "enumerate") [v]) Q E s := by
  refine callType_new F.called_enumerate (by decide) (F.typeCall_enumerate_1 _) (F.newCall_enumerate_1 _) (fun ox => F.args_object_init_2 ox _) F.entry_enumerate_new (en_new B) ⟨h1, ?_⟩
  have sz : (s.heap.push ob).objs.size = s.heap.objs.size + 1 := Heap.size_push ..
  show _ ∧ _
  rw [sz]
  have hen : IsEnum ((s.heap.push ob).push { cls := .type "enumerate", data := .fields #[.none, .bool false, .ref s.heap.objs.size, rawInt 0, .none, .none] }) (s.heap.objs.size + 1) s.heap.objs.size 0 .none := by
    have q := Heap.get?_push_size (s.heap.push ob) (o := { cls := .type "enumerate", data := .fields #[.none, .bool false, .ref s.heap.objs.size, rawInt 0, .none, .none] }) rfl
    rw [sz] at q
    exact q
  exact ⟨⟨_, hen, rfl⟩, hc _ hen (Heap.get?_push_of_some _ (Heap.get?_push_size _ B.free)) fun b u z => Heap.get?_push_of_some _ (Heap.get?_push_of_some _ z)⟩
/-- the tuple at a, each item in a new pair -/
def IteT (K : PySem.W.Frag) (a : Addr) : It where
  go := fun i H => ∃ xs x, SqT K H a xs ∧ (xs : List V)[i]? = some x
  yld := fun i H v H' => ∃ q x, v = .ref q ∧ H q = none ∧ H' = upd H q (.tup [.int (i : Nat), x]) ∧ ∀ ys, SqT K H a ys → ys[i]? = some x
  stop := fun i H => ∃ xs, SqT K H a xs ∧ (xs : List V).length ≤ i
theorem turn_enT {P : Program} {w : World} {K : PySem.W.Frag} {elts : List Expr} {kk : Nat} {tpos : Pos} (a e it : Addr) :
    Turn P w K (.Tuple elts kk tpos) (IteT K a) [e, it] e (fun i h => (∃ old, IsEnum h e it ((i : Nat) : Int) old) ∧ h.IsTupleIter it a i ∧ e ≠ it ∧ e ≠ a ∧ a ≠ it) where
  mem := List.mem_cons_self ..
  obj := fun i h st b hb => by
    obtain ⟨⟨old, he⟩, ⟨o, ho, hc, hd⟩, _⟩ := st
    rcases (show b = e ∨ b = it by simpa using hb) with z | z
    · subst z; exact ⟨_, he, fun v q => nomatch q⟩
    · subst z; exact ⟨o, ho, fun v q => by rw [hd] at q; cases q⟩
  keep := fun i h h' st k => by
    obtain ⟨⟨old, he⟩, hi, n1⟩ := st
    exact ⟨⟨old, k e (by simp) _ he⟩, hi.at fun o q => k it (by simp) o q, n1⟩
  item := by
    intro X hP hw hK hc i pins s σ H E I hf st hg
    subst hP hw hK
    obtain ⟨⟨old, he⟩, hit, ne1, ne2, ne3⟩ := st
    obtain ⟨xs, x, hq, hx⟩ := hg
    obtain ⟨us, rv, p, hz⟩ := I.tuple hq
    obtain ⟨u, hu, ru⟩ := rv.get hx
    have pt : s.heap.IsTuple a us.toArray := p
    have le : e < s.heap.objs.size := Heap.lt_size he
    have lt : it < s.heap.objs.size := by obtain ⟨_, q, _⟩ := hit; exact Heap.lt_size q
    have D := Draws.tuple (prog := X.prog) (w := X.w) (A := X.A.in1) (I.ok.hd hc) it a ne3 us.toArray
    have hlt : i < us.toArray.size := by
      have := (List.getElem?_eq_some_iff.mp hu).1
      simpa using this
    refine wpAny_pyNext_enum_itemD D he ⟨hit, pt⟩ hlt ne1 (by simp [ne1, ne2]) fun y hh tk hy ho hst hT hsz hk => ?_
    have ey : y = u := by
      have q : us.toArray[i]? = some y := hy
      rw [show us.toArray[i]? = us[i]? by simp, hu] at q
      exact (Option.some.inj q).symm
    subst ey
    refine ⟨_, rfl, wpAny_letOwnedTupleGo_enum (s := { s with heap := hh, toks := tk + 1 }) ho fun h2 he2 sb => ?_⟩
    have keep : ∀ b o, b ≠ e → b ≠ it → s.heap.get? b = some o → h2.get? b = some o := fun b o z1 z2 q => (sb.2 b z1).trans (hk b o z1 z2 q)
    have hT2 : h2.get? s.heap.objs.size = some { cls := .type "tuple", data := .seq #[.int i tk, y] } := (sb.2 _ (Nat.ne_of_gt le)).trans hT
    have ok : ObjOk X.prog X.w (upd H s.heap.objs.size (.tup [.int (i : Nat), x])) h2 s.heap.objs.size (.tup [.int (i : Nat), x]) := ⟨(by show 2 ≤ sizeLine; decide), [.int i tk, y], .cons ⟨_, rfl⟩ (.cons ru .nil), ⟨_, hT2, rfl, _, rfl⟩⟩
    have I1 : L2.Inv X pins σ (upd H s.heap.objs.size (.tup [.int (i : Nat), x])) { s with heap := h2, toks := tk + 1 } := I.turnedNew (ch := [e, it]) (fun b o hb q => keep b o (fun z => hb (by simp [z])) (fun z => hb (by simp [z])) q) hf (Nat.le_refl _) ok
    refine ⟨.ref s.heap.objs.size, _, I1, rfl, ⟨_, x, rfl, I.hok.fresh (Nat.le_refl _), rfl, fun ys hy => (I.tuple_inj hy hq).symm ▸ hx⟩, ⟨⟨y, ?_⟩, hst.1.at fun o q => (sb.2 it (Ne.symm ne1)).trans q, ne1, ne2, ne3⟩, fun b hb => ?_⟩
    · rw [show (((i + 1 : Nat)) : Int) = (i : Int) + 1 by omega]
      exact he2
    · have lb : b < s.heap.objs.size := by
        rcases (show b = e ∨ b = it by simpa using hb) with z | z
        · exact z ▸ le
        · exact z ▸ lt
      rw [upd_ne (Nat.ne_of_lt lb)]
      exact (hf b hb).1
  done := by
    intro X hP hw hK hc i pins s σ H E I hf st hg
    subst hP hw hK
    obtain ⟨⟨old, he⟩, hit, ne1, ne2, ne3⟩ := st
    obtain ⟨xs, hq, hx⟩ := hg
    obtain ⟨us, rv, p, hz⟩ := I.tuple hq
    have pt : s.heap.IsTuple a us.toArray := p
    have ll := rv.length
    obtain ⟨f0, f1, f2, f3, f4, f5⟩ := hf it (by simp)
    -- the tuple's iterator at its end, wherever its place is
    have D : Draws X.prog X.w X.A.in1 it [it, a] i (fun _ _ => True) (fun j h => j = i ∧ h.IsTupleIter it a j ∧ h.IsTuple a us.toArray) :=
      { live := fun _ _ q => let ⟨o, ho, _⟩ := q.2.1; ⟨o, ho⟩
        frame := fun _ _ _ q hk => ⟨q.1, q.2.1.at fun o z => hk it (by simp) o z, q.2.2.at fun o z => hk a (by simp) o z⟩
        item := fun j z Q E hj q hQ => absurd q.1 (Nat.ne_of_lt hj)
        done := fun z Q E q hE => wpAny_nextOf_tuple_end (I.ok.hd hc) q.2.1 q.2.2 (by simp; omega) hE }
    exact wpAny_pyNext_enum_endD D he ⟨rfl, hit, pt⟩ fun hh eb => ⟨rfl, I.turned (t' := s.toks) (fun b o hb q => eb b o hb q) f0 f1 f3 f4 f5⟩
  self := fun A i s Q E st h => by
    obtain ⟨⟨_, he⟩, _⟩ := st
    exact wpAny_pyIter_enum he h
theorem pi_enT {X : Cx} {e : Expr} {ta : TA} {p pos tpos : Pos} {elts : List Expr} {kk : Nat} (hg : Gl X "enumerate") (hm : X.mg "enumerate" = none) (ha : PA X [e] ta) (hs : starEach [e] X.env = [(false, eval e X.env)] := by rfl) :
    PI X (.Tuple elts kk tpos) (.Call (.Name "enumerate" p) [e] [] pos) (fun σ H R => ta σ H fun vs H1 => ∃ a xs, vs = [.ref a] ∧ SqT X.K H1 a xs ∧ R (IteT X.K a) H1) := by
  constructor
  intro pins s σ H R I h
  refine Call_ (ld_blt I hg hm boot_enumerate (PyProof.Rows.callWith_type1 (thn (ha.run pos pins s σ H _ I h) fun us s1 ⟨vs, H1, I1, r1, a, xs, ev, hq, q⟩ => ?_) hs rfl))
  subst ev
  obtain ⟨u, ur, eu, ru⟩ : ∃ u ur, us = u :: ur ∧ RelV (.ref a) u ∧ ur = [] := by
    cases r1 with
    | cons r rr => cases rr; exact ⟨_, _, rfl, r, rfl⟩
  obtain ⟨ru, eur⟩ := ru
  subst eu eur
  cases (show u = Value.ref a from ru)
  obtain ⟨its, rv, pt, hz⟩ := I1.tuple hq
  have pt' : s1.heap.IsTuple a its.toArray := pt
  have la : a < s1.heap.objs.size := by obtain ⟨_, z, _⟩ := pt'; exact Heap.lt_size z
  refine en_call (begins_tuple a its.toArray) pt' fun hh he hit hk => wpAny_pyIter_enum he ?_
  have I2 : L2.Inv X pins σ H1 { s1 with heap := hh } := I1.kept (t' := s1.toks) hk
  refine ⟨s1.heap.objs.size + 1, [s1.heap.objs.size + 1, s1.heap.objs.size], _, _, H1, rfl, I2, turn_enT a (s1.heap.objs.size + 1) s1.heap.objs.size, ⟨⟨.none, he⟩, ⟨_, hit, rfl, rfl⟩, Nat.succ_ne_self _, Nat.ne_of_gt (Nat.lt_succ_of_lt la), Nat.ne_of_lt la⟩, fun b hb => ?_, q⟩
  have hle : s1.heap.objs.size ≤ b := by
    rcases (show b = s1.heap.objs.size + 1 ∨ b = s1.heap.objs.size by simpa using hb) with z | z
    · exact z ▸ Nat.le_add_right _ _
    · exact z ▸ Nat.le_refl _
  exact I1.fpOk hle (I1.hok.fresh hle)
def enumT : List D → Option (List D)
  | [.tup ds] => some (enumL ds)
  | _ => none
section
variable {K : PySem.W.Frag} {mg : Str → Option Value}
theorem yl_enT {Hf : Hp} {ds : List D} {a : Addr} {vs : List V} (hz : ds.length ≤ sizeLine) (h : SqT K Hf a vs) (l : IsL K mg Hf ds vs) : Yl K mg (IteT K a) Hf (enumL ds) := by
  refine ⟨by simpa [enumL] using hz, fun Hf2 H s1 s2 i => ⟨fun d hd => ?_, fun hl => ⟨vs, s2.sqt (s1.sqt h), by rw [← l.len]; simpa [enumL] using hl⟩⟩⟩
  have hi : i < ds.length := by
    have q := (List.getElem?_eq_some_iff.mp hd).1
    simpa [enumL] using q
  have ed : d = .tup [.int (i : Int), ds[i]] := by
    rw [enumL, List.getElem?_mapIdx, List.getElem?_eq_getElem hi] at hd
    exact (Option.some.inj hd).symm
  obtain ⟨v, hv, iv⟩ := l.get (List.getElem?_eq_getElem hi)
  refine ⟨⟨vs, v, s2.sqt (s1.sqt h), hv⟩, fun x H' ⟨q, y, e1, hq, e2, f⟩ => ?_⟩
  have ey := f vs (s2.sqt (s1.sqt h))
  rw [hv] at ey
  cases ey
  subst e1 e2 ed
  exact ⟨upd Hf2 q (.tup [.int (i : Nat), v]), .new s2 hq, (by show 2 ≤ sizeLine; decide), q, _, rfl, .inl (.inl upd_same), .cons (is_int _) (.cons ((iv.mono s1).mono (Ste.new (bag := []) s2 hq).sub) .nil)⟩
end
section
variable {X : Cx} {fx : Fx} {m : Type → Type} [Mo m] {G : List Sl} {a : Expr} {ys : m (List D)} {p pos tpos : Pos} {elts : List Expr} {k : Nat}
theorem di_enumT (hg : Gl X "enumerate") (hm : X.mg "enumerate" = none) (ha : PA X [a] (tA X.K X.mg fx G ys)) (hs : starEach [a] X.env = [(false, eval a X.env)] := by rfl) :
    PI X (.Tuple elts k tpos) (.Call (.Name "enumerate" p) [a] [] pos) (tI X.K X.mg fx G (do let ds ← ys; ask (enumT ds))) := piI (pi_enT hg hm ha hs) fun σ H Q ⟨Hf, s, h⟩ => (h.bind.mono fun v H1 ⟨d, Hf1, s1, sb, r, h1⟩ => by
  obtain ⟨ds, e, q⟩ := h1.ask
  unfold enumT at e
  split at e
  · rename_i es
    obtain ⟨v1, r1, rfl, ⟨hz, a', vs, rfl, t, il⟩, rfl⟩ := r
    exact ⟨a', vs, rfl, h1.1.top.sqt t, q _ Hf1 H1 (.refl h1.1.top) (Option.some.inj e ▸ yl_enT hz t il)⟩
  · cases e).to
end
end DL
/-! ### rules and rows: mirrors, what fits (k40, k42, k43) -/
namespace FN
open DL PySem PySem.W
/-! ### labels and rows that patterns match -/
theorem beq_eq (a b : List Nat) : (a == b) = decide (a = b) := by
  rw [Bool.eq_iff_iff]
  simp
theorem starts_eq (a b : List Nat) : PySem.Txt.startswith ⟨a.toArray⟩ ⟨b.toArray⟩ = (decide (b.length ≤ a.length) && decide (a.take b.length = b)) := by
  unfold PySem.Txt.startswith
  rw [StrLaws.subAt_eq]
  simp [Str.length]
  rw [beq_eq]
theorem notin_L {k : Nat} {z : List Nat} {S : List (List Nat)} (h : Tx k z) (hz : ∀ w ∈ S, Tx 1000 w) : (notInD (.str z) (.lst (S.map .str))).bind bOf = some (!decide (z ∈ S)) := by
  have e := in_strs h hz
  unfold inD at e
  unfold notInD
  cases q : inP (.str z) (.lst (S.map .str)) with
  | none => rw [q] at e; cases e
  | some b =>
    rw [q] at e
    cases e
    rfl
theorem strs_map : ∀ A : List (List Nat), strsOf (A.map D.str) = some A
  | [] => rfl
  | z :: r => by
    show (strsOf (r.map D.str)).map (z :: ·) = _
    rw [strs_map r]
    rfl
/-! ### hosts, backwards -/
theorem chain_ii {a b c : Int} : (chainM leD leD (pure (.int a)) (pure (.int b)) (pure (.int c)) : R D) = .ok (.bl (decide (a ≤ b) && decide (b ≤ c))) := by
  unfold chainM
  simp only [le_l, askR, pure_bind]
  cases h : decide (a ≤ b)
  · rfl
  · rfl
def Labs (R : List (List Nat)) : Prop := ∀ z ∈ R, isLab 20 z = true
end FN
/-! ### tables and groups: mirrors (k40, k42) -/
namespace FN
open DL PySem PySem.W
def c_EXCEPTION : D := (.str [101, 120, 99, 101, 112, 116, 105, 111, 110])
def c_MOST_LABELS_OF_ROW : D := (.int (3))
def c_MOST_ROWS : D := (.int (8))
def c_PLAIN : D := (.str [112, 108, 97, 105, 110])
def c_WILD : D := (.str [111, 112, 101, 110])
def b_ends_with_d715 (a0 a1 : D) : R (Fl Unit Empty) := (do let v24 ← (andV (do let x7 ← (do let r3 ← (do let x1 ← (pure a0); let r2 ← pure []; pure (x1 :: r2)); DL.ask (lenD r3)); let y8 ← (do let r6 ← (do let x4 ← (pure a1); let r5 ← pure []; pure (x4 :: r5)); DL.ask (lenD r6)); DL.ask (geD x7 y8)) (do let x22 ← (do let x19 ← (pure a0); let l20 ← (do let x17 ← (do let x15 ← (do let r11 ← (do let x9 ← (pure a0); let r10 ← pure []; pure (x9 :: r10)); DL.ask (lenD r11)); let y16 ← (do let r14 ← (do let x12 ← (pure a1); let r13 ← pure []; pure (x12 :: r13)); DL.ask (lenD r14)); DL.ask (subD x15 y16)); let i18 ← DL.ask (intOf x17); pure (some i18)); let u21 ← (pure none); DL.ask (sliceD x19 l20 u21)); let y23 ← (pure a1); DL.ask (eqD x22 y23))); pure (.rt v24))
theorem e_ends_with_d715 (a0 a1 : D) : b_ends_with_d715 a0 a1 = (do let v24 ← (andV (do let x7 ← (DL.ask (lenD [a0])); let y8 ← (DL.ask (lenD [a1])); DL.ask (geD x7 y8)) (do let x15 ← (DL.ask (lenD [a0])); let y16 ← (DL.ask (lenD [a1])); let x17 ← (DL.ask (subD x15 y16)); let i18 ← DL.ask (intOf x17); let x22 ← (DL.ask (sliceD a0 (some i18) none)); DL.ask (eqD x22 a1))); pure (.rt v24)) := by
  unfold b_ends_with_d715; simp only [pure_bind, bind_assoc, mkL]
def m_ends_with_d715 : List D → R D := apR2 fun a0 a1 => (runR false (b_ends_with_d715 a0 a1))
theorem n_ends_with_d715 : ∀ ds : List D, m_ends_with_d715 ds ≠ .stuck → ds.length = 2 := apR2_len _
def b_parsed_row_b892 (a0 : D) : R (Fl Unit Empty) := (do let t76 ← (DL.notM (do let x2 ← (do let x1 ← (pure a0); DL.ask (isiD "str" x1)); DL.ask (truD x2))); seqF (if t76 = true then (do let v4 ← (pure .non); pure (.rt v4)) else (pure (.nx ()))) fun (q3 : Unit) => (do let v5 ← (do let r15 ← (do let x13 ← (pure c_PLAIN); let r14 ← (do let x11 ← (pure a0); let r12 ← (do let x9 ← (pure (.int 1)); let r10 ← (do let x7 ← (pure c_MOST_LABELS_OF_ROW); let r8 ← pure []; pure (x7 :: r8)); pure (x9 :: r10)); pure (x11 :: r12)); pure (x13 :: r14)); let r16 ← DL.ask (szL r15); pure (.tup r16)); let c6 ← DL.ask ((unN 4) v5); (do let t75 ← (do let x19 ← (do let x17 ← (pure a0); let _ ← DL.ask (strOf x17); let y18 ← (pure (.str [33])); DL.ask (strM (fun a b => .bl (PySem.Txt.startswith ⟨a.toArray⟩ ⟨b.toArray⟩)) x17 y18)); DL.ask (truD x19)); seqF (if t75 = true then (do let v27 ← (pure c_EXCEPTION); let v28 ← (do let x24 ← (pure a0); let l25 ← (do let x22 ← (pure (.int 1)); let i23 ← DL.ask (intOf x22); pure (some i23)); let u26 ← (pure none); DL.ask (sliceD x24 l25 u26)); let v29 ← (pure (.int 2)); (pure (.nx (v27, v28, v29, (c6.getD 3 .non))))) else (do let t45 ← (do let x32 ← (do let x30 ← (pure a0); let _ ← DL.ask (strOf x30); let y31 ← (pure (.str [42, 46])); DL.ask (strM (fun a b => .bl (PySem.Txt.startswith ⟨a.toArray⟩ ⟨b.toArray⟩)) x30 y31)); DL.ask (truD x32)); seqF (if t45 = true then (do let v42 ← (pure c_WILD); let v43 ← (do let x37 ← (pure a0); let l38 ← (do let x35 ← (pure (.int 2)); let i36 ← DL.ask (intOf x35); pure (some i36)); let u39 ← (pure none); DL.ask (sliceD x37 l38 u39)); let v44 ← (do let x40 ← (pure c_MOST_LABELS_OF_ROW); let y41 ← (pure (.int 1)); DL.ask (subD x40 y41)); (pure (.nx (v42, v43, v44)))) else (pure (.nx ((c6.getD 0 .non), (c6.getD 1 .non), (c6.getD 3 .non))))) fun (q33 : D × D × D) => (pure (.nx (q33.1, q33.2.1, (c6.getD 2 .non), q33.2.2))))) fun (q20 : D × D × D × D) => (do let v46 ← (do let r51 ← (do let x49 ← (mkL (do let x47 ← (pure q20.2.1); let _ ← DL.ask (strOf x47); let y48 ← (pure (.str [46])); DL.ask (splitD x47 y48))); let r50 ← pure []; pure (x49 :: r50)); DL.ask (tupleD r51)); (do let t74 ← (DL.orM (DL.notM (do let x55 ← (chainM leD leD (pure q20.2.2.1) (do let r54 ← (do let x52 ← (pure v46); let r53 ← pure []; pure (x52 :: r53)); DL.ask (lenD r54)) (pure q20.2.2.2)); DL.ask (bOf x55))) (do let x64 ← (mkL (do let r63 ← (do let r56 ← (pure v46); DL.ask (itD r56)); lcF (fun d => some d) (fun (c58 : D) => (DL.notM (do let x62 ← (do let r61 ← (do let x59 ← (pure c58); let r60 ← pure []; pure (x59 :: r60)); Mo.lift (m_is_label_344b r61)); DL.ask (truD x62)))) (fun (c58 : D) => (pure c58)) r63)); DL.ask (truD x64))); seqF (if t74 = true then (do let v66 ← (pure .non); pure (.rt v66)) else (pure (.nx ()))) fun (q65 : Unit) => (do let v73 ← (do let r71 ← (do let x69 ← (pure q20.1); let r70 ← (do let x67 ← (pure v46); let r68 ← pure []; pure (x67 :: r68)); pure (x69 :: r70)); let r72 ← DL.ask (szL r71); pure (.tup r72)); pure (.rt v73)))))))
theorem e_parsed_row_b892 (a0 : D) : b_parsed_row_b892 a0 = (do let t76 ← (DL.notM (do let x2 ← (DL.ask (isiD "str" a0)); DL.ask (truD x2))); seqF (if t76 = true then (pure (.rt .non)) else (pure (.nx ()))) fun (q3 : Unit) => (do let r16 ← DL.ask (szL [c_PLAIN, a0, (.int 1), c_MOST_LABELS_OF_ROW]); let c6 ← DL.ask ((unN 4) (.tup r16)); let _ ← DL.ask (strOf a0); let x19 ← (DL.ask (strM (fun a b => .bl (PySem.Txt.startswith ⟨a.toArray⟩ ⟨b.toArray⟩)) a0 (.str [33]))); let t75 ← (DL.ask (truD x19)); seqF (if t75 = true then (do let i23 ← DL.ask (intOf (.int 1)); let v28 ← (DL.ask (sliceD a0 (some i23) none)); (pure (.nx (c_EXCEPTION, v28, (.int 2), (c6.getD 3 .non))))) else (do let _ ← DL.ask (strOf a0); let x32 ← (DL.ask (strM (fun a b => .bl (PySem.Txt.startswith ⟨a.toArray⟩ ⟨b.toArray⟩)) a0 (.str [42, 46]))); let t45 ← (DL.ask (truD x32)); seqF (if t45 = true then (do let i36 ← DL.ask (intOf (.int 2)); let v43 ← (DL.ask (sliceD a0 (some i36) none)); let v44 ← (DL.ask (subD c_MOST_LABELS_OF_ROW (.int 1))); (pure (.nx (c_WILD, v43, v44)))) else (pure (.nx ((c6.getD 0 .non), (c6.getD 1 .non), (c6.getD 3 .non))))) fun (q33 : D × D × D) => (pure (.nx (q33.1, q33.2.1, (c6.getD 2 .non), q33.2.2))))) fun (q20 : D × D × D × D) => (do let _ ← DL.ask (strOf q20.2.1); let x49 ← (DL.ask (splitD q20.2.1 (.str [46]))); let v46 ← (DL.ask (tupleD [(.lst x49)])); let t74 ← (DL.orM (DL.notM (do let x55 ← (chainM leD leD (pure q20.2.2.1) (DL.ask (lenD [v46])) (pure q20.2.2.2)); DL.ask (bOf x55))) (do let r63 ← (DL.ask (itD v46)); let x64 ← (lcF (fun d => some d) (fun (c58 : D) => (DL.notM (do let x62 ← (Mo.lift (m_is_label_344b [c58])); DL.ask (truD x62)))) (fun (c58 : D) => (pure c58)) r63); DL.ask (truD (.lst x64)))); seqF (if t74 = true then (pure (.rt .non)) else (pure (.nx ()))) fun (q65 : Unit) => (do let r72 ← DL.ask (szL [q20.1, v46]); pure (.rt (.tup r72)))))) := by
  unfold b_parsed_row_b892; simp only [pure_bind, bind_assoc, mkL]
def m_parsed_row_b892 : List D → R D := apR1 fun a0 => (runR false (b_parsed_row_b892 a0))
theorem n_parsed_row_b892 : ∀ ds : List D, m_parsed_row_b892 ds ≠ .stuck → ds.length = 1 := apR1_len _
def b_ending_size_5148 (a0 a1 : D) : R (Fl Unit Empty) := (do let v1 ← (do let r7 ← (do let x5 ← (pure (.int 1)); let r6 ← (do let x3 ← (pure (.int 0)); let r4 ← pure []; pure (x3 :: r4)); pure (x5 :: r6)); let r8 ← DL.ask (szL r7); pure (.tup r8)); let c2 ← DL.ask (un2 v1); (do let r73 ← (do let r9 ← (pure a0); DL.ask (itD r9)); seqF (forF un2 (fun (q10 : D × D) (c11 : D × D) => (do let t66 ← (DL.notM (do let x17 ← (do let r16 ← (do let x14 ← (pure a1); let r15 ← (do let x12 ← (pure c11.2); let r13 ← pure []; pure (x12 :: r13)); pure (x14 :: r15)); Mo.lift (m_ends_with_d715 r16)); DL.ask (truD x17))); seqF (if t66 = true then (pure (.ct (q10.1, q10.2))) else (pure (.nx ()))) fun (q18 : Unit) => (do let t65 ← (do let x19 ← (pure c11.1); let y20 ← (pure c_EXCEPTION); DL.ask ((eqD x19 y20).bind bOf)); seqF (if t65 = true then (do let v22 ← (do let r30 ← (do let x28 ← (pure q10.2); let r29 ← (do let x26 ← (do let r25 ← (do let x23 ← (pure c11.2); let r24 ← pure []; pure (x23 :: r24)); DL.ask (lenD r25)); let r27 ← pure []; pure (x26 :: r27)); pure (x28 :: r29)); DL.ask (maxD r30)); (pure (.nx (q10.1, v22)))) else (do let t64 ← (do let x31 ← (pure c11.1); let y32 ← (pure c_PLAIN); DL.ask ((eqD x31 y32).bind bOf)); seqF (if t64 = true then (do let v34 ← (do let r42 ← (do let x40 ← (pure q10.1); let r41 ← (do let x38 ← (do let r37 ← (do let x35 ← (pure c11.2); let r36 ← pure []; pure (x35 :: r36)); DL.ask (lenD r37)); let r39 ← pure []; pure (x38 :: r39)); pure (x40 :: r41)); DL.ask (maxD r42)); (pure (.nx v34))) else (do let t63 ← (do let x49 ← (do let r45 ← (do let x43 ← (pure a1); let r44 ← pure []; pure (x43 :: r44)); DL.ask (lenD r45)); let y50 ← (do let r48 ← (do let x46 ← (pure c11.2); let r47 ← pure []; pure (x46 :: r47)); DL.ask (lenD r48)); DL.ask ((gtD x49 y50).bind bOf)); seqF (if t63 = true then (do let v52 ← (do let r62 ← (do let x60 ← (pure q10.1); let r61 ← (do let x58 ← (do let x56 ← (do let r55 ← (do let x53 ← (pure c11.2); let r54 ← pure []; pure (x53 :: r54)); DL.ask (lenD r55)); let y57 ← (pure (.int 1)); DL.ask (addD x56 y57)); let r59 ← pure []; pure (x58 :: r59)); pure (x60 :: r61)); DL.ask (maxD r62)); (pure (.nx v52))) else (pure (.nx q10.1))) fun (q51 : D) => (pure (.nx q51)))) fun (q33 : D) => (pure (.nx (q33, q10.2))))) fun (q21 : D × D) => (pure (.nx (q21.1, q21.2)))))) r73 (c2.1, c2.2)) fun (q67 : D × D) => (do let v72 ← (iteM (do let x68 ← (pure q67.2); let y69 ← (pure (.int 0)); DL.ask ((gtD x68 y69).bind bOf)) (do let x70 ← (pure q67.2); let y71 ← (pure (.int 1)); DL.ask (subD x70 y71)) (pure q67.1)); pure (.rt v72))))
theorem e_ending_size_5148 (a0 a1 : D) : b_ending_size_5148 a0 a1 = (do let r8 ← DL.ask (szL [(.int 1), (.int 0)]); let c2 ← DL.ask (un2 (.tup r8)); let r73 ← (DL.ask (itD a0)); seqF (forF un2 (fun (q10 : D × D) (c11 : D × D) => (do let t66 ← (DL.notM (do let x17 ← (Mo.lift (m_ends_with_d715 [a1, c11.2])); DL.ask (truD x17))); seqF (if t66 = true then (pure (.ct (q10.1, q10.2))) else (pure (.nx ()))) fun (q18 : Unit) => (do let t65 ← (DL.ask ((eqD c11.1 c_EXCEPTION).bind bOf)); seqF (if t65 = true then (do let x26 ← (DL.ask (lenD [c11.2])); let v22 ← (DL.ask (maxD [q10.2, x26])); (pure (.nx (q10.1, v22)))) else (do let t64 ← (DL.ask ((eqD c11.1 c_PLAIN).bind bOf)); seqF (if t64 = true then (do let x38 ← (DL.ask (lenD [c11.2])); let v34 ← (DL.ask (maxD [q10.1, x38])); (pure (.nx v34))) else (do let x49 ← (DL.ask (lenD [a1])); let y50 ← (DL.ask (lenD [c11.2])); let t63 ← (DL.ask ((gtD x49 y50).bind bOf)); seqF (if t63 = true then (do let x56 ← (DL.ask (lenD [c11.2])); let x58 ← (DL.ask (addD x56 (.int 1))); let v52 ← (DL.ask (maxD [q10.1, x58])); (pure (.nx v52))) else (pure (.nx q10.1))) fun (q51 : D) => (pure (.nx q51)))) fun (q33 : D) => (pure (.nx (q33, q10.2))))) fun (q21 : D × D) => (pure (.nx (q21.1, q21.2)))))) r73 (c2.1, c2.2)) fun (q67 : D × D) => (do let v72 ← (iteM (DL.ask ((gtD q67.2 (.int 0)).bind bOf)) (DL.ask (subD q67.2 (.int 1))) (pure q67.1)); pure (.rt v72))) := by
  unfold b_ending_size_5148; simp only [pure_bind, bind_assoc, mkL]
def m_ending_size_5148 : List D → R D := apR2 fun a0 a1 => (runR false (b_ending_size_5148 a0 a1))
theorem n_ending_size_5148 : ∀ ds : List D, m_ending_size_5148 ds ≠ .stuck → ds.length = 2 := apR2_len _
def b_site_by_dd2e (a0 a1 : D) : R (Fl Unit Empty) := (do let v1 ← (do let r16 ← (do let x14 ← (do let r4 ← (do let x2 ← (pure a1); let r3 ← pure []; pure (x2 :: r3)); DL.ask (lenD r4)); let r15 ← (do let x12 ← (do let x10 ← (do let r9 ← (do let x7 ← (pure a0); let r8 ← (do let x5 ← (pure a1); let r6 ← pure []; pure (x5 :: r6)); pure (x7 :: r8)); Mo.lift (m_ending_size_5148 r9)); let y11 ← (pure (.int 1)); DL.ask (addD x10 y11)); let r13 ← pure []; pure (x12 :: r13)); pure (x14 :: r15)); DL.ask (minD r16)); (do let v27 ← (do let x24 ← (pure a1); let l25 ← (do let x22 ← (do let x20 ← (do let r19 ← (do let x17 ← (pure a1); let r18 ← pure []; pure (x17 :: r18)); DL.ask (lenD r19)); let y21 ← (pure v1); DL.ask (subD x20 y21)); let i23 ← DL.ask (intOf x22); pure (some i23)); let u26 ← (pure none); DL.ask (sliceD x24 l25 u26)); pure (.rt v27)))
theorem e_site_by_dd2e (a0 a1 : D) : b_site_by_dd2e a0 a1 = (do let x14 ← (DL.ask (lenD [a1])); let x10 ← (Mo.lift (m_ending_size_5148 [a0, a1])); let x12 ← (DL.ask (addD x10 (.int 1))); let v1 ← (DL.ask (minD [x14, x12])); let x20 ← (DL.ask (lenD [a1])); let x22 ← (DL.ask (subD x20 v1)); let i23 ← DL.ask (intOf x22); let v27 ← (DL.ask (sliceD a1 (some i23) none)); pure (.rt v27)) := by
  unfold b_site_by_dd2e; simp only [pure_bind, bind_assoc, mkL]
def m_site_by_dd2e : List D → R D := apR2 fun a0 a1 => (runR false (b_site_by_dd2e a0 a1))
theorem n_site_by_dd2e : ∀ ds : List D, m_site_by_dd2e ds ≠ .stuck → ds.length = 2 := apR2_len _
def b_Table_init_e784 (a1 : D) : R (Fl (List D) Empty) := (do let r52 ← (do let r1 ← (pure a1); DL.ask (itD r1)); seqF (forF (fun d => some d) (fun (q2 : Unit) (c3 : D) => (do let t11 ← (do let x7 ← (do let r6 ← (do let x4 ← (pure c3); let r5 ← pure []; pure (x4 :: r5)); Mo.lift (m_parsed_row_b892 r6)); let y8 ← (pure .non); DL.ask ((isD x7 y8).bind bOf)); seqF (if t11 = true then (do let v10 ← (pure c3); raiseX "BadRow" "row" v10) else (pure (.nx ()))) fun (q9 : Unit) => (pure (.nx ())))) r52 ()) fun (q12 : Unit) => (do let r51 ← (do let r15 ← (do let x13 ← (pure a1); let r14 ← pure []; pure (x13 :: r14)); DL.ask (enumT r15)); seqF (forF un2 (fun (q16 : Unit) (c17 : D × D) => (do let t27 ← (do let x23 ← (pure c17.2); let y24 ← (do let x20 ← (pure a1); let l21 ← (pure none); let u22 ← (do let x18 ← (pure c17.1); let i19 ← DL.ask (intOf x18); pure (some i19)); DL.ask (sliceD x20 l21 u22)); DL.ask ((inD x23 y24).bind bOf)); seqF (if t27 = true then (do let v26 ← (pure c17.2); raiseX "Twice" "name" v26) else (pure (.nx ()))) fun (q25 : Unit) => (pure (.nx ())))) r51 ()) fun (q28 : Unit) => (do let t50 ← (do let x32 ← (do let r31 ← (do let x29 ← (pure a1); let r30 ← pure []; pure (x29 :: r30)); DL.ask (lenD r31)); let y33 ← (pure c_MOST_ROWS); DL.ask ((gtD x32 y33).bind bOf)); seqF (if t50 = true then (Mo.lift R.stuck) else (pure (.nx ()))) fun (q34 : Unit) => (do let v35 ← (do let r38 ← (do let x36 ← (pure a1); let r37 ← pure []; pure (x36 :: r37)); DL.ask (tupleD r38)); (do let v39 ← (do let r49 ← (do let x47 ← (mkL (do let r46 ← (do let r40 ← (pure a1); DL.ask (itD r40)); lcF (fun d => some d) (fun (c42 : D) => pure true) (fun (c42 : D) => (do let r45 ← (do let x43 ← (pure c42); let r44 ← pure []; pure (x43 :: r44)); Mo.lift (m_parsed_row_b892 r45))) r46)); let r48 ← pure []; pure (x47 :: r48)); DL.ask (tupleD r49)); (pure (.nx [v35, v39])))))))
theorem e_Table_init_e784 (a1 : D) : b_Table_init_e784 a1 = (do let r52 ← (DL.ask (itD a1)); seqF (forF (fun d => some d) (fun (q2 : Unit) (c3 : D) => (do let x7 ← (Mo.lift (m_parsed_row_b892 [c3])); let t11 ← (DL.ask ((isD x7 .non).bind bOf)); seqF (if t11 = true then (raiseX "BadRow" "row" c3) else (pure (.nx ()))) fun (q9 : Unit) => (pure (.nx ())))) r52 ()) fun (q12 : Unit) => (do let r51 ← (DL.ask (enumT [a1])); seqF (forF un2 (fun (q16 : Unit) (c17 : D × D) => (do let i19 ← DL.ask (intOf c17.1); let y24 ← (DL.ask (sliceD a1 none (some i19))); let t27 ← (DL.ask ((inD c17.2 y24).bind bOf)); seqF (if t27 = true then (raiseX "Twice" "name" c17.2) else (pure (.nx ()))) fun (q25 : Unit) => (pure (.nx ())))) r51 ()) fun (q28 : Unit) => (do let x32 ← (DL.ask (lenD [a1])); let t50 ← (DL.ask ((gtD x32 c_MOST_ROWS).bind bOf)); seqF (if t50 = true then (Mo.lift R.stuck) else (pure (.nx ()))) fun (q34 : Unit) => (do let v35 ← (DL.ask (tupleD [a1])); let r46 ← (DL.ask (itD a1)); let x47 ← (lcF (fun d => some d) (fun (c42 : D) => pure true) (fun (c42 : D) => (Mo.lift (m_parsed_row_b892 [c42]))) r46); let v39 ← (DL.ask (tupleD [(.lst x47)])); (pure (.nx [v35, v39])))))) := by
  unfold b_Table_init_e784; simp only [pure_bind, bind_assoc, mkL]
def m_Table_init_e784 : List D → R (List D) := apI1 fun a1 => runI (b_Table_init_e784 a1)
end FN
/-! ### tables: what the site of a host is -/
namespace FN
open DL PySem PySem.W
/-- a loop that computes a fold -/
theorem for_fold {α β γ τ ι : Type} {u : D → Option γ} {xb : α → γ → R (Fl α α)} (f : ι → D) (P : ι → Prop) (enc : τ → α) (step : τ → ι → τ)
    (hs : ∀ s i, P i → ∃ c, u (f i) = some c ∧ (xb (enc s) c = .ok (.nx (enc (step s i))) ∨ xb (enc s) c = .ok (.ct (enc (step s i))))) :
    ∀ (is : List ι) (s : τ), (∀ i ∈ is, P i) → (forF u xb (is.map f) (enc s) : R (Fl α β)) = .ok (.nx (enc (is.foldl step s)))
  | [], s, _ => rfl
  | i :: is, s, h => by
    obtain ⟨c, hu, hx⟩ := hs s i (h i (.head _))
    have ih := for_fold (β := β) f P enc step hs is (step s i) fun j m => h j (.tail _ m)
    rw [List.map_cons, forF, hu, List.foldl_cons]
    rcases hx with hx | hx
    · show ((xb (enc s) c) >>= _) = _
      rw [hx]
      exact ih
    · show ((xb (enc s) c) >>= _) = _
      rw [hx]
      exact ih
theorem labs_tup {R : List (List Nat)} (h : Labs R) : nic 3 (.tup (R.map .str)) = true := by
  rw [nic_tup]
  exact nic_strs fun z m c k => (lab_tx (h z m)).2 c k
theorem eqT {A B : List (List Nat)} (hA : Labs A) (hB : Labs B) : eqD (.tup (A.map .str)) (.tup (B.map .str)) = some (.bl (decide (A = B))) := by
  rw [eq_nic (labs_tup hA) (labs_tup hB) (by omega) (by omega)]
  show some (D.bl (deqL (A.map .str) (B.map .str))) = _
  rw [deqL_strs]
theorem labs_drop {A : List (List Nat)} (n : Nat) (h : Labs A) : Labs (A.drop n) := fun z m => h z (List.mem_of_mem_drop m)
theorem lenT {A : List (List Nat)} : lenD [.tup (A.map D.str)] = some (.int (A.length : Int)) := by
  show some (D.int ((A.map D.str).length : Int)) = _
  rw [List.length_map]
def endsB (h A : List (List Nat)) : Bool := decide (A.length ≤ h.length) && decide (h.drop (h.length - A.length) = A)
theorem ge_l {i j : Int} : geD (.int i) (.int j) = some (.bl (decide (j ≤ i))) := rfl
theorem gt_l {i j : Int} : gtD (.int i) (.int j) = some (.bl (decide (j < i))) := rfl
theorem cut_back {A : List (List Nat)} {n : Nat} (h : n ≤ A.length) : cutL (A.map D.str) (some ((A.length : Int) - (n : Int))) none = (A.drop (A.length - n)).map D.str := by
  rw [cut_lo (by omega), List.map_drop]
  congr 1
  omega
theorem ends_ok {h A : List (List Nat)} (hh : Labs h) (hA : Labs A) : m_ends_with_d715 [.tup (h.map .str), .tup (A.map .str)] = .ok (.bl (endsB h A)) := by
  unfold m_ends_with_d715 apR2
  simp only [e_ends_with_d715, andV, lenT, askR, pure_bind, ge_l, tru_bl, sub_ii, int_of, slice_t]
  by_cases c : A.length ≤ h.length
  · have c' : ((A.length : Int) ≤ (h.length : Int)) := by omega
    simp only [decide_eq_true c', if_true, cut_back c, eqT (labs_drop _ hh) hA, askR, pure_bind, endsB, decide_eq_true c, Bool.true_and]
    rfl
  · have c' : ¬ ((A.length : Int) ≤ (h.length : Int)) := by omega
    simp only [decide_eq_false c', Bool.false_eq_true, if_false, endsB, decide_eq_false c, Bool.false_and, pure_bind]
    rfl
/-- the law's way to ask it: a slice from behind -/
theorem cut_neg {A : List (List Nat)} {n : Nat} (h : 1 ≤ n) : cutL (A.map D.str) (some (-(n : Int))) none = (A.drop (A.length - n)).map D.str := by
  unfold cutL
  have e1 : HT.sIx (A.map D.str).length (A.map D.str).length none = (A.map D.str).length := rfl
  have e2 : HT.sIx (A.map D.str).length 0 (some (-(n : Int))) = A.length - n := by
    show (if (-(n : Int)) < 0 then (-(n : Int) + ((A.map D.str).length : Int)).toNat else min (-(n : Int)).toNat (A.map D.str).length) = _
    rw [if_pos (by omega), List.length_map]
    omega
  rw [e1, e2, List.take_of_length_le (by rw [List.length_drop]; omega), List.map_drop]
/-! rows -/
inductive Kd | pl | wi | ex
abbrev Row := Kd × List (List Nat)
def kdD : Kd → D
  | .pl => c_PLAIN
  | .wi => c_WILD
  | .ex => c_EXCEPTION
def rowT : Row → List Nat
  | (.pl, A) => joinN [46] A
  | (.wi, A) => 42 :: 46 :: joinN [46] A
  | (.ex, A) => 33 :: joinN [46] A
def RowOk (r : Row) : Prop := Labs r.2 ∧ 1 ≤ r.2.length ∧ r.2.length ≤ 3 ∧ (r.1 = .wi → r.2.length ≤ 2) ∧ (r.1 = .ex → 2 ≤ r.2.length)
def rowD (r : Row) : D := .tup [kdD r.1, .tup (r.2.map .str)]
theorem labs_join {A : List (List Nat)} (h : Labs A) (hl : A.length ≤ 30) : (joinN [46] A).length ≤ 1000 := by
  have : ∀ {I : List (List Nat)}, (∀ z ∈ I, z.length ≤ 20) → (joinN [46] I).length ≤ 21 * I.length := by
    intro I
    induction I with
    | nil => intro _; simp [joinN]
    | cons a I ih =>
      intro hz
      have h1 := hz a (.head _)
      have h2 := ih fun z m => hz z (.tail _ m)
      cases I with
      | nil => simp only [joinN, List.length_cons, List.length_nil]; omega
      | cons b I =>
        simp only [joinN, List.length_append, List.length_cons, List.length_nil] at h2 ⊢
        omega
  have := this fun z m => (isLab_iff.mp (h z m)).2.1
  omega
theorem split_labs {A : List (List Nat)} (h : Labs A) (h0 : 1 ≤ A.length) (hl : A.length ≤ 30) : splitD (.str (joinN [46] A)) (.str [46]) = some (A.map .str) :=
  split_ok (by omega) (by decide) h (fun e => by rw [e] at h0; simp at h0) (by have := labs_join h hl; omega)
theorem no_bad {A : List (List Nat)} (h : Labs A) : (lcF (fun d => some d) (fun (c58 : D) => (DL.notM (do let x62 ← (Mo.lift (m_is_label_344b [c58])); DL.ask (truD x62)))) (fun (c58 : D) => (pure c58)) (A.map .str) : R (List D)) = .ok [] := by
  have := lcR (u := fun d => some d) (xt := fun (c58 : D) => (DL.notM (do let x62 ← (Mo.lift (m_is_label_344b [c58])); DL.ask (truD x62)) : R Bool)) (xe := fun (c58 : D) => (pure c58)) id (fun _ => false) id (A.map .str) (fun d _ => rfl) (fun d m => by
    obtain ⟨z, hz, rfl⟩ := List.mem_map.mp m
    have e : m_is_label_344b [.str z] = .ok (.bl (labD (.str z))) := is_label_ok (T := "str") rfl
    show (DL.notM (do let x62 ← (Mo.lift (m_is_label_344b [.str z])); DL.ask (truD x62)) : R Bool) = _
    rw [lift_pR, e, labD_str, h z hz]
    rfl) (fun d _ q => by cases q)
  exact this.trans (by rw [List.filter_eq_nil_iff.mpr (by simp)]; rfl)
theorem head_lab {A : List (List Nat)} (h : Labs A) (h0 : 1 ≤ A.length) : ∃ c r, joinN [46] A = c :: r ∧ c ∈ CH := by
  cases A with
  | nil => simp at h0
  | cons a A =>
    obtain ⟨h1, _, h3⟩ := isLab_iff.mp (h a (.head _))
    cases a with
    | nil => simp at h1
    | cons c a =>
      cases A with
      | nil => exact ⟨c, a, rfl, h3 c (.head _)⟩
      | cons b A => exact ⟨c, a ++ [46] ++ joinN [46] (b :: A), by simp [joinN], h3 c (.head _)⟩
theorem parsed_ok {r : Row} (h : RowOk r) : m_parsed_row_b892 [.str (rowT r)] = .ok (rowD r) := by
  obtain ⟨k, A⟩ := r
  obtain ⟨hA, h1, h2, h3, h4⟩ := h
  dsimp only at hA h1 h2 h3 h4
  have sp := split_labs hA h1 (by omega)
  have sz4 : ∀ a b c d : D, szL [a, b, c, d] = some [a, b, c, d] := fun _ _ _ _ => sz_ok (by simp)
  have u4 : ∀ a b c d : D, unN 4 (.tup [a, b, c, d]) = some [a, b, c, d] := fun _ _ _ _ => rfl
  have isS : ∀ z, isiD "str" (.str z) = some (.bl true) := fun _ => rfl
  have nb := no_bad hA
  simp only [DL.notM] at nb
  obtain ⟨c, r, ej, hc⟩ := head_lab hA h1
  have c33 : c ≠ 33 := fun e => by rw [e] at hc; revert hc; decide
  have c42 : c ≠ 42 := fun e => by rw [e] at hc; revert hc; decide
  have stm : ∀ (a b : List Nat), strM (fun a b => .bl (PySem.Txt.startswith ⟨a.toArray⟩ ⟨b.toArray⟩)) (.str a) (.str b) = some (.bl (decide (b.length ≤ a.length) && decide (a.take b.length = b))) := fun a b => by rw [← starts_eq]; rfl
  have il : itD (.tup (A.map D.str)) = some (A.map .str) := rfl
  have el : truD (.lst []) = some false := rfl
  unfold m_parsed_row_b892 apR1
  simp only [e_parsed_row_b892, isS, askR, pure_bind, tru_bl, DL.notM, Bool.not_true, Bool.false_eq_true, if_false, sqp, sz4, u4, str_of, stm]
  cases k with
  | pl =>
    have s1 : (decide (([33] : List Nat).length ≤ (rowT (.pl, A)).length) && decide ((rowT (.pl, A)).take ([33] : List Nat).length = [33])) = false := by
      show (_ && decide ((joinN [46] A).take 1 = [33])) = false
      rw [ej]
      simp [c33]
    have s2 : (decide (([42, 46] : List Nat).length ≤ (rowT (.pl, A)).length) && decide ((rowT (.pl, A)).take ([42, 46] : List Nat).length = [42, 46])) = false := by
      show (_ && decide ((joinN [46] A).take 2 = [42, 46])) = false
      rw [ej]
      simp [c42]
    have g0 : List.getD [c_PLAIN, D.str (rowT (.pl, A)), .int 1, c_MOST_LABELS_OF_ROW] 0 D.non = c_PLAIN := rfl
    have g1 : List.getD [c_PLAIN, D.str (rowT (.pl, A)), .int 1, c_MOST_LABELS_OF_ROW] 1 D.non = D.str (joinN [46] A) := rfl
    have g2 : List.getD [c_PLAIN, D.str (rowT (.pl, A)), .int 1, c_MOST_LABELS_OF_ROW] 2 D.non = .int 1 := rfl
    have g3 : List.getD [c_PLAIN, D.str (rowT (.pl, A)), .int 1, c_MOST_LABELS_OF_ROW] 3 D.non = .int 3 := rfl
    have ch : (chainM leD leD (pure (.int 1)) (pure (.int (A.length : Int))) (pure (.int 3)) : R D) = .ok (.bl true) := by
      rw [chain_ii, decide_eq_true (by omega), decide_eq_true (by omega)]; rfl
    simp only [s1, s2, g0, g1, g2, g3, tru_bl, askR, pure_bind, Bool.false_eq_true, if_false, sqp, str_of, sp, tup_lst, lenT, ch, okpR, bOf_bl, DL.orM, Bool.not_true, il, nb, el, sz2]
    rfl
  | wi =>
    have s1 : (decide (([33] : List Nat).length ≤ (rowT (.wi, A)).length) && decide ((rowT (.wi, A)).take ([33] : List Nat).length = [33])) = false := by
      show (_ && decide ((42 :: 46 :: joinN [46] A).take 1 = [33])) = false
      simp
    have s2 : (decide (([42, 46] : List Nat).length ≤ (rowT (.wi, A)).length) && decide ((rowT (.wi, A)).take ([42, 46] : List Nat).length = [42, 46])) = true := by
      show (decide (2 ≤ (42 :: 46 :: joinN [46] A).length) && decide ((42 :: 46 :: joinN [46] A).take 2 = [42, 46])) = true
      simp
    have g2 : List.getD [c_PLAIN, D.str (rowT (.wi, A)), .int 1, c_MOST_LABELS_OF_ROW] 2 D.non = .int 1 := rfl
    have cu : cutL (rowT (.wi, A)) (some 2) none = joinN [46] A := by
      rw [cut_lo (by omega)]; rfl
    have sb : subD c_MOST_LABELS_OF_ROW (.int 1) = some (.int 2) := rfl
    have hh := h3 rfl
    have ch : (chainM leD leD (pure (.int 1)) (pure (.int (A.length : Int))) (pure (.int 2)) : R D) = .ok (.bl true) := by
      rw [chain_ii, decide_eq_true (by omega), decide_eq_true (by omega)]; rfl
    simp only [s1, s2, g2, int_of, slice_s, cu, sb, tru_bl, askR, pure_bind, Bool.false_eq_true, if_false, if_true, sqp, str_of, sp, tup_lst, lenT, ch, okpR, bOf_bl, DL.orM, Bool.not_true, il, nb, el, sz2]
    rfl
  | ex =>
    have s1 : (decide (([33] : List Nat).length ≤ (rowT (.ex, A)).length) && decide ((rowT (.ex, A)).take ([33] : List Nat).length = [33])) = true := by
      show (decide (1 ≤ (33 :: joinN [46] A).length) && decide ((33 :: joinN [46] A).take 1 = [33])) = true
      simp
    have g3 : List.getD [c_PLAIN, D.str (rowT (.ex, A)), .int 1, c_MOST_LABELS_OF_ROW] 3 D.non = .int 3 := rfl
    have cu : cutL (rowT (.ex, A)) (some 1) none = joinN [46] A := by
      rw [cut_lo (by omega)]; rfl
    have hh := h4 rfl
    have ch : (chainM leD leD (pure (.int 2)) (pure (.int (A.length : Int))) (pure (.int 3)) : R D) = .ok (.bl true) := by
      rw [chain_ii, decide_eq_true (by omega), decide_eq_true (by omega)]; rfl
    simp only [s1, g3, int_of, slice_s, cu, tru_bl, askR, pure_bind, Bool.false_eq_true, if_false, if_true, sqp, str_of, sp, tup_lst, lenT, ch, okpR, bOf_bl, DL.orM, Bool.not_true, il, nb, el, sz2]
    rfl
theorem un2_2 {a b : D} : un2 (.tup [a, b]) = some (a, b) := rfl
/-! the size of an ending -/
def stepE (h : List (List Nat)) (q : Nat × Nat) (r : Row) : Nat × Nat := if endsB h r.2 = true then (match r.1 with
  | .ex => (q.1, max q.2 r.2.length)
  | .pl => (max q.1 r.2.length, q.2)
  | .wi => if r.2.length < h.length then (max q.1 (r.2.length + 1), q.2) else q) else q
def foldE (rows : List Row) (h : List (List Nat)) : Nat × Nat := rows.foldl (stepE h) (1, 0)
def encE (q : Nat × Nat) : D × D := (.int (q.1 : Int), .int (q.2 : Int))
theorem max_ii {i j : Nat} : maxD [.int (i : Int), .int (j : Int)] = some (.int ((max i j : Nat) : Int)) := by
  show some (D.int (if (j : Int) > (i : Int) then (j : Int) else (i : Int))) = _
  by_cases c : (j : Int) > (i : Int)
  · rw [if_pos c, Nat.max_eq_right (by omega)]
  · rw [if_neg c, Nat.max_eq_left (by omega)]
theorem min_ii {i j : Nat} : minD [.int (i : Int), .int (j : Int)] = some (.int ((min i j : Nat) : Int)) := by
  show some (D.int (if (j : Int) < (i : Int) then (j : Int) else (i : Int))) = _
  by_cases c : (j : Int) < (i : Int)
  · rw [if_pos c, Nat.min_eq_right (by omega)]
  · rw [if_neg c, Nat.min_eq_left (by omega)]
def sizeE (q : Nat × Nat) : Nat := if 0 < q.2 then q.2 - 1 else q.1
theorem ending_ok {rows : List Row} {h : List (List Nat)} {pd : D} (hp : itD pd = some (rows.map rowD)) (hr : ∀ r ∈ rows, RowOk r) (hh : Labs h) :
    m_ending_size_5148 [pd, .tup (h.map .str)] = .ok (.int ((sizeE (foldE rows h) : Nat) : Int)) := by
  unfold m_ending_size_5148 apR2
  simp only [e_ending_size_5148, sz2, askR, pure_bind, un2_2, hp]
  rw [show ((D.int 1, D.int 0) : D × D) = encE (1, 0) from rfl, for_fold (β := Empty) rowD RowOk encE (stepE h) (fun q r hk => ⟨(kdD r.1, .tup (r.2.map .str)), rfl, ?_⟩) rows (1, 0) hr]
  · show runR false (do let v72 ← (iteM (DL.ask ((gtD (encE (foldE rows h)).2 (.int 0)).bind bOf)) (DL.ask (subD (encE (foldE rows h)).2 (.int 1))) (pure (encE (foldE rows h)).1)); pure (.rt v72)) = _
    generalize foldE rows h = q
    obtain ⟨l, e⟩ := q
    show runR false (do let v72 ← (iteM (DL.ask ((gtD (.int (e : Int)) (.int 0)).bind bOf)) (DL.ask (subD (.int (e : Int)) (.int 1))) (pure (.int (l : Int)))); pure (.rt v72)) = _
    by_cases c : 0 < e
    · have c' : (0 : Int) < (e : Int) := by omega
      have es : ((e : Int) - 1) = ((e - 1 : Nat) : Int) := by omega
      simp only [gt_l, decide_eq_true c', iteM, Option.bind_some, bOf_bl, askR, pure_bind, if_true, sub_ii, es, sizeE, if_pos c]
      rfl
    · have c' : ¬ (0 : Int) < (e : Int) := by omega
      simp only [gt_l, decide_eq_false c', iteM, Option.bind_some, bOf_bl, askR, pure_bind, Bool.false_eq_true, if_false, sizeE, if_neg c]
      rfl
  · obtain ⟨k, A⟩ := r
    obtain ⟨l, e⟩ := q
    have hA : Labs A := hk.1
    simp only [ends_ok hh hA, lift_pR, okpR, pure_bind, tru_bl, askR, DL.notM]
    show _ ∨ _
    cases hb : endsB h A with
    | false =>
      refine .inr ?_
      simp only [Bool.not_false, if_true, stepE, hb, Bool.false_eq_true, if_false]
      rfl
    | true =>
      refine .inl ?_
      simp only [Bool.not_true, Bool.false_eq_true, if_false, sqp, stepE, hb, if_true]
      cases k with
      | ex =>
        have e1 : (eqD (kdD .ex) c_EXCEPTION).bind bOf = some true := rfl
        simp only [e1, askR, pure_bind, if_true, lenT, encE, max_ii]
        rfl
      | pl =>
        have e1 : (eqD (kdD .pl) c_EXCEPTION).bind bOf = some false := rfl
        have e2 : (eqD (kdD .pl) c_PLAIN).bind bOf = some true := rfl
        simp only [e1, e2, askR, pure_bind, if_true, Bool.false_eq_true, if_false, lenT, encE, max_ii]
        rfl
      | wi =>
        have e1 : (eqD (kdD .wi) c_EXCEPTION).bind bOf = some false := rfl
        have e2 : (eqD (kdD .wi) c_PLAIN).bind bOf = some false := rfl
        simp only [e1, e2, askR, pure_bind, Bool.false_eq_true, if_false, lenT, encE, gt_l, Option.bind_some, bOf_bl]
        by_cases c : A.length < h.length
        · have c' : (A.length : Int) < (h.length : Int) := by omega
          have ea : ((A.length : Int) + 1) = ((A.length + 1 : Nat) : Int) := by omega
          simp only [decide_eq_true c', if_true, add_ii, ea, max_ii, askR, pure_bind, if_pos c]
          rfl
        · have c' : ¬ (A.length : Int) < (h.length : Int) := by omega
          simp only [decide_eq_false c', Bool.false_eq_true, if_false, if_neg c]
          rfl
/-- the site of a host -/
def siteN (rows : List Row) (h : List (List Nat)) : List (List Nat) := h.drop (h.length - (sizeE (foldE rows h) + 1))
theorem site_by_ok {rows : List Row} {h : List (List Nat)} {pd : D} (hp : itD pd = some (rows.map rowD)) (hr : ∀ r ∈ rows, RowOk r) (hh : Labs h) : m_site_by_dd2e [pd, .tup (h.map .str)] = .ok (.tup ((siteN rows h).map .str)) := by
  have en := ending_ok hp hr hh
  have ea : ((sizeE (foldE rows h) : Nat) : Int) + 1 = ((sizeE (foldE rows h) + 1 : Nat) : Int) := by omega
  have cd := cut_back (A := h) (n := min h.length (sizeE (foldE rows h) + 1)) (by omega)
  have e2 : h.length - min h.length (sizeE (foldE rows h) + 1) = h.length - (sizeE (foldE rows h) + 1) := by omega
  rw [e2] at cd
  unfold m_site_by_dd2e apR2
  simp only [e_site_by_dd2e, lenT, askR, pure_bind, en, lift_pR, okpR, add_ii, ea, min_ii, sub_ii, int_of, slice_t, cd]
  rfl
end FN
/-! ### groups: where a host is moved; tables and groups made -/
namespace FN
open DL PySem PySem.W
abbrev Hst := List (List Nat)
def hD (h : Hst) : D := .tup (h.map .str)
theorem lenH {h : Hst} : lenD [hD h] = some (.int (h.length : Int)) := lenT
/-! tables made -/
theorem for_unit {γ β : Type} {u : D → Option γ} {xb : Unit → γ → R (Fl Unit Unit)} : ∀ (ds : List D), (∀ d ∈ ds, ∃ c, u d = some c ∧ xb () c = .ok (.nx ())) → (forF u xb ds () : R (Fl Unit β)) = .ok (.nx ())
  | [], _ => rfl
  | d :: ds, h => by
    obtain ⟨c, hu, hx⟩ := h d (.head _)
    have ih := for_unit (β := β) ds fun x m => h x (.tail _ m)
    rw [forF, hu]
    show ((xb () c) >>= _) = _
    rw [hx]
    exact ih
theorem enumK_get : ∀ {I : List (List Nat)} {k : Nat} {d : D}, d ∈ enumK I k → ∃ (i : Nat) (z : List Nat), I[i]? = some z ∧ d = .tup [.int ((k + i : Nat) : Int), .str z]
  | [], _, d, h => by cases h
  | a :: I, k, d, h => by
    rcases List.mem_cons.mp (show d ∈ D.tup [.int (k : Int), .str a] :: enumK I (k + 1) from h) with rfl | h
    · exact ⟨0, a, rfl, rfl⟩
    · obtain ⟨i, z, e, rfl⟩ := enumK_get h
      exact ⟨i + 1, z, e, by rw [show k + 1 + i = k + (i + 1) by omega]⟩
theorem nodup_before {α : Type} {T : List α} {i : Nat} {z : α} (hn : T.Nodup) (h : T[i]? = some z) : z ∉ T.take i := fun m => by
  rw [← List.take_append_drop i T] at hn
  have h2 : z ∈ T.drop i := List.mem_of_getElem? (i := 0) (by rw [List.getElem?_drop]; exact h)
  exact (List.nodup_append.mp hn).2.2 z m z h2 rfl
theorem row_tx {r : Row} (h : RowOk r) : Tx 1000 (rowT r) := by
  obtain ⟨k, A⟩ := r
  obtain ⟨hA, h1, h2, _, _⟩ := h
  dsimp only at hA h1 h2
  have jl : (joinN [46] A).length ≤ 100 := by
    have := (join_row2 (S := [46]) (row_of (by omega) hA) (by simp)).2
    have h3 : ∀ {I : List (List Nat)}, (∀ z ∈ I, z.length ≤ 20) → (joinN [46] I).length ≤ 21 * I.length := by
      intro I
      induction I with
      | nil => intro _; simp [joinN]
      | cons a I ih =>
        intro hz
        have h1 := hz a (.head _)
        have h2 := ih fun z m => hz z (.tail _ m)
        cases I with
        | nil => simp only [joinN, List.length_cons, List.length_nil]; omega
        | cons b I =>
          simp only [joinN, List.length_append, List.length_cons, List.length_nil] at h2 ⊢
          omega
    have := h3 fun z m => (isLab_iff.mp (hA z m)).2.1
    omega
  have jc : ∀ c ∈ joinN [46] A, c < 1114112 := join_tx (row_of (by omega) hA) (by omega)
  cases k with
  | pl => exact ⟨by show (joinN [46] A).length ≤ _; omega, jc⟩
  | wi => exact ⟨by show (42 :: 46 :: joinN [46] A).length ≤ _; simp only [List.length_cons]; omega, fun c m => by
      rcases List.mem_cons.mp (show c ∈ 42 :: 46 :: joinN [46] A from m) with rfl | m
      · omega
      · rcases List.mem_cons.mp m with rfl | m
        · omega
        · exact jc c m⟩
  | ex => exact ⟨by show (33 :: joinN [46] A).length ≤ _; simp only [List.length_cons]; omega, fun c m => by
      rcases List.mem_cons.mp (show c ∈ 33 :: joinN [46] A from m) with rfl | m
      · omega
      · exact jc c m⟩
def rowsD (rows : List Row) : List D := rows.map fun r => .str (rowT r)
theorem parse_all {rows : List Row} (hr : ∀ r ∈ rows, RowOk r) : (lcF (fun d => some d) (fun (c3 : D) => pure true) (fun (c3 : D) => (Mo.lift (m_parsed_row_b892 [c3]))) (rowsD rows) : R (List D)) = .ok (rows.map rowD) := by
  induction rows with
  | nil => rfl
  | cons r rows ih =>
    have e := parsed_ok (hr r (.head _))
    have ih' := ih fun x m => hr x (.tail _ m)
    show ((Mo.noex (Mo.lift (m_parsed_row_b892 [.str (rowT r)]) : R D)) >>= fun y => (lcF (fun d => some d) (fun (c3 : D) => pure true) (fun (c3 : D) => (Mo.lift (m_parsed_row_b892 [c3]))) (rowsD rows) : R (List D)) >>= fun r => pure (y :: r)) = _
    rw [lift_pR, e, ih']
    rfl
def TabOk (rows : List Row) : Prop := (∀ r ∈ rows, RowOk r) ∧ (rows.map rowT).Nodup ∧ rows.length ≤ 8
theorem table_init {rows : List Row} (h : TabOk rows) : m_Table_init_e784 [.tup (rowsD rows)] = .ok [.tup (rowsD rows), .tup (rows.map rowD)] := by
  obtain ⟨hr, hn, hl⟩ := h
  have it : itD (.tup (rowsD rows)) = some (rowsD rows) := rfl
  have eT : rowsD rows = (rows.map rowT).map D.str := by simp [rowsD]
  have en : enumT [.tup (rowsD rows)] = some (enumK (rows.map rowT) 0) := by
    show some (enumL (rowsD rows)) = _
    rw [eT, enumL_strs]
  have ll : lenD [.tup (rowsD rows)] = some (.int (rows.length : Int)) := by
    show some (D.int ((rowsD rows).length : Int)) = _
    rw [rowsD, List.length_map]
  have g8 : (gtD (.int (rows.length : Int)) c_MOST_ROWS).bind bOf = some false := by
    show (gtD (.int (rows.length : Int)) (.int 8)).bind bOf = _
    rw [gt_l]
    show some (decide _) = _
    rw [decide_eq_false (by omega)]
  have tp : tupleD [.tup (rowsD rows)] = some (.tup (rowsD rows)) := rfl
  unfold m_Table_init_e784 apI1
  simp only [e_Table_init_e784, it, en, ll, g8, tp, askR, pure_bind]
  rw [for_unit (β := Empty) (rowsD rows) (fun d m => ⟨d, rfl, ?_⟩), seqR_nx, for_unit (β := Empty) (enumK (rows.map rowT) 0) (fun d m => ?_), seqR_nx, parse_all hr]
  · rfl
  · obtain ⟨i, z, hz, rfl⟩ := enumK_get m
    refine ⟨(.int ((0 + i : Nat) : Int), .str z), rfl, ?_⟩
    rw [Nat.zero_add]
    have hT : ∀ w ∈ rows.map rowT, Tx 1000 w := fun w m => by
      obtain ⟨r, hr', rfl⟩ := List.mem_map.mp m
      exact row_tx (hr r hr')
    have sl : sliceD (.tup (rowsD rows)) none (some (i : Int)) = some (.tup (((rows.map rowT).take i).map D.str)) := by
      rw [slice_t, cut_toD, eT, List.map_take]
    have hi : (inD (.str z) (.tup (((rows.map rowT).take i).map D.str))).bind bOf = some false := by
      unfold inD
      rw [in_strsT (hT z (List.mem_of_getElem? hz)) (fun w m => hT w (List.mem_of_mem_take m))]
      show some (decide _) = _
      rw [decide_eq_false (nodup_before hn hz)]
    simp only [int_of, sl, hi, askR, pure_bind, Bool.false_eq_true, if_false]
    rfl
  · obtain ⟨r, hr', rfl⟩ := List.mem_map.mp (show d ∈ rows.map fun r => D.str (rowT r) from m)
    have e := parsed_ok (hr r hr')
    have isn : (isD (rowD r) .non).bind bOf = some false := rfl
    simp only [e, lift_pR, okpR, pure_bind, isn, askR, Bool.false_eq_true, if_false]
    rfl
theorem star0 {α : Type} {g : List D → R α} {ds : List D} (h : ds.length ≤ 1000000) : starD 0 g ds = g [.tup ds] := if_pos ⟨Nat.zero_le _, h⟩
def tabD (rows : List Row) : D := .ins "Table" ["rows", "parsed"] [.tup (rowsD rows), .tup (rows.map rowD)]
/-! groups made -/
end FN
/-! ### which rule matches which page, with a table and groups -/
namespace FN
open DL PySem PySem.W
end FN
/-! ### the wide bag: [[numbers], seed, count] -/
namespace DL
open PySem PySem.Spec PyProof.Rows L2 StX
def bagY3 : M D := fun s => if s.w = true then .ok (.int s.y) s else .stuck
def bagZ : M D := fun s => if s.w = true then .ok (.int s.z) s else .stuck
def bagHd : M D := fun s => match s.w, s.l with
  | true, i :: _ => .ok (.int i) s
  | _, _ => .stuck
def bagNe : M Bool := fun s => if s.w = true ∧ s.l.length ≤ 1000 then .ok (!s.l.isEmpty) s else .stuck
def bagSetZ (i : Int) : M Unit := fun s => if s.w = true then .ok () { s with z := i } else .stuck
def bagSetHd (i : Int) : M Unit := fun s => match s.w, s.l with
  | true, _ :: r => .ok () { s with l := i :: r }
  | _, _ => .stuck
def bagPop : M Unit := fun s => match s.w, s.l with
  | true, _ :: r => .ok () { s with l := r }
  | _, _ => .stuck
def bagDrop : M Unit := fun s => if s.w = true ∧ s.l.length ≤ 1000 then .ok () { s with l := s.l.dropWhile fun i => i == 0 } else .stuck
theorem ixN0 (n : Nat) : ixN (n + 1) 0 = some 0 := by unfold ixN; simp
theorem atI0 (t : Int) (l : List Int) : atI (List.map V.int (t :: l)) 0 = some (V.int t) := by
  unfold atI
  rw [List.length_map, List.length_cons, ixN0]
  rfl
theorem bag_two {bag : List Addr} {H : Hp} {s : S} {b : Addr} {r : List Addr} (h : BagAt bag H s) (hw : s.w = true) (e : bag = b :: r) : ∃ c r', bag = b :: c :: r' ∧ b ≠ c ∧ H b = some (.lst [.ref c, .int s.y, .int s.z]) ∧ H c = some (.lst (s.l.map V.int)) := by
  subst e
  cases r with
  | nil => exact absurd h.1 (by rw [hw]; simp)
  | cons c r => exact ⟨c, r, rfl, h.2.1, h.2.2.1, h.2.2.2⟩
section
variable {X : Cx} {fx : Fx} {G : List Sl} {α β : Type} {kk : Nat} {e : Expr} {rest : List Stmt} {ex : α → List Sl} {exb : β → List Sl} {pos pos2 p2 p3 np apos : Pos} {n : Str} {j j3 : Nat}
theorem de_bagY3 (i : Nat) (hG : G[i]? = some .bg := by rfl) (hN : X.N[i]? = some n := by rfl) (hv : Vis X.env.scope n := by first | exact Or.inl rfl | exact Or.inr (Or.inl rfl) | exact Or.inr (Or.inr rfl)) (hd : (n == ("__debug__" : Str)) = false := by decide) (hcd : (n == ("__classdict__" : Str)) = false := by decide)
    (hs : PlainIx (.Constant (.int 1) j p2) := by exact fun _ _ => rfl) : PE X (.Subscript (.Name n np) (.Constant (.int 1) j p2) pos) (tE X.K X.mg fx G bagY3) :=
  peI (pe_ix ix_list (pe_var hN hv hd hcd) pe_int hs) fun σ H Q ⟨Hf, s, h⟩ => by
    obtain ⟨b, r, eb, ev⟩ := h.1.sl i _ hG
    have w : (bagY3 s).wp _ _ := h.2
    unfold bagY3 at w
    by_cases hw : s.w = true
    · rw [if_pos hw] at w
      obtain ⟨c, r', e1, ne, hb, hc⟩ := bag_two h.1.bag hw eb
      exact ⟨.ref b, ev, b, _, 1, .int s.y, rfl, rfl, .inl (.inl hb), rfl, w _ Hf H (.refl h.1.top) h.1.bag (is_int _)⟩
    · rw [if_neg hw] at w
      exact w.elim
theorem de_bagZ (i : Nat) (hG : G[i]? = some .bg := by rfl) (hN : X.N[i]? = some n := by rfl) (hv : Vis X.env.scope n := by first | exact Or.inl rfl | exact Or.inr (Or.inl rfl) | exact Or.inr (Or.inr rfl)) (hd : (n == ("__debug__" : Str)) = false := by decide) (hcd : (n == ("__classdict__" : Str)) = false := by decide)
    (hs : PlainIx (.Constant (.int 2) j p2) := by exact fun _ _ => rfl) : PE X (.Subscript (.Name n np) (.Constant (.int 2) j p2) pos) (tE X.K X.mg fx G bagZ) :=
  peI (pe_ix ix_list (pe_var hN hv hd hcd) pe_int hs) fun σ H Q ⟨Hf, s, h⟩ => by
    obtain ⟨b, r, eb, ev⟩ := h.1.sl i _ hG
    have w : (bagZ s).wp _ _ := h.2
    unfold bagZ at w
    by_cases hw : s.w = true
    · rw [if_pos hw] at w
      obtain ⟨c, r', e1, ne, hb, hc⟩ := bag_two h.1.bag hw eb
      exact ⟨.ref b, ev, b, _, 2, .int s.z, rfl, rfl, .inl (.inl hb), rfl, w _ Hf H (.refl h.1.top) h.1.bag (is_int _)⟩
    · rw [if_neg hw] at w
      exact w.elim
theorem de_bagHd (i : Nat) (hG : G[i]? = some .bg := by rfl) (hN : X.N[i]? = some n := by rfl) (hv : Vis X.env.scope n := by first | exact Or.inl rfl | exact Or.inr (Or.inl rfl) | exact Or.inr (Or.inr rfl)) (hd : (n == ("__debug__" : Str)) = false := by decide) (hcd : (n == ("__classdict__" : Str)) = false := by decide)
    (hs : PlainIx (.Constant (.int 0) j p2) := by exact fun _ _ => rfl) (hs3 : PlainIx (.Constant (.int 0) j3 p3) := by exact fun _ _ => rfl) : PE X (.Subscript (.Subscript (.Name n np) (.Constant (.int 0) j p2) pos2) (.Constant (.int 0) j3 p3) pos) (tE X.K X.mg fx G bagHd) :=
  peI (pe_ix ix_list (pe_ix ix_list (pe_var hN hv hd hcd) pe_int hs) pe_int hs3) fun σ H Q ⟨Hf, s, h⟩ => by
    obtain ⟨b, r, eb, ev⟩ := h.1.sl i _ hG
    have w : (bagHd s).wp _ _ := h.2
    unfold bagHd at w
    split at w
    · rename_i t l hw hl
      obtain ⟨c, r', e1, ne, hb, hc⟩ := bag_two h.1.bag hw eb
      rw [hl] at hc
      exact ⟨.ref b, ev, b, _, 0, .ref c, rfl, rfl, .inl (.inl hb), rfl, c, _, 0, .int t, rfl, rfl, .inl (.inl hc), atI0 t l, w _ Hf H (.refl h.1.top) h.1.bag (is_int _)⟩
    · exact w.elim
theorem ints_py : ∀ l : List Int, toPyL (l.map D.int) = some (l.map PyData.int) ∧ PyData.canLayAll0 (l.map PyData.int) = true ∧ PyData.depthAll (l.map PyData.int) ≤ 1
  | [] => ⟨rfl, by simp [PyData.canLayAll0], by simp [PyData.depthAll]⟩
  | i :: l => by
    obtain ⟨a, b, c⟩ := ints_py l
    refine ⟨?_, ?_, ?_⟩
    · rw [List.map_cons, List.map_cons, toPyL, a]
      simp [toPy]
    · simp only [List.map_cons, PyData.canLayAll0, PyData.canLay0, b, Bool.and_self]
    · have z : (PyData.int i).depth = 0 := rfl
      simp only [List.map_cons, PyData.depthAll]
      omega
theorem ne_ints (l : List Int) : neD (.lst (l.map .int)) (.lst []) = some (.bl (!l.isEmpty)) := by
  obtain ⟨a, b, c⟩ := ints_py l
  have s1 : SeqAt.shaped (.list (l.map PyData.int)) = true := by
    unfold SeqAt.shaped
    refine Bool.and_eq_true_iff.mpr ⟨by simpa only [PyData.canLay0] using b, decide_eq_true ?_⟩
    simp only [PyData.depth]
    omega
  have s2 : SeqAt.shaped (.list []) = true := by
    unfold SeqAt.shaped
    simp [PyData.canLay0, PyData.canLayAll0, PyData.depth, PyData.depthAll]
  have t1 : toPy (.lst (l.map .int)) = some (.list (l.map PyData.int)) := by rw [toPy, a]; rfl
  have t2 : toPy (.lst []) = some (.list []) := rfl
  have e : eqP (.lst (l.map .int)) (.lst []) = match toPy (.lst (l.map .int)), toPy (.lst []) with
    | some x, some y => if SeqAt.shaped x && SeqAt.shaped y then some (PyData.eqv x y) else none
    | _, _ => none := rfl
  unfold neD
  rw [e, t1, t2]
  simp only [s1, s2, Bool.and_self, if_true, Option.map_some]
  cases l <;> simp [PyData.eqv, PyData.eqvAll]
theorem is_ints {K : PySem.W.Frag} {mg : Str → Option Value} {H : Hp} : ∀ l : List Int, IsL K mg H (l.map .int) (l.map V.int)
  | [] => rfl
  | i :: l => ⟨_, _, rfl, is_int i, is_ints l⟩
/-- bag[0] != [] -/
theorem dt_bagNe (C : Cok X fx kk) (i : Nat) (hG : G[i]? = some .bg := by rfl) (hN : X.N[i]? = some n := by rfl) (hv : Vis X.env.scope n := by first | exact Or.inl rfl | exact Or.inr (Or.inl rfl) | exact Or.inr (Or.inr rfl)) (hd : (n == ("__debug__" : Str)) = false := by decide) (hcd : (n == ("__classdict__" : Str)) = false := by decide)
    (hs : PlainIx (.Constant (.int 0) j p2) := by exact fun _ _ => rfl) : PT X (.Compare (.Subscript (.Name n np) (.Constant (.int 0) j p2) pos2) [.NotEq] [.List [] p3] pos) (tT X.K X.mg fx G bagNe) :=
  ptI (pt_cmpR (od_ne C.rm.units) (pe_ix ix_list (pe_var hN hv hd hcd) pe_int hs) (pe_lst pa_nil) (by rfl)) fun σ H Q ⟨Hf, s, h⟩ => by
    obtain ⟨b, r, eb, ev⟩ := h.1.sl i _ hG
    have w : (bagNe s).wp _ _ := h.2
    unfold bagNe at w
    by_cases hw : s.w = true ∧ s.l.length ≤ 1000
    · rw [if_pos hw] at w
      obtain ⟨c, r', e1, ne, hb, hc⟩ := bag_two h.1.bag hw.1 eb
      refine ⟨.ref b, ev, b, _, 0, .ref c, rfl, rfl, .inl (.inl hb), rfl, (by show 0 ≤ sizeLine; exact Nat.zero_le _), fun p hp => ?_⟩
      have hcp : c ≠ p := fun z => by rw [z, hp] at hc; cases hc
      have sn : Ste ([] : List Addr) Hf H Hf (upd H p (.lst [])) := Ste.new' h.1.top hp
      refine ⟨upd H p (.lst []), .lst (s.l.map .int), .lst [], _, .refl _, ⟨by rw [List.length_map, sizeLine_eq]; omega, c, s.l.map V.int, rfl, (upd_ne hcp).trans hc, is_ints s.l⟩, ⟨Nat.zero_le _, p, [], rfl, upd_same, rfl⟩, ne_ints s.l, fun u Hf' H' st iu => ?_⟩
      refine ⟨!s.l.isEmpty, iu, ?_⟩
      have st2 : Ste ([] : List Addr) Hf H Hf H' := ⟨.refl _, fun a o q => st.keep a o (sn.top a o q) (by simp), fun a o q hn => st.keep a o (sn.keep a o q hn) (by simp), fun a q => st.dom a (sn.dom a q), fun a o q => .inl q⟩
      exact w _ Hf H' st2.wide (st2.bag h.1.bag) rfl
    · rw [if_neg hw] at w
      exact w.elim
theorem dss_bagSetZ {x : M D} {k : M (Fl α β)} (i : Nat) (he : PE X e (tE X.K X.mg fx G x)) (hr : PSs X rest (tS X.K X.mg fx G ex exb k)) (hG : G[i]? = some .bg := by rfl) (hN : X.N[i]? = some n := by rfl) (hv : Vis X.env.scope n := by first | exact Or.inl rfl | exact Or.inr (Or.inl rfl) | exact Or.inr (Or.inr rfl)) (hd : (n == ("__debug__" : Str)) = false := by decide) (hcd : (n == ("__classdict__" : Str)) = false := by decide)
    (ha : ∀ v, assign (.Subscript (.Name n np) (.Constant (.int 2) j p2) apos) X.env v = (do
      let ov ← holding [v] (eval (.Name n np) X.env)
      let iv ← holding [v, ov] (eval (.Constant (.int 2) j p2) X.env)
      standAt apos
      holding [v, ov, iv] (setItem ov iv v)
      release [v, ov, iv] []) := by intro _; rfl)
    (hs : swapsWithSole [.Subscript (.Name n np) (.Constant (.int 2) j p2) apos] e pos.line X.env = pure false := by rfl) (hw : swappedStores [.Subscript (.Name n np) (.Constant (.int 2) j p2) apos] e X.env = pure none := by rfl)
    (h1 : (assignEach [.Subscript (.Name n np) (.Constant (.int 2) j p2) apos] X.env).map (·.2) = [assign (.Subscript (.Name n np) (.Constant (.int 2) j p2) apos) X.env] := by rfl) (hg : GxOk fx G := by first | exact True.intro | repeat' (first | exact True.intro | exact Or.inl rfl | exact Or.inr rfl | refine And.intro ?_ ?_)) :
    PSs X (.Assign [.Subscript (.Name n np) (.Constant (.int 2) j p2) apos] e pos :: rest) (tS X.K X.mg fx G ex exb (do let d ← x; let i ← ask (intOf d); bagSetZ i; k)) :=
  pssI (pss_cons (ps_asg he (pg_sub (pe_var hN hv hd hcd) pe_int set_list ha) hs hw h1) hr) fun De σ H ⟨Hf, s, h⟩ =>
    ((h.bind hg).mono fun v H1 ⟨d, Hf1, s1, sb, r, h1⟩ => by
      obtain ⟨b, rr, eb, ev⟩ := h1.1.sl i _ hG
      have w := Mo.wp_lift (Mo.wp_bind h1.2)
      cases d with
      | int t =>
        cases r
        have w2 : (bagSetZ t s1).wp _ _ := Mo.wp_bind w
        unfold bagSetZ at w2
        by_cases hw : s1.w = true
        · rw [if_pos hw] at w2
          obtain ⟨c, r', e1, ne, hb, hc⟩ := bag_two h1.1.bag hw eb
          refine ⟨.ref b, ev, b, _, 2, 2, rfl, rfl, hb, rfl, Hf1, _, h1.1.bagUpd (s' := { s1 with z := t }) (by rw [e1]; simp) ?_, w2⟩
          rw [e1]
          exact ⟨hw, ne, upd_same, (upd_ne (Ne.symm ne)).trans hc⟩
        · rw [if_neg hw] at w2
          exact w2.elim
      | _ => exact w.elim).to
theorem dss_bagSetHd {x : M D} {k : M (Fl α β)} (i : Nat) (he : PE X e (tE X.K X.mg fx G x)) (hr : PSs X rest (tS X.K X.mg fx G ex exb k)) (hG : G[i]? = some .bg := by rfl) (hN : X.N[i]? = some n := by rfl) (hv : Vis X.env.scope n := by first | exact Or.inl rfl | exact Or.inr (Or.inl rfl) | exact Or.inr (Or.inr rfl)) (hd : (n == ("__debug__" : Str)) = false := by decide) (hcd : (n == ("__classdict__" : Str)) = false := by decide)
    (hs2 : PlainIx (.Constant (.int 0) j p2) := by exact fun _ _ => rfl)
    (ha : ∀ v, assign (.Subscript (.Subscript (.Name n np) (.Constant (.int 0) j p2) pos2) (.Constant (.int 0) j3 p3) apos) X.env v = (do
      let ov ← holding [v] (eval (.Subscript (.Name n np) (.Constant (.int 0) j p2) pos2) X.env)
      let iv ← holding [v, ov] (eval (.Constant (.int 0) j3 p3) X.env)
      standAt apos
      holding [v, ov, iv] (setItem ov iv v)
      release [v, ov, iv] []) := by intro _; rfl)
    (hs : swapsWithSole [.Subscript (.Subscript (.Name n np) (.Constant (.int 0) j p2) pos2) (.Constant (.int 0) j3 p3) apos] e pos.line X.env = pure false := by rfl) (hw : swappedStores [.Subscript (.Subscript (.Name n np) (.Constant (.int 0) j p2) pos2) (.Constant (.int 0) j3 p3) apos] e X.env = pure none := by rfl)
    (h1 : (assignEach [.Subscript (.Subscript (.Name n np) (.Constant (.int 0) j p2) pos2) (.Constant (.int 0) j3 p3) apos] X.env).map (·.2) = [assign (.Subscript (.Subscript (.Name n np) (.Constant (.int 0) j p2) pos2) (.Constant (.int 0) j3 p3) apos) X.env] := by rfl) (hg : GxOk fx G := by first | exact True.intro | repeat' (first | exact True.intro | exact Or.inl rfl | exact Or.inr rfl | refine And.intro ?_ ?_)) :
    PSs X (.Assign [.Subscript (.Subscript (.Name n np) (.Constant (.int 0) j p2) pos2) (.Constant (.int 0) j3 p3) apos] e pos :: rest) (tS X.K X.mg fx G ex exb (do let d ← x; let i ← ask (intOf d); bagSetHd i; k)) :=
  pssI (pss_cons (ps_asg he (pg_sub (pe_ix ix_list (pe_var hN hv hd hcd) pe_int hs2) pe_int set_list ha) hs hw h1) hr) fun De σ H ⟨Hf, s, h⟩ =>
    ((h.bind hg).mono fun v H1 ⟨d, Hf1, s1, sb, r, h1⟩ => by
      obtain ⟨b, rr, eb, ev⟩ := h1.1.sl i _ hG
      have w := Mo.wp_lift (Mo.wp_bind h1.2)
      cases d with
      | int t =>
        cases r
        have w2 : (bagSetHd t s1).wp _ _ := Mo.wp_bind w
        unfold bagSetHd at w2
        split at w2
        · rename_i u l hw hl
          obtain ⟨c, r', e1, ne, hb, hc⟩ := bag_two h1.1.bag hw eb
          rw [hl] at hc
          refine ⟨.ref b, ev, b, _, 0, .ref c, rfl, rfl, .inl (.inl hb), rfl, c, _, 0, 0, rfl, rfl, hc, (by rw [List.length_map, List.length_cons, ixN0]), Hf1, _, h1.1.bagUpd (s' := { s1 with l := t :: l }) (by rw [e1]; simp) ?_, w2⟩
          rw [e1]
          exact ⟨hw, ne, (upd_ne ne).trans hb, upd_same⟩
        · exact w2.elim
      | _ => exact w.elim).to
/-- bag[0].pop(0) as a statement -/
theorem dss_bagPop {k : M (Fl α β)} {cpos : Pos} (i : Nat) (hr : PSs X rest (tS X.K X.mg fx G ex exb k)) (hG : G[i]? = some .bg := by rfl) (hN : X.N[i]? = some n := by rfl) (hv : Vis X.env.scope n := by first | exact Or.inl rfl | exact Or.inr (Or.inl rfl) | exact Or.inr (Or.inr rfl)) (hd : (n == ("__debug__" : Str)) = false := by decide) (hcd : (n == ("__classdict__" : Str)) = false := by decide)
    (hs : PlainIx (.Constant (.int 0) j p2) := by exact fun _ _ => rfl)
    (hst : starEach [(.Constant (.int 0) j3 p3 : Expr)] X.env = [(false, eval (.Constant (.int 0) j3 p3) X.env)] := by rfl) (hbase : attributeBase (.Subscript (.Name n np) (.Constant (.int 0) j p2) pos2) "pop" X.env (eval (.Subscript (.Name n np) (.Constant (.int 0) j p2) pos2) X.env) = eval (.Subscript (.Name n np) (.Constant (.int 0) j p2) pos2) X.env := by rfl)
    (hfew : ((backTo cpos (starEach [(.Constant (.int 0) j3 p3 : Expr)] X.env)).all (fun x => !x.1) && (backToKw cpos (keywordEach [] X.env)).all (fun x => x.1.isSome) && decide ([(.Constant (.int 0) j3 p3 : Expr)].length + ([] : List Keyword).length + (if ([] : List Keyword).isEmpty then 0 else 1) < 30)) = true := by rfl)
    (hline : (apos.endLine == cpos.line) = true := by rfl) (hplain : (backTo cpos (starEach [] X.env)).any (·.1) = false := by rfl)
    (hsw : swapsWith (.Call (.Attribute (.Subscript (.Name n np) (.Constant (.int 0) j p2) pos2) "pop" apos) [.Constant (.int 0) j3 p3] [] cpos) none pos.line X.env = pure false := by rfl) :
    PSs X (.Expr (.Call (.Attribute (.Subscript (.Name n np) (.Constant (.int 0) j p2) pos2) "pop" apos) [.Constant (.int 0) j3 p3] [] cpos) pos :: rest) (tS X.K X.mg fx G ex exb (do bagPop; k)) :=
  pssI (pss_cons (ps_expr (pe_bm PySem.F.plainAttrs_list PySem.F.slot_list_pop PySem.F.type_list_pop mt_popAt (pe_ix ix_list (pe_var hN hv hd hcd) pe_int hs) (pa_cons pe_int pa_nil hst) hbase hfew hline hst hplain) hsw) hr) fun De σ H ⟨Hf, s, h⟩ => by
    obtain ⟨b, r, eb, ev⟩ := h.1.sl i _ hG
    have w : (bagPop s).wp _ _ := Mo.wp_bind h.2
    unfold bagPop at w
    split at w
    · rename_i t l hw hl
      obtain ⟨c, r', e1, ne, hb, hc⟩ := bag_two h.1.bag hw eb
      rw [hl] at hc
      refine ⟨.ref b, ev, b, _, 0, .ref c, rfl, rfl, .inl (.inl hb), rfl, .inl ⟨rfl, _, .inl (.inl hc)⟩, ?_⟩
      refine ⟨c, _, 0, 0, .int t, rfl, rfl, hc, by decide, by decide, by simp [seqIndex?], rfl, Hf, _, h.1.bagUpd (s' := { s with l := l }) (by rw [e1]; simp) ?_, w⟩
      rw [e1]
      exact ⟨hw, ne, (upd_ne ne).trans hb, upd_same⟩
    · exact w.elim
/-- while bag[0] != [] and bag[0][0] == 0: bag[0].pop(0) -/
theorem dss_bagWhile {k : M (Fl α β)} {c : Expr} {body : List Stmt} (C : Cok X fx kk) (hc : PT X c (tT X.K X.mg fx G (DL.andM bagNe (do let x ← bagHd; let y ← pure (.int 0); DL.ask ((eqD x y).bind bOf)))))
    (hb : PSs X body (tS X.K X.mg fx G (fun (_ : Unit) => G) (fun (_ : Unit) => G) (do bagPop; pure (.nx ())))) (hr : PSs X rest (tS X.K X.mg fx G ex exb k)) :
    PSs X (.While c body [] pos :: rest) (tS X.K X.mg fx G ex exb (do bagDrop; k)) :=
  pssI (pss_cons (ps_while C.hp hc hb) hr) fun De σ H ⟨Hf, s, h⟩ => by
    have w : (bagDrop s).wp _ _ := Mo.wp_bind h.2
    unfold bagDrop at w
    by_cases hw : s.w = true ∧ s.l.length ≤ 1000
    · rw [if_pos hw] at w
      have w' : Mo.wp k { s with l := s.l.dropWhile fun i => i == 0 } (FP X.K X.mg fx Hf ex exb De) (EXS X.K X.mg fx) := w
      refine ⟨fun m σ' H' => ∃ Hf' l, Sub Hf Hf' ∧ StS X.K X.mg fx Hf' H' σ' G { s with l := l } ∧ l.length = m ∧ l.length ≤ 1000 ∧ (l.dropWhile fun i => i == 0) = s.l.dropWhile fun i => i == 0, ⟨s.l.length, Hf, s.l, .refl _, h.1, rfl, hw.2, rfl⟩, ?_⟩
      rintro m σ' H' ⟨Hf', l, sb, st, hl, h1000, he⟩
      -- the loop ends
      have fin : ∀ Hf2 H2, Ste fx.bag Hf' H' Hf2 H2 → BagAt fx.bag H2 { s with l := l } → (l.dropWhile fun i => i == 0) = l → tS X.K X.mg fx G ex exb k De σ' H2 := fun Hf2 H2 e2 bg2 hd2 => by
        rw [← he, hd2] at w'
        exact ⟨Hf2, _, st.step e2 bg2, Mo.wp_mono w' (fun f s2 h2 => h2.up (sb.trans e2.sub)) fun e s' k => k⟩
      refine ⟨Hf', { s with l := l }, st, ?_⟩
      cases l with
      | nil =>
        have ev : (DL.andM bagNe (do let x ← bagHd; DL.ask ((eqD x (.int 0)).bind bOf)) : M Bool) { s with l := [] } = .ok false { s with l := [] } := by
          unfold DL.andM
          rw [M.bind_ap]
          have : bagNe { s with l := [] } = .ok false { s with l := [] } := by unfold bagNe; rw [if_pos ⟨hw.1, by simp⟩]; rfl
          rw [this]
          rfl
        show ((DL.andM bagNe (do let x ← bagHd; DL.ask ((eqD x (.int 0)).bind bOf)) : M Bool) { s with l := [] }).wp _ _
        rw [ev]
        intro b Hf2 H2 e2 bg2 hb2
        subst hb2
        exact fin Hf2 H2 e2 bg2 rfl
      | cons a r =>
        have ev : (DL.andM bagNe (do let x ← bagHd; DL.ask ((eqD x (.int 0)).bind bOf)) : M Bool) { s with l := a :: r } = .ok (decide (a = 0)) { s with l := a :: r } := by
          unfold DL.andM
          rw [M.bind_ap]
          have e1 : bagNe { s with l := a :: r } = .ok true { s with l := a :: r } := by unfold bagNe; rw [if_pos ⟨hw.1, h1000⟩]; rfl
          rw [e1]
          show (((do let x ← bagHd; DL.ask ((eqD x (.int 0)).bind bOf)) : M Bool) { s with l := a :: r }) = _
          rw [M.bind_ap]
          have e2 : bagHd { s with l := a :: r } = .ok (.int a) { s with l := a :: r } := by
            unfold bagHd
            simp only [hw.1]
          rw [e2]
          rfl
        show ((DL.andM bagNe (do let x ← bagHd; DL.ask ((eqD x (.int 0)).bind bOf)) : M Bool) { s with l := a :: r }).wp _ _
        rw [ev]
        intro b Hf2 H2 e2 bg2 hb2
        by_cases c : a = 0
        · rw [decide_eq_true c] at hb2
          subst hb2
          rw [if_pos rfl]
          refine ⟨fun σ'' H'' => ∃ Hf'', Sub Hf Hf'' ∧ StS X.K X.mg fx Hf'' H'' σ'' G { s with l := r }, fun σ'' H'' ⟨Hf'', sb2, st2⟩ => ⟨r.length, by rw [← hl]; exact Nat.lt_succ_self _, Hf'', r, sb2, st2, rfl, by simp only [List.length_cons] at h1000; omega, by rw [← he, List.dropWhile_cons]; simp [c]⟩, Hf2, { s with l := a :: r }, st.step e2 bg2, ?_⟩
          have ev2 : (do bagPop; pure (.nx ()) : M (Fl Unit Unit)) { s with l := a :: r } = .ok (.nx ()) { s with l := r } := by
            rw [M.bind_ap]
            have : bagPop { s with l := a :: r } = .ok () { s with l := r } := by unfold bagPop; simp only [hw.1]
            rw [this]
            rfl
          show ((do bagPop; pure (.nx ()) : M (Fl Unit Unit)) { s with l := a :: r }).wp _ _
          rw [ev2]
          exact fun Hf3 H3 σ3 sb3 st3 => ⟨Hf3, (sb.trans e2.sub).trans sb3, st3⟩
        · rw [decide_eq_false c] at hb2
          subst hb2
          rw [if_neg Bool.false_ne_true]
          exact fin Hf2 H2 e2 bg2 (by rw [List.dropWhile_cons]; simp [c])
    · rw [if_neg hw] at w
      exact w.elim
end
/-! ### a wide bag is made -/
def scrOf : D → Option (List Int)
  | .scr is => some is
  | _ => none
def intsOf : List D → Option (List Int)
  | [] => some []
  | .int i :: r => (intsOf r).map (i :: ·)
  | _ => none
theorem intsOf_eq : ∀ {cs : List D} {l : List Int}, intsOf cs = some l → cs = l.map .int
  | [], l, h => by cases h; rfl
  | .int i :: r, l, h => by
    unfold intsOf at h
    cases e : intsOf r with
    | none => rw [e] at h; cases h
    | some l' => rw [e] at h; cases h; rw [intsOf_eq e]; rfl
  | .non :: r, l, h => by cases h
  | .bl _ :: r, l, h => by cases h
  | .str _ :: r, l, h => by cases h
  | .tup _ :: r, l, h => by cases h
  | .lst _ :: r, l, h => by cases h
  | .dic _ _ :: r, l, h => by cases h
  | .ins _ _ _ :: r, l, h => by cases h
  | .scr _ :: r, l, h => by cases h
  | .xc _ _ _ _ :: r, l, h => by cases h
theorem intsOf_map : ∀ l : List Int, intsOf (l.map .int) = some l
  | [] => rfl
  | i :: l => by rw [List.map_cons, intsOf, intsOf_map l]; rfl
def withBagW {α β : Type} (d : D) (body : M (Fl α β)) : R (Fl α β) := match d with
  | .lst [.lst cs, .int y, .int z] => match intsOf cs with
    | some l => match body ⟨0, y, z, l, true⟩ with
      | .ok f _ => .ok f
      | .ex e _ => .ex e
      | .stuck => .stuck
    | none => .stuck
  | _ => .stuck
abbrev Fx.baggedL (fx : Fx) (L : List Addr) : Fx := { fx with bag := L }
section
variable {K : PySem.W.Frag} {mg : Str → Option Value} {fx : Fx}
theorem Ste.unbagL {L : List Addr} {Hf H Hf' H' : Hp} (e : Ste L Hf H Hf' H') (hb : ∀ b ∈ L, H b = none) : Ste [] Hf H Hf' H' :=
  ⟨e.sub, e.top, fun a o q _ => e.keep a o q (fun m => by rw [hb a m] at q; cases q), e.dom, e.fresh⟩
theorem StS.unbagL {L : List Addr} {Hf H : Hp} {σ : L2.St} {G : List Sl} {s s0 : S} (hfx : fx.bag = []) (hme : fx.me = []) (hb : ∀ b ∈ L, fx.H0 b = none) (st : StS K mg (fx.baggedL L) Hf H σ G s) (hG : G.all noBg = true) : StS K mg fx Hf H σ G s0 := by
  have st0 : Ste L fx.Hf0 fx.H0 Hf H := by
    have z := st.ste
    have e : (fx.baggedL L).me = [] := hme
    rw [e] at z
    exact z
  refine ⟨by rw [hfx, hme]; exact Ste.unbagL st0 hb, by rw [hfx]; trivial, by rw [hfx, hme]; intro b hb; (cases hb), st.len, fun i x e => ?_, st.dis⟩
  have so := st.sl i x e
  cases x with
  | un => trivial
  | im d => exact so
  | bg =>
    have := List.all_eq_true.mp hG _ (List.mem_of_getElem? e)
    cases this
  | ow ds =>
    obtain ⟨p, vs, e1, h, hf, h0, nb, l, hz⟩ := so
    exact ⟨p, vs, e1, h, hf, h0, by rw [hfx]; simp, l, hz⟩
  | od ks ds =>
    obtain ⟨p, vs, e1, h, hf, h0, nb, l, l', hz⟩ := so
    exact ⟨p, vs, e1, h, hf, h0, by rw [hfx]; simp, l, l', hz⟩
  | ob ks ds =>
    obtain ⟨p, C, dx, vs, e1, h, hf, h0, nb, l⟩ := so
    exact ⟨p, C, dx, vs, e1, h, hf, h0, by rw [hfx]; simp, l⟩
theorem ints_is {H : Hp} : ∀ {l : List Int} {vs : List V}, IsL K mg H (l.map .int) vs → vs = l.map V.int
  | [], vs, h => h
  | i :: l, vs, h => by
    obtain ⟨v, r, rfl, e, h'⟩ := h
    rw [ints_is h']
    cases e
    rfl
theorem scr_small {Hf : Hp} {is : List Int} {v : V} (h : Is K mg Hf (.scr is) v) : ∃ Hs, Sub Hs Hf ∧ Is K mg Hs (.scr is) v ∧ ∀ a l, Hs a ≠ some (.lst l) := by
  rw [Is] at h
  obtain ⟨z, a, rfl, q⟩ := h
  rcases q with ⟨o, q⟩ | q
  · refine ⟨fun x => if x = a then some (.frz o (.lst (is.map V.int))) else none, fun x u e => ?_, ?_, fun x l e => ?_⟩
    · dsimp only at e
      by_cases c : x = a
      · rw [if_pos c] at e
        cases e
        rw [c]; exact q
      · rw [if_neg c] at e; cases e
    · rw [Is]
      exact ⟨z, a, rfl, .inl ⟨o, if_pos rfl⟩⟩
    · dsimp only at e
      by_cases c : x = a
      · rw [if_pos c] at e; cases e
      · rw [if_neg c] at e; cases e
  · have s0 : Sub (fun _ => none) Hf := fun x u e => by cases e
    refine ⟨fun _ => none, s0, ?_, by intro x l e; cases e⟩
    rw [Is]
    exact ⟨z, a, rfl, .inr q⟩
end
section
variable {X : Cx} {fx : Fx} {G : List Sl} {α β : Type} {kk j : Nat} {rest : List Stmt} {ex : α → List Sl} {exb : β → List Sl} {pos : Pos} {n : Str} {pos' : Pos}
theorem Cok.baggedL (C : Cok X fx kk) (L : List Addr) : Cok X (fx.baggedL L) kk := ⟨C.calm, C.hp, C.tk, C.rm, C.nd, C.gd⟩
theorem StS.setBg2 {i : Nat} {b c : Addr} {Hf H : Hp} {σ : L2.St} {y z : Int} {l : List Int} {s : S} (hfx : fx.bag = []) (hme : fx.me = []) (st : StS X.K X.mg fx Hf H σ G s) (no : ∀ x ∈ [b, c], ∀ (j : Nat) (q : Addr), σ[j]? = some (some (.ref q)) → (∀ u, G[j]? = some u → isOw u = true → q ≠ x)) (ne : b ≠ c) (hb : H b = some (.lst [.ref c, .int y, .int z])) (hc : H c = some (.lst (l.map V.int))) (hf : ∀ x ∈ [b, c], Hf x = none) (hG : G.all noBg = true) :
    StS X.K X.mg (fx.baggedL [b, c]) Hf H (σ.set i (some (.ref b))) (G.set i .bg) ⟨0, y, z, l, true⟩ := by
  refine ⟨⟨st.ste.sub, st.ste.top, fun a o q _ => st.ste.keep a o q (by rw [hfx, hme]; simp), st.ste.dom, st.ste.fresh⟩, ⟨rfl, ne, hb, hc⟩, fun x hx => ?_, by simpa using st.len, fun j u e => ?_, fun j k u w p hjk ex ey ox oy e1 e2 => ?_⟩
  · have hm : (fx.baggedL [b, c]).me = [] := hme
    rw [hm] at hx ⊢
    have hx' : x ∈ [b, c] := hx
    refine ⟨hf x hx', ?_, fun z => nomatch z⟩
    simp only [List.mem_cons, List.not_mem_nil, or_false] at hx'
    rcases hx' with rfl | rfl
    · rw [hb]; simp
    · rw [hc]; simp
  · have nb : ∀ p, σ[j]? = some (some (.ref p)) → ∀ v, G[j]? = some v → isOw v = true → p ∉ [b, c] := fun p e1 v ev ov m => no p m j p e1 v ev ov rfl
    by_cases q : i = j
    · subst q
      have hi : i < G.length := by
        have := (List.getElem?_eq_some_iff.mp e).1
        simpa using this
      rw [List.getElem?_set_self hi] at e
      cases e
      exact ⟨b, [c], rfl, List.getElem?_set_self (by rw [st.len]; exact hi)⟩
    · rw [List.getElem?_set_ne q] at e
      rw [List.getElem?_set_ne q]
      have so := st.sl j u e
      cases u with
      | un => trivial
      | im d => exact so
      | bg =>
        have := List.all_eq_true.mp hG _ (List.mem_of_getElem? e)
        cases this
      | ow ds =>
        obtain ⟨p, vs, e1, h, hf', h0', _, l, hz⟩ := so
        exact ⟨p, vs, e1, h, hf', h0', nb p e1 _ e rfl, l, hz⟩
      | od ks ds =>
        obtain ⟨p, vs, e1, h, hf', h0', _, l, l', hz⟩ := so
        exact ⟨p, vs, e1, h, hf', h0', nb p e1 _ e rfl, l, l', hz⟩
      | ob ks ds =>
        obtain ⟨p, C, dx, vs, e1, h, hf', h0', _, l⟩ := so
        exact ⟨p, C, dx, vs, e1, h, hf', h0', nb p e1 _ e rfl, l⟩
  · have nj : i ≠ j := by
      rintro rfl
      have hi : i < G.length := by
        have := (List.getElem?_eq_some_iff.mp ex).1
        simpa using this
      rw [List.getElem?_set_self hi] at ex
      cases ex; cases ox
    have nk : i ≠ k := by
      rintro rfl
      have hi : i < G.length := by
        have := (List.getElem?_eq_some_iff.mp ey).1
        simpa using this
      rw [List.getElem?_set_self hi] at ey
      cases ey; cases oy
    rw [List.getElem?_set_ne nj] at ex e1
    rw [List.getElem?_set_ne nk] at ey e2
    exact st.dis j k u w p hjk ex ey ox oy e1 e2
/-- bag = _law_bag(script): both its lists are new -/
theorem dss_bagW {a0 : D} {g : List D → R D} {k : M (Fl α β)} {f : Addr} {fd : FuncData} {ps : List Str} {nm sn : Str} {p sp cpos : Pos} (C : Cok X fx kk) (i : Nat) (si : Nat) (F : FnG X.prog X.w X.K X.mg X.base j f fd ps (spR X.K X.mg false 1 g)) (hm : X.mg nm = some (.ref f)) (hk : PySem.W.keepIn X.K (.ref f) = true) (hb : Binds X.K fd ps [])
    (hr : ∀ L, Cok X (fx.baggedL L) kk → PSs X rest (tS X.K X.mg (fx.baggedL L) (G.set i .bg) ex exb k)) (hex : ∀ a, (ex a).all noBg = true) (hexb : ∀ a, (exb a).all noBg = true) (hfx : fx.bag = [] := by rfl) (hme : fx.me = [] := by rfl) (hgx : fx.gx = none := by rfl) (hnr : fx.nr = false := by rfl) (hG : G.all noBg = true := by rfl)
    (hS : G[si]? = some (.im a0) := by rfl) (hNS : X.N[si]? = some sn := by rfl) (hvS : Vis X.env.scope sn := by first | exact Or.inl rfl | exact Or.inr (Or.inl rfl) | exact Or.inr (Or.inr rfl)) (hdS : (sn == ("__debug__" : Str)) = false := by decide) (hcS : (sn == ("__classdict__" : Str)) = false := by decide)
    (hj : j ≤ kk := by decide) (hg : Gl X nm := by rfl) (hdb : (nm == ("__debug__" : Str)) = false := by decide) (he : starEach [(.Name sn sp : Expr)] X.env = (false, eval (.Name sn sp) X.env) :: starEach [] X.env := by rfl) (hpl : (backTo cpos (starEach [] X.env)).any (·.1) = false := by rfl)
    (hi : X.N[i]? = some n := by rfl) (hx : Loc X.env.scope n := by first | exact Or.inl rfl | exact Or.inr rfl)
    (hs : swapsWith (.Call (.Name nm p) [.Name sn sp] [] cpos) (some (.Name n pos')) pos.line X.env = pure false := by rfl) (hf : X.fn n = true ∨ X.env.scope.names.lookup n = some .local := by first | exact .inl rfl | exact .inr rfl) :
    PSs X (.Assign [.Name n pos'] (.Call (.Name nm p) [.Name sn sp] [] cpos) pos :: rest) (tS X.K X.mg fx G ex exb (do let is ← ask (scrOf a0); let d ← Mo.noex (g [.scr is]); withBagW d k)) :=
  pssI (pss_cons (ps_set C.nd hi hx (pe_callG (E := WE fx.W) F C.gd (C.rm.mono hj) hg hm hk hb .nil (fun σ => passAt C.tk σ) (pa_cons (pe_var hNS hvS hdS hcS) pa_nil he) hdb he hpl) hs hf) (pss_ex fun L => hr L (C.baggedL L))) fun De σ H ⟨Hf, s, h⟩ => by
    obtain ⟨st, w⟩ := h
    obtain ⟨v, ev, iv⟩ := st.sl si _ hS
    cases a0 with
    | scr is =>
      have w1 : (R.nx (g [.scr is])).wp s (fun d s1 => R.wp (withBagW d k) s1 (FP X.K X.mg fx Hf ex exb De) (EXS X.K X.mg fx)) (EXS X.K X.mg fx) := Mo.wp_bind (show Mo.wp (Mo.noex (g [.scr is]) >>= fun d => withBagW d k) s (FP X.K X.mg fx Hf ex exb De) (EXS X.K X.mg fx) from w)
      obtain ⟨Hs, ss, is', hno⟩ := scr_small iv
      refine ⟨v, ev, ?_⟩
      show spR X.K X.mg false 1 g [v] H _ _
      refine ⟨rfl, Hs, [.scr is], ss.trans st.top, .cons is' .nil, ?_⟩
      cases hgd : g [.scr is] with
      | ok d =>
        rw [hgd] at w1
        have w2 : R.wp (withBagW d k) s (FP X.K X.mg fx Hf ex exb De) (EXS X.K X.mg fx) := w1
        intro v' Hf' H' e2 i2
        have i3 : Is X.K X.mg Hf' d v' := i2
        unfold withBagW at w2
        split at w2
        · rename_i cs y z
          split at w2
          · rename_i l hl
            have := intsOf_eq hl
            subst this
            rw [Is] at i3
            obtain ⟨_, b, vs, rfl, hb', l1⟩ := i3
            obtain ⟨vc, r1, rfl, ic, v2, r2, rfl, rfl, v3, r3, rfl, rfl, rfl⟩ := l1
            rw [Is] at ic
            obtain ⟨_, c, ws, rfl, hc', l2⟩ := ic
            have := ints_is l2
            subst this
            have fr : ∀ a l, Hf' a = some (.lst l) → H a = none := fun a l q => by
              rcases e2.fresh a _ q with h1 | h1
              · exact absurd h1 (hno a l)
              · exact h1
            have hb0 := fr b _ hb'
            have hc0 := fr c _ hc'
            have ne : b ≠ c := fun z => by
              rw [z, hc'] at hb'
              cases l with
              | nil => cases hb'
              | cons t l => cases hb'
            have nb0 := st.new0 hb0
            have nc0 := st.new0 hc0
            have h00 : ∀ x ∈ [b, c], fx.H0 x = none := fun x hx => by
              simp only [List.mem_cons, List.not_mem_nil, or_false] at hx
              rcases hx with rfl | rfl
              · exact nb0.1
              · exact nc0.1
            have hff : ∀ x ∈ [b, c], Hf x = none := fun x hx => by
              simp only [List.mem_cons, List.not_mem_nil, or_false] at hx
              rcases hx with rfl | rfl
              · exact st.top.none hb0
              · exact st.top.none hc0
            have e3 : Ste [] Hf H Hf H' := ⟨.refl _, fun a o q => e2.keep a o (st.top a o q) (by simp), e2.keep, e2.dom, fun a o q => .inl q⟩
            have st1 : StS X.K X.mg fx Hf H' σ G s := st.step e3.wide (e3.bag st.bag)
            refine ⟨[b, c], Hf, ⟨0, y, z, l, true⟩, StS.setBg2 hfx hme st1 (fun x hx => ?_) ne (e2.top _ _ hb') (e2.top _ _ hc') hff hG, ?_⟩
            · simp only [List.mem_cons, List.not_mem_nil, or_false] at hx
              rcases hx with rfl | rfl
              · exact st.owNe hb0
              · exact st.owNe hc0
            show (k _).wp _ _
            cases q : k ⟨0, y, z, l, true⟩ with
            | ok f s2 =>
              rw [q] at w2
              have w3 : FP X.K X.mg fx Hf ex exb De f s := w2
              show FP X.K X.mg (fx.baggedL [b, c]) Hf ex exb De f s2
              cases f with
              | nx a => exact fun Hf' H' σ' sb st => w3 Hf' H' σ' sb (StS.unbagL hfx hme h00 st (hex a))
              | rt d => exact fun v Hf' H' st bg' r => w3 v Hf' H' (by rw [hfx, hme]; exact Ste.unbagL (by have e : (fx.baggedL [b, c]).me = [] := hme; rw [e] at st; exact st) h00) (by rw [hfx]; trivial) r
              | bk b => exact fun Hf' H' σ' sb st => w3 Hf' H' σ' sb (StS.unbagL hfx hme h00 st (hexb b))
              | ct b => exact fun Hf' H' σ' sb st => w3 Hf' H' σ' sb (StS.unbagL hfx hme h00 st (hexb b))
            | ex e2 s2 =>
              rw [q] at w2
              have w3 : EXS X.K X.mg fx e2 s := w2
              show EXS X.K X.mg (fx.baggedL [b, c]) e2 s2
              intro cls dd σ' Hf' H' xs xi
              refine w3 cls dd σ' Hf' H' ?_ xi
              unfold XSt at xs ⊢
              have hgx' : (fx.baggedL [b, c]).gx = none := hgx
              rw [hgx'] at xs
              rw [hgx]
              exact ⟨by rw [hfx, hme]; exact Ste.unbagL (by have z := xs.1; have e : (fx.baggedL [b, c]).me = [] := hme; rw [e] at z; exact z) h00, by rw [hfx]; trivial⟩
            | stuck => rw [q] at w2; exact w2.elim
          · exact w2.elim
        · exact w2.elim
      | ex e => rw [hgd] at w1; exact w1.elim
      | stuck => rw [hgd] at w1; exact w1.elim
    | _ => exact w.elim
end
/-! ### a + b of lists: a new list -/
end DL
namespace FN
open DL
def k__law_bag_d7b5_0 (q3 : D) (c4 : D) : R (Fl (D) (D)) := (do let v11 ← (do let x23 ← (do let r22 ← (do let x20 ← (do let x18 ← (do let x16 ← (do let x12 ← (pure q3); let y13 ← (pure (.int 6364136223846793005)); DL.ask (mulD x12 y13)); let y17 ← (do let x14 ← (pure c4); let y15 ← (pure (.int 48271)); DL.ask (mulD x14 y15)); DL.ask (addD x16 y17)); let y19 ← (pure (.int 7919)); DL.ask (addD x18 y19)); let r21 ← pure []; pure (x20 :: r21)); DL.ask (intD r22)); let y24 ← (pure (.int 2305843009213693951)); DL.ask (modD x23 y24)); (pure (.nx v11)))
theorem l__law_bag_d7b5_0 (q3 : D) (c4 : D) : k__law_bag_d7b5_0 q3 c4 = (do let v11 ← (do let x23 ← (do let r22 ← (do let x20 ← (do let x18 ← (do let x16 ← (do let x12 ← (pure q3); let y13 ← (pure (.int 6364136223846793005)); DL.ask (mulD x12 y13)); let y17 ← (do let x14 ← (pure c4); let y15 ← (pure (.int 48271)); DL.ask (mulD x14 y15)); DL.ask (addD x16 y17)); let y19 ← (pure (.int 7919)); DL.ask (addD x18 y19)); let r21 ← pure []; pure (x20 :: r21)); DL.ask (intD r22)); let y24 ← (pure (.int 2305843009213693951)); DL.ask (modD x23 y24)); (pure (.nx v11))) := rfl
def k__law_bag_d7b5_1 (a0 : D) (q26 : D) : R (Fl (Unit) (Empty)) := (do let v46 ← (mkL (do let r45 ← (do let x43 ← (mkL (do let r38 ← (do let r27 ← (pure a0); DL.ask (itD r27)); lcF (fun d => some d) (fun (c29 : D) => (do let x33 ← (do let r32 ← (do let x30 ← (pure c29); let r31 ← pure []; pure (x30 :: r31)); DL.ask (absD r32)); let y34 ← (do let x ← (pure (.int 10)); let y ← (pure (.int 18)); DL.ask (powC x y)); DL.ask ((geD x33 y34).bind bOf))) (fun (c29 : D) => (do let r37 ← (do let x35 ← (pure c29); let r36 ← pure []; pure (x35 :: r36)); DL.ask (absD r37))) r38)); let r44 ← (do let x41 ← (pure q26); let r42 ← (do let x39 ← (pure (.int 0)); let r40 ← pure []; pure (x39 :: r40)); pure (x41 :: r42)); pure (x43 :: r44)); DL.ask (szL r45))); pure (.rt v46))
theorem l__law_bag_d7b5_1 (a0 : D) (q26 : D) : k__law_bag_d7b5_1 a0 q26 = (do let v46 ← (mkL (do let r45 ← (do let x43 ← (mkL (do let r38 ← (do let r27 ← (pure a0); DL.ask (itD r27)); lcF (fun d => some d) (fun (c29 : D) => (do let x33 ← (do let r32 ← (do let x30 ← (pure c29); let r31 ← pure []; pure (x30 :: r31)); DL.ask (absD r32)); let y34 ← (do let x ← (pure (.int 10)); let y ← (pure (.int 18)); DL.ask (powC x y)); DL.ask ((geD x33 y34).bind bOf))) (fun (c29 : D) => (do let r37 ← (do let x35 ← (pure c29); let r36 ← pure []; pure (x35 :: r36)); DL.ask (absD r37))) r38)); let r44 ← (do let x41 ← (pure q26); let r42 ← (do let x39 ← (pure (.int 0)); let r40 ← pure []; pure (x39 :: r40)); pure (x41 :: r42)); pure (x43 :: r44)); DL.ask (szL r45))); pure (.rt v46)) := rfl
def k__law_bag_d7b5_2 (a0 : D) (v1 : D) : R (Fl (Unit) (Empty)) := (do let r47 ← (do let r2 ← (pure a0); DL.ask (itD r2)); seqF (forF (fun d => some d) (fun (q3 : D) (c4 : D) => (do let t25 ← (do let x8 ← (do let r7 ← (do let x5 ← (pure c4); let r6 ← pure []; pure (x5 :: r6)); DL.ask (absD r7)); let y9 ← (do let x ← (pure (.int 10)); let y ← (pure (.int 18)); DL.ask (powC x y)); DL.ask ((ltD x8 y9).bind bOf)); seqF (if t25 = true then (k__law_bag_d7b5_0 q3 c4) else (pure (.nx q3))) fun (q10 : D) => (pure (.nx q10)))) r47 v1) fun (q26 : D) => (k__law_bag_d7b5_1 a0 q26))
theorem l__law_bag_d7b5_2 (a0 : D) (v1 : D) : k__law_bag_d7b5_2 a0 v1 = (do let r47 ← (do let r2 ← (pure a0); DL.ask (itD r2)); seqF (forF (fun d => some d) (fun (q3 : D) (c4 : D) => (do let t25 ← (do let x8 ← (do let r7 ← (do let x5 ← (pure c4); let r6 ← pure []; pure (x5 :: r6)); DL.ask (absD r7)); let y9 ← (do let x ← (pure (.int 10)); let y ← (pure (.int 18)); DL.ask (powC x y)); DL.ask ((ltD x8 y9).bind bOf)); seqF (if t25 = true then (k__law_bag_d7b5_0 q3 c4) else (pure (.nx q3))) fun (q10 : D) => (pure (.nx q10)))) r47 v1) fun (q26 : D) => (k__law_bag_d7b5_1 a0 q26)) := rfl
def b__law_bag_d7b5 (a0 : D) : R (Fl Unit Empty) := (do let v1 ← (pure (.int 1299709)); (k__law_bag_d7b5_2 a0 v1))
theorem e__law_bag_d7b5 (a0 : D) : b__law_bag_d7b5 a0 = (do let r47 ← (DL.ask (itD a0)); seqF (forF (fun d => some d) (fun (q3 : D) (c4 : D) => (do let x8 ← (DL.ask (absD [c4])); let y9 ← (DL.ask (powC (.int 10) (.int 18))); let t25 ← (DL.ask ((ltD x8 y9).bind bOf)); seqF (if t25 = true then (do let x16 ← (DL.ask (mulD q3 (.int 6364136223846793005))); let y17 ← (DL.ask (mulD c4 (.int 48271))); let x18 ← (DL.ask (addD x16 y17)); let x20 ← (DL.ask (addD x18 (.int 7919))); let x23 ← (DL.ask (intD [x20])); let v11 ← (DL.ask (modD x23 (.int 2305843009213693951))); (pure (.nx v11))) else (pure (.nx q3))) fun (q10 : D) => (pure (.nx q10)))) r47 (.int 1299709)) fun (q26 : D) => (do let r38 ← (DL.ask (itD a0)); let x43 ← (lcF (fun d => some d) (fun (c29 : D) => (do let x33 ← (DL.ask (absD [c29])); let y34 ← (DL.ask (powC (.int 10) (.int 18))); DL.ask ((geD x33 y34).bind bOf))) (fun (c29 : D) => (DL.ask (absD [c29]))) r38); let v46 ← (DL.ask (szL [(.lst x43), q26, (.int 0)])); pure (.rt (.lst v46)))) := by
  unfold b__law_bag_d7b5; simp only [l__law_bag_d7b5_0, l__law_bag_d7b5_1, l__law_bag_d7b5_2, pure_bind, bind_assoc, mkL]
def m__law_bag_d7b5 : List D → R D := apR1 fun a0 => (runR false (b__law_bag_d7b5 a0))
def k__law_take_bb49_0 (v19 : D) (a1 : D) : M (Fl (Unit) (Empty)) := (do let v31 ← (do let x41 ← (do let r40 ← (do let x38 ← (do let x36 ← (do let x34 ← (pure v19); let y35 ← (do let x32 ← (pure (.int 32452867)); let y33 ← bagZ; DL.ask (mulD x32 y33)); DL.ask (addD x34 y35)); let y37 ← (pure (.int 2)); DL.ask (powC x36 y37)); let r39 ← pure []; pure (x38 :: r39)); DL.ask (intD r40)); let y42 ← (pure (.int 2305843009213693951)); DL.ask (modD x41 y42)); (do let v50 ← (do let x48 ← (do let r47 ← (do let x45 ← (do let x43 ← (pure v31); let y44 ← (pure (.int 4096)); DL.ask (fdivD x43 y44)); let r46 ← pure []; pure (x45 :: r46)); DL.ask (intD r47)); let y49 ← (pure a1); DL.ask (modD x48 y49)); pure (.rt v50)))
theorem l__law_take_bb49_0 (v19 : D) (a1 : D) : k__law_take_bb49_0 v19 a1 = (do let v31 ← (do let x41 ← (do let r40 ← (do let x38 ← (do let x36 ← (do let x34 ← (pure v19); let y35 ← (do let x32 ← (pure (.int 32452867)); let y33 ← bagZ; DL.ask (mulD x32 y33)); DL.ask (addD x34 y35)); let y37 ← (pure (.int 2)); DL.ask (powC x36 y37)); let r39 ← pure []; pure (x38 :: r39)); DL.ask (intD r40)); let y42 ← (pure (.int 2305843009213693951)); DL.ask (modD x41 y42)); (do let v50 ← (do let x48 ← (do let r47 ← (do let x45 ← (do let x43 ← (pure v31); let y44 ← (pure (.int 4096)); DL.ask (fdivD x43 y44)); let r46 ← pure []; pure (x45 :: r46)); DL.ask (intD r47)); let y49 ← (pure a1); DL.ask (modD x48 y49)); pure (.rt v50))) := rfl
def k__law_take_bb49_1 (a1 : D) : M (Fl (Unit) (Empty)) := (do let v19 ← (do let x29 ← (do let r28 ← (do let x26 ← (do let x24 ← (do let x22 ← bagY3; let y23 ← (do let x20 ← (pure (.int 15485863)); let y21 ← bagZ; DL.ask (mulD x20 y21)); DL.ask (addD x22 y23)); let y25 ← (pure (.int 3)); DL.ask (powC x24 y25)); let r27 ← pure []; pure (x26 :: r27)); DL.ask (intD r28)); let y30 ← (pure (.int 2305843009213693921)); DL.ask (modD x29 y30)); (k__law_take_bb49_0 v19 a1))
theorem l__law_take_bb49_1 (a1 : D) : k__law_take_bb49_1 a1 = (do let v19 ← (do let x29 ← (do let r28 ← (do let x26 ← (do let x24 ← (do let x22 ← bagY3; let y23 ← (do let x20 ← (pure (.int 15485863)); let y21 ← bagZ; DL.ask (mulD x20 y21)); DL.ask (addD x22 y23)); let y25 ← (pure (.int 3)); DL.ask (powC x24 y25)); let r27 ← pure []; pure (x26 :: r27)); DL.ask (intD r28)); let y30 ← (pure (.int 2305843009213693921)); DL.ask (modD x29 y30)); (k__law_take_bb49_0 v19 a1)) := rfl
def k__law_take_bb49_2 (a1 : D) : M (Fl (Unit) (Empty)) := (do let t51 ← bagNe; seqF (if t51 = true then (do let v4 ← (do let x8 ← (do let r7 ← (do let x5 ← bagHd; let r6 ← pure []; pure (x5 :: r6)); DL.ask (intD r7)); let y9 ← (pure a1); DL.ask (modD x8 y9)); (do let v10 ← (do let x11 ← bagHd; let y12 ← (pure a1); DL.ask (fdivD x11 y12)); let i13 ← DL.ask (intOf v10); bagSetHd i13; (do let v14 ← (pure v4); pure (.rt v14)))) else (pure (.nx ()))) fun (q3 : Unit) => (do let v15 ← (do let x16 ← bagZ; let y17 ← (pure (.int 1)); DL.ask (addD x16 y17)); let i18 ← DL.ask (intOf v15); bagSetZ i18; (k__law_take_bb49_1 a1)))
theorem l__law_take_bb49_2 (a1 : D) : k__law_take_bb49_2 a1 = (do let t51 ← bagNe; seqF (if t51 = true then (do let v4 ← (do let x8 ← (do let r7 ← (do let x5 ← bagHd; let r6 ← pure []; pure (x5 :: r6)); DL.ask (intD r7)); let y9 ← (pure a1); DL.ask (modD x8 y9)); (do let v10 ← (do let x11 ← bagHd; let y12 ← (pure a1); DL.ask (fdivD x11 y12)); let i13 ← DL.ask (intOf v10); bagSetHd i13; (do let v14 ← (pure v4); pure (.rt v14)))) else (pure (.nx ()))) fun (q3 : Unit) => (do let v15 ← (do let x16 ← bagZ; let y17 ← (pure (.int 1)); DL.ask (addD x16 y17)); let i18 ← DL.ask (intOf v15); bagSetZ i18; (k__law_take_bb49_1 a1))) := rfl
def b__law_take_bb49 (a1 : D) : M (Fl Unit Empty) := (do bagDrop; (k__law_take_bb49_2 a1))
theorem e__law_take_bb49 (a1 : D) : b__law_take_bb49 a1 = (do bagDrop; let t51 ← bagNe; seqF (if t51 = true then (do let x5 ← bagHd; let x8 ← (DL.ask (intD [x5])); let v4 ← (DL.ask (modD x8 a1)); let x11 ← bagHd; let v10 ← (DL.ask (fdivD x11 a1)); let i13 ← DL.ask (intOf v10); bagSetHd i13; (pure (.rt v4))) else (pure (.nx ()))) fun (q3 : Unit) => (do let x16 ← bagZ; let v15 ← (DL.ask (addD x16 (.int 1))); let i18 ← DL.ask (intOf v15); bagSetZ i18; let x22 ← bagY3; let y21 ← bagZ; let y23 ← (DL.ask (mulD (.int 15485863) y21)); let x24 ← (DL.ask (addD x22 y23)); let x26 ← (DL.ask (powC x24 (.int 3))); let x29 ← (DL.ask (intD [x26])); let v19 ← (DL.ask (modD x29 (.int 2305843009213693921))); let y33 ← bagZ; let y35 ← (DL.ask (mulD (.int 32452867) y33)); let x36 ← (DL.ask (addD v19 y35)); let x38 ← (DL.ask (powC x36 (.int 2))); let x41 ← (DL.ask (intD [x38])); let v31 ← (DL.ask (modD x41 (.int 2305843009213693951))); let x45 ← (DL.ask (fdivD v31 (.int 4096))); let x48 ← (DL.ask (intD [x45])); let v50 ← (DL.ask (modD x48 a1)); pure (.rt v50))) := by
  unfold b__law_take_bb49; simp only [l__law_take_bb49_0, l__law_take_bb49_1, l__law_take_bb49_2, pure_bind, bind_assoc, mkL]
def m__law_take_bb49 : List D → M D := apM1 fun a1 => (runM false (b__law_take_bb49 a1))
theorem n__law_take_bb49 : ∀ ds s, m__law_take_bb49 ds s ≠ .stuck → ds.length = 1 := apM1_len _
def k__law_ends_f9cd_0 (a0 : D) (a1 : D) : R (Fl (Unit) (Empty)) := (do let v24 ← (andV (do let x7 ← (do let r3 ← (do let x1 ← (pure a0); let r2 ← pure []; pure (x1 :: r2)); DL.ask (lenD r3)); let y8 ← (do let r6 ← (do let x4 ← (pure a1); let r5 ← pure []; pure (x4 :: r5)); DL.ask (lenD r6)); DL.ask (geD x7 y8)) (do let x22 ← (do let x19 ← (pure a0); let l20 ← (do let x17 ← (do let x15 ← (do let r11 ← (do let x9 ← (pure a0); let r10 ← pure []; pure (x9 :: r10)); DL.ask (lenD r11)); let y16 ← (do let r14 ← (do let x12 ← (pure a1); let r13 ← pure []; pure (x12 :: r13)); DL.ask (lenD r14)); DL.ask (subD x15 y16)); let i18 ← DL.ask (intOf x17); pure (some i18)); let u21 ← (pure none); DL.ask (sliceD x19 l20 u21)); let y23 ← (pure a1); DL.ask (eqD x22 y23))); pure (.rt v24))
theorem l__law_ends_f9cd_0 (a0 : D) (a1 : D) : k__law_ends_f9cd_0 a0 a1 = (do let v24 ← (andV (do let x7 ← (do let r3 ← (do let x1 ← (pure a0); let r2 ← pure []; pure (x1 :: r2)); DL.ask (lenD r3)); let y8 ← (do let r6 ← (do let x4 ← (pure a1); let r5 ← pure []; pure (x4 :: r5)); DL.ask (lenD r6)); DL.ask (geD x7 y8)) (do let x22 ← (do let x19 ← (pure a0); let l20 ← (do let x17 ← (do let x15 ← (do let r11 ← (do let x9 ← (pure a0); let r10 ← pure []; pure (x9 :: r10)); DL.ask (lenD r11)); let y16 ← (do let r14 ← (do let x12 ← (pure a1); let r13 ← pure []; pure (x12 :: r13)); DL.ask (lenD r14)); DL.ask (subD x15 y16)); let i18 ← DL.ask (intOf x17); pure (some i18)); let u21 ← (pure none); DL.ask (sliceD x19 l20 u21)); let y23 ← (pure a1); DL.ask (eqD x22 y23))); pure (.rt v24)) := rfl
def b__law_ends_f9cd (a0 a1 : D) : R (Fl Unit Empty) := (k__law_ends_f9cd_0 a0 a1)
theorem e__law_ends_f9cd (a0 a1 : D) : b__law_ends_f9cd a0 a1 = (do let v24 ← (andV (do let x7 ← (DL.ask (lenD [a0])); let y8 ← (DL.ask (lenD [a1])); DL.ask (geD x7 y8)) (do let x15 ← (DL.ask (lenD [a0])); let y16 ← (DL.ask (lenD [a1])); let x17 ← (DL.ask (subD x15 y16)); let i18 ← DL.ask (intOf x17); let x22 ← (DL.ask (sliceD a0 (some i18) none)); DL.ask (eqD x22 a1))); pure (.rt v24)) := by
  unfold b__law_ends_f9cd; simp only [l__law_ends_f9cd_0, pure_bind, bind_assoc, mkL]
def m__law_ends_f9cd : List D → R D := apR2 fun a0 a1 => (runR false (b__law_ends_f9cd a0 a1))
theorem n__law_ends_f9cd : ∀ ds : List D, m__law_ends_f9cd ds ≠ .stuck → ds.length = 2 := apR2_len _
def b__law_of_8ba0 (a1 : D) : M (Fl Unit Empty) := (do let v9 ← (do let x7 ← (pure a1); let y8 ← (do let r6 ← (do let x4 ← (do let r3 ← (do let x1 ← (pure a1); let r2 ← pure []; pure (x1 :: r2)); DL.ask (lenD r3)); let r5 ← pure []; pure (x4 :: r5)); m__law_take_bb49 r6); DL.ask (ixD x7 y8)); pure (.rt v9))
theorem e__law_of_8ba0 (a1 : D) : b__law_of_8ba0 a1 = (do let x4 ← (DL.ask (lenD [a1])); let y8 ← (m__law_take_bb49 [x4]); let v9 ← (DL.ask (ixD a1 y8)); pure (.rt v9)) := by
  unfold b__law_of_8ba0; simp only [pure_bind, bind_assoc, mkL]
def m__law_of_8ba0 : List D → M D := apM1 fun a1 => (runM false (b__law_of_8ba0 a1))
theorem n__law_of_8ba0 : ∀ ds s, m__law_of_8ba0 ds s ≠ .stuck → ds.length = 1 := apM1_len _
def k__law_label_b886_0 (a1 : D) (v1 : D) : M (Fl (Unit) (Empty)) := (do let v20 ← (do let x18 ← (pure (.str [])); let _ ← DL.ask (strOf x18); let y19 ← (mkL (do let r17 ← (do let r9 ← (do let x7 ← (do let x5 ← (pure (.int 1)); let y6 ← (do let r4 ← (do let x2 ← (pure a1); let r3 ← pure []; pure (x2 :: r3)); m__law_take_bb49 r4); DL.ask (addD x5 y6)); let r8 ← pure []; pure (x7 :: r8)); DL.ask (rng1 r9)); lcF (fun d => some d) (fun (c11 : D) => pure true) (fun (c11 : D) => (do let x15 ← (pure v1); let y16 ← (do let r14 ← (do let x12 ← (pure (.int 36)); let r13 ← pure []; pure (x12 :: r13)); m__law_take_bb49 r14); DL.ask (ixD x15 y16))) r17)); DL.ask (joinD x18 y19)); pure (.rt v20))
theorem l__law_label_b886_0 (a1 : D) (v1 : D) : k__law_label_b886_0 a1 v1 = (do let v20 ← (do let x18 ← (pure (.str [])); let _ ← DL.ask (strOf x18); let y19 ← (mkL (do let r17 ← (do let r9 ← (do let x7 ← (do let x5 ← (pure (.int 1)); let y6 ← (do let r4 ← (do let x2 ← (pure a1); let r3 ← pure []; pure (x2 :: r3)); m__law_take_bb49 r4); DL.ask (addD x5 y6)); let r8 ← pure []; pure (x7 :: r8)); DL.ask (rng1 r9)); lcF (fun d => some d) (fun (c11 : D) => pure true) (fun (c11 : D) => (do let x15 ← (pure v1); let y16 ← (do let r14 ← (do let x12 ← (pure (.int 36)); let r13 ← pure []; pure (x12 :: r13)); m__law_take_bb49 r14); DL.ask (ixD x15 y16))) r17)); DL.ask (joinD x18 y19)); pure (.rt v20)) := rfl
def b__law_label_b886 (a1 : D) : M (Fl Unit Empty) := (do let v1 ← (pure (.str [48, 49, 50, 51, 52, 53, 54, 55, 56, 57, 97, 98, 99, 100, 101, 102, 103, 104, 105, 106, 107, 108, 109, 110, 111, 112, 113, 114, 115, 116, 117, 118, 119, 120, 121, 122])); (k__law_label_b886_0 a1 v1))
theorem e__law_label_b886 (a1 : D) : b__law_label_b886 a1 = (do let _ ← DL.ask (strOf (.str [])); let y6 ← (m__law_take_bb49 [a1]); let x7 ← (DL.ask (addD (.int 1) y6)); let r17 ← (DL.ask (rng1 [x7])); let y19 ← (lcF (fun d => some d) (fun (c11 : D) => pure true) (fun (c11 : D) => (do let y16 ← (m__law_take_bb49 [(.int 36)]); DL.ask (ixD (.str [48, 49, 50, 51, 52, 53, 54, 55, 56, 57, 97, 98, 99, 100, 101, 102, 103, 104, 105, 106, 107, 108, 109, 110, 111, 112, 113, 114, 115, 116, 117, 118, 119, 120, 121, 122]) y16))) r17); let v20 ← (DL.ask (joinD (.str []) (.lst y19))); pure (.rt v20)) := by
  unfold b__law_label_b886; simp only [l__law_label_b886_0, pure_bind, bind_assoc, mkL]
def m__law_label_b886 : List D → M D := apM1 fun a1 => (runM false (b__law_label_b886 a1))
theorem n__law_label_b886 : ∀ ds s, m__law_label_b886 ds s ≠ .stuck → ds.length = 1 := apM1_len _
def k__law_host_9bb9_0 (a1 : D) (q11 : List D) : M (Fl (List D) (List D)) := (do let v13 ← (iteM (do let x18 ← (do let r17 ← (do let x15 ← (pure (.int 6)); let r16 ← pure []; pure (x15 :: r16)); m__law_take_bb49 r17); let y19 ← (pure (.int 5)); DL.ask ((eqD x18 y19).bind bOf)) (do let r22 ← (do let x20 ← (pure (.int 3)); let r21 ← pure []; pure (x20 :: r21)); m__law_label_b886 r22) (do let r25 ← (do let x23 ← (pure a1); let r24 ← pure []; pure (x23 :: r24)); m__law_of_8ba0 r25)); let v14 ← DL.ask (apd q11 v13); (pure (.nx v14)))
theorem l__law_host_9bb9_0 (a1 : D) (q11 : List D) : k__law_host_9bb9_0 a1 q11 = (do let v13 ← (iteM (do let x18 ← (do let r17 ← (do let x15 ← (pure (.int 6)); let r16 ← pure []; pure (x15 :: r16)); m__law_take_bb49 r17); let y19 ← (pure (.int 5)); DL.ask ((eqD x18 y19).bind bOf)) (do let r22 ← (do let x20 ← (pure (.int 3)); let r21 ← pure []; pure (x20 :: r21)); m__law_label_b886 r22) (do let r25 ← (do let x23 ← (pure a1); let r24 ← pure []; pure (x23 :: r24)); m__law_of_8ba0 r25)); let v14 ← DL.ask (apd q11 v13); (pure (.nx v14))) := rfl
def k__law_host_9bb9_1 (a2 : D) (a1 : D) (v1 : List D) : M (Fl (Unit) (Empty)) := (do let r31 ← (do let r10 ← (do let x8 ← (do let x6 ← (pure (.int 1)); let y7 ← (do let r5 ← (do let x3 ← (pure a2); let r4 ← pure []; pure (x3 :: r4)); m__law_take_bb49 r5); DL.ask (addD x6 y7)); let r9 ← pure []; pure (x8 :: r9)); DL.ask (rng1 r10)); seqF (forF (fun d => some d) (fun (q11 : List D) (c12 : D) => (k__law_host_9bb9_0 a1 q11)) r31 v1) fun (q26 : List D) => (do let v30 ← (do let r29 ← (do let x27 ← (pure (.lst q26)); let r28 ← pure []; pure (x27 :: r28)); DL.ask (tupleD r29)); pure (.rt v30)))
theorem l__law_host_9bb9_1 (a2 : D) (a1 : D) (v1 : List D) : k__law_host_9bb9_1 a2 a1 v1 = (do let r31 ← (do let r10 ← (do let x8 ← (do let x6 ← (pure (.int 1)); let y7 ← (do let r5 ← (do let x3 ← (pure a2); let r4 ← pure []; pure (x3 :: r4)); m__law_take_bb49 r5); DL.ask (addD x6 y7)); let r9 ← pure []; pure (x8 :: r9)); DL.ask (rng1 r10)); seqF (forF (fun d => some d) (fun (q11 : List D) (c12 : D) => (k__law_host_9bb9_0 a1 q11)) r31 v1) fun (q26 : List D) => (do let v30 ← (do let r29 ← (do let x27 ← (pure (.lst q26)); let r28 ← pure []; pure (x27 :: r28)); DL.ask (tupleD r29)); pure (.rt v30))) := rfl
def b__law_host_9bb9 (a1 a2 : D) : M (Fl Unit Empty) := (do let v1 ← (do let r2 ← pure []; DL.ask (szL r2)); (k__law_host_9bb9_1 a2 a1 v1))
theorem e__law_host_9bb9 (a1 a2 : D) : b__law_host_9bb9 a1 a2 = (do let v1 ← (DL.ask (szL [])); let y7 ← (m__law_take_bb49 [a2]); let x8 ← (DL.ask (addD (.int 1) y7)); let r31 ← (DL.ask (rng1 [x8])); seqF (forF (fun d => some d) (fun (q11 : List D) (c12 : D) => (do let v13 ← (iteM (do let x18 ← (m__law_take_bb49 [(.int 6)]); DL.ask ((eqD x18 (.int 5)).bind bOf)) (m__law_label_b886 [(.int 3)]) (m__law_of_8ba0 [a1])); let v14 ← DL.ask (apd q11 v13); (pure (.nx v14)))) r31 v1) fun (q26 : List D) => (do let v30 ← (DL.ask (tupleD [(.lst q26)])); pure (.rt v30))) := by
  unfold b__law_host_9bb9; simp only [l__law_host_9bb9_0, l__law_host_9bb9_1, pure_bind, bind_assoc, mkL]
def m__law_host_9bb9 : List D → M D := apM2 fun a1 a2 => (runM false (b__law_host_9bb9 a1 a2))
theorem n__law_host_9bb9 : ∀ ds s, m__law_host_9bb9 ds s ≠ .stuck → ds.length = 2 := apM2_len _
def k__law_pool_b280_0 (v1 : D) : M (Fl (Unit) (Empty)) := (do let v21 ← (mkL (do let r20 ← (do let r14 ← (do let x12 ← (do let x10 ← (pure (.int 2)); let y11 ← (do let r9 ← (do let x7 ← (pure (.int 2)); let r8 ← pure []; pure (x7 :: r8)); m__law_take_bb49 r9); DL.ask (addD x10 y11)); let r13 ← pure []; pure (x12 :: r13)); DL.ask (rng1 r14)); lcF (fun d => some d) (fun (c16 : D) => pure true) (fun (c16 : D) => (do let r19 ← (do let x17 ← (pure v1); let r18 ← pure []; pure (x17 :: r18)); m__law_label_b886 r19)) r20)); pure (.rt v21))
theorem l__law_pool_b280_0 (v1 : D) : k__law_pool_b280_0 v1 = (do let v21 ← (mkL (do let r20 ← (do let r14 ← (do let x12 ← (do let x10 ← (pure (.int 2)); let y11 ← (do let r9 ← (do let x7 ← (pure (.int 2)); let r8 ← pure []; pure (x7 :: r8)); m__law_take_bb49 r9); DL.ask (addD x10 y11)); let r13 ← pure []; pure (x12 :: r13)); DL.ask (rng1 r14)); lcF (fun d => some d) (fun (c16 : D) => pure true) (fun (c16 : D) => (do let r19 ← (do let x17 ← (pure v1); let r18 ← pure []; pure (x17 :: r18)); m__law_label_b886 r19)) r20)); pure (.rt v21)) := rfl
def b__law_pool_b280 (a1 : D) : M (Fl Unit Empty) := (do let v1 ← (iteM (do let x5 ← (do let r4 ← (do let x2 ← (pure (.int 8)); let r3 ← pure []; pure (x2 :: r3)); m__law_take_bb49 r4); let y6 ← (pure (.int 7)); DL.ask ((eqD x5 y6).bind bOf)) (pure a1) (pure (.int 2))); (k__law_pool_b280_0 v1))
theorem e__law_pool_b280 (a1 : D) : b__law_pool_b280 a1 = (do let v1 ← (iteM (do let x5 ← (m__law_take_bb49 [(.int 8)]); DL.ask ((eqD x5 (.int 7)).bind bOf)) (pure a1) (pure (.int 2))); let y11 ← (m__law_take_bb49 [(.int 2)]); let x12 ← (DL.ask (addD (.int 2) y11)); let r20 ← (DL.ask (rng1 [x12])); let v21 ← (lcF (fun d => some d) (fun (c16 : D) => pure true) (fun (c16 : D) => (m__law_label_b886 [v1])) r20); pure (.rt (.lst v21))) := by
  unfold b__law_pool_b280; simp only [l__law_pool_b280_0, pure_bind, bind_assoc, mkL]
def m__law_pool_b280 : List D → M D := apM1 fun a1 => (runM false (b__law_pool_b280 a1))
theorem n__law_pool_b280 : ∀ ds s, m__law_pool_b280 ds s ≠ .stuck → ds.length = 1 := apM1_len _
def k__law_row_f25d_0 (v1 : D) (v14 : D) (a1 : D) : M (Fl (Unit) (Empty)) := (do let v57 ← (do let x55 ← (pure v1); let y56 ← (do let x53 ← (pure (.str [46])); let _ ← DL.ask (strOf x53); let y54 ← (mkL (do let r52 ← (do let r46 ← (do let x44 ← (pure v14); let r45 ← pure []; pure (x44 :: r45)); DL.ask (rng1 r46)); lcF (fun d => some d) (fun (c48 : D) => pure true) (fun (c48 : D) => (do let r51 ← (do let x49 ← (pure a1); let r50 ← pure []; pure (x49 :: r50)); m__law_of_8ba0 r51)) r52)); DL.ask (joinD x53 y54)); DL.ask (addD x55 y56)); pure (.rt v57))
theorem l__law_row_f25d_0 (v1 : D) (v14 : D) (a1 : D) : k__law_row_f25d_0 v1 v14 a1 = (do let v57 ← (do let x55 ← (pure v1); let y56 ← (do let x53 ← (pure (.str [46])); let _ ← DL.ask (strOf x53); let y54 ← (mkL (do let r52 ← (do let r46 ← (do let x44 ← (pure v14); let r45 ← pure []; pure (x44 :: r45)); DL.ask (rng1 r46)); lcF (fun d => some d) (fun (c48 : D) => pure true) (fun (c48 : D) => (do let r51 ← (do let x49 ← (pure a1); let r50 ← pure []; pure (x49 :: r50)); m__law_of_8ba0 r51)) r52)); DL.ask (joinD x53 y54)); DL.ask (addD x55 y56)); pure (.rt v57)) := rfl
def k__law_row_f25d_1 (v1 : D) (a1 : D) : M (Fl (Unit) (Empty)) := (do let v14 ← (do let r43 ← (do let x41 ← (do let x39 ← (do let r38 ← (do let x36 ← (mkL (do let r35 ← (do let x33 ← (pure (.int 1)); let r34 ← (do let x31 ← (pure (.int 2)); let r32 ← (do let x29 ← (pure (.int 3)); let r30 ← pure []; pure (x29 :: r30)); pure (x31 :: r32)); pure (x33 :: r34)); DL.ask (szL r35))); let r37 ← (do let x27 ← (mkL (do let r26 ← (do let x24 ← (pure (.int 1)); let r25 ← (do let x22 ← (pure (.int 2)); let r23 ← pure []; pure (x22 :: r23)); pure (x24 :: r25)); DL.ask (szL r26))); let r28 ← (do let x20 ← (mkL (do let r19 ← (do let x17 ← (pure (.int 2)); let r18 ← (do let x15 ← (pure (.int 3)); let r16 ← pure []; pure (x15 :: r16)); pure (x17 :: r18)); DL.ask (szL r19))); let r21 ← (pure []); pure (x20 :: r21)); pure (x27 :: r28)); pure (x36 :: r37)); DL.ask (dicK [[], [42, 46], [33]] r38)); let y40 ← (pure v1); DL.ask (dgetD x39 y40)); let r42 ← pure []; pure (x41 :: r42)); m__law_of_8ba0 r43); (k__law_row_f25d_0 v1 v14 a1))
theorem l__law_row_f25d_1 (v1 : D) (a1 : D) : k__law_row_f25d_1 v1 a1 = (do let v14 ← (do let r43 ← (do let x41 ← (do let x39 ← (do let r38 ← (do let x36 ← (mkL (do let r35 ← (do let x33 ← (pure (.int 1)); let r34 ← (do let x31 ← (pure (.int 2)); let r32 ← (do let x29 ← (pure (.int 3)); let r30 ← pure []; pure (x29 :: r30)); pure (x31 :: r32)); pure (x33 :: r34)); DL.ask (szL r35))); let r37 ← (do let x27 ← (mkL (do let r26 ← (do let x24 ← (pure (.int 1)); let r25 ← (do let x22 ← (pure (.int 2)); let r23 ← pure []; pure (x22 :: r23)); pure (x24 :: r25)); DL.ask (szL r26))); let r28 ← (do let x20 ← (mkL (do let r19 ← (do let x17 ← (pure (.int 2)); let r18 ← (do let x15 ← (pure (.int 3)); let r16 ← pure []; pure (x15 :: r16)); pure (x17 :: r18)); DL.ask (szL r19))); let r21 ← (pure []); pure (x20 :: r21)); pure (x27 :: r28)); pure (x36 :: r37)); DL.ask (dicK [[], [42, 46], [33]] r38)); let y40 ← (pure v1); DL.ask (dgetD x39 y40)); let r42 ← pure []; pure (x41 :: r42)); m__law_of_8ba0 r43); (k__law_row_f25d_0 v1 v14 a1)) := rfl
def k__law_row_f25d_2 (a1 : D) : M (Fl (Unit) (Empty)) := (do let v1 ← (do let r13 ← (do let x11 ← (mkL (do let r10 ← (do let x8 ← (pure (.str [])); let r9 ← (do let x6 ← (pure (.str [])); let r7 ← (do let x4 ← (pure (.str [42, 46])); let r5 ← (do let x2 ← (pure (.str [33])); let r3 ← pure []; pure (x2 :: r3)); pure (x4 :: r5)); pure (x6 :: r7)); pure (x8 :: r9)); DL.ask (szL r10))); let r12 ← pure []; pure (x11 :: r12)); m__law_of_8ba0 r13); (k__law_row_f25d_1 v1 a1))
theorem l__law_row_f25d_2 (a1 : D) : k__law_row_f25d_2 a1 = (do let v1 ← (do let r13 ← (do let x11 ← (mkL (do let r10 ← (do let x8 ← (pure (.str [])); let r9 ← (do let x6 ← (pure (.str [])); let r7 ← (do let x4 ← (pure (.str [42, 46])); let r5 ← (do let x2 ← (pure (.str [33])); let r3 ← pure []; pure (x2 :: r3)); pure (x4 :: r5)); pure (x6 :: r7)); pure (x8 :: r9)); DL.ask (szL r10))); let r12 ← pure []; pure (x11 :: r12)); m__law_of_8ba0 r13); (k__law_row_f25d_1 v1 a1)) := rfl
def b__law_row_f25d (a1 : D) : M (Fl Unit Empty) := (k__law_row_f25d_2 a1)
theorem e__law_row_f25d (a1 : D) : b__law_row_f25d a1 = (do let x11 ← (DL.ask (szL [(.str []), (.str []), (.str [42, 46]), (.str [33])])); let v1 ← (m__law_of_8ba0 [(.lst x11)]); let x36 ← (DL.ask (szL [(.int 1), (.int 2), (.int 3)])); let x27 ← (DL.ask (szL [(.int 1), (.int 2)])); let x20 ← (DL.ask (szL [(.int 2), (.int 3)])); let x39 ← (DL.ask (dicK [[], [42, 46], [33]] [(.lst x36), (.lst x27), (.lst x20)])); let x41 ← (DL.ask (dgetD x39 v1)); let v14 ← (m__law_of_8ba0 [x41]); let _ ← DL.ask (strOf (.str [46])); let r52 ← (DL.ask (rng1 [v14])); let y54 ← (lcF (fun d => some d) (fun (c48 : D) => pure true) (fun (c48 : D) => (m__law_of_8ba0 [a1])) r52); let y56 ← (DL.ask (joinD (.str [46]) (.lst y54))); let v57 ← (DL.ask (addD v1 y56)); pure (.rt v57)) := by
  unfold b__law_row_f25d; simp only [l__law_row_f25d_0, l__law_row_f25d_1, l__law_row_f25d_2, pure_bind, bind_assoc, mkL]
def m__law_row_f25d : List D → M D := apM1 fun a1 => (runM false (b__law_row_f25d a1))
theorem n__law_row_f25d : ∀ ds s, m__law_row_f25d ds s ≠ .stuck → ds.length = 1 := apM1_len _
def k__law_rows_7d64_0 (a1 : D) (q11 : List D) : M (Fl (List D) (List D)) := (do let v13 ← (do let r16 ← (do let x14 ← (pure a1); let r15 ← pure []; pure (x14 :: r15)); m__law_row_f25d r16); (do let t23 ← (Mo.noex (do let x18 ← (pure v13); let y19 ← (pure (.lst q11)); DL.ask ((notInD x18 y19).bind bOf))); seqF (if t23 = true then (do let v21 ← (pure v13); let v22 ← DL.ask (apd q11 v21); (pure (.nx v22))) else (pure (.nx q11))) fun (q20 : List D) => (pure (.nx q20))))
theorem l__law_rows_7d64_0 (a1 : D) (q11 : List D) : k__law_rows_7d64_0 a1 q11 = (do let v13 ← (do let r16 ← (do let x14 ← (pure a1); let r15 ← pure []; pure (x14 :: r15)); m__law_row_f25d r16); (do let t23 ← (Mo.noex (do let x18 ← (pure v13); let y19 ← (pure (.lst q11)); DL.ask ((notInD x18 y19).bind bOf))); seqF (if t23 = true then (do let v21 ← (pure v13); let v22 ← DL.ask (apd q11 v21); (pure (.nx v22))) else (pure (.nx q11))) fun (q20 : List D) => (pure (.nx q20)))) := rfl
def k__law_rows_7d64_1 (a2 : D) (a1 : D) (v1 : List D) : M (Fl (Unit) (Empty)) := (do let r26 ← (do let r10 ← (do let x8 ← (do let r7 ← (do let x5 ← (do let x3 ← (pure a2); let y4 ← (pure (.int 1)); DL.ask (addD x3 y4)); let r6 ← pure []; pure (x5 :: r6)); m__law_take_bb49 r7); let r9 ← pure []; pure (x8 :: r9)); DL.ask (rng1 r10)); seqF (forF (fun d => some d) (fun (q11 : List D) (c12 : D) => (k__law_rows_7d64_0 a1 q11)) r26 v1) fun (q24 : List D) => (do let v25 ← (pure (.lst q24)); pure (.rt v25)))
theorem l__law_rows_7d64_1 (a2 : D) (a1 : D) (v1 : List D) : k__law_rows_7d64_1 a2 a1 v1 = (do let r26 ← (do let r10 ← (do let x8 ← (do let r7 ← (do let x5 ← (do let x3 ← (pure a2); let y4 ← (pure (.int 1)); DL.ask (addD x3 y4)); let r6 ← pure []; pure (x5 :: r6)); m__law_take_bb49 r7); let r9 ← pure []; pure (x8 :: r9)); DL.ask (rng1 r10)); seqF (forF (fun d => some d) (fun (q11 : List D) (c12 : D) => (k__law_rows_7d64_0 a1 q11)) r26 v1) fun (q24 : List D) => (do let v25 ← (pure (.lst q24)); pure (.rt v25))) := rfl
def b__law_rows_7d64 (a1 a2 : D) : M (Fl Unit Empty) := (do let v1 ← (do let r2 ← pure []; DL.ask (szL r2)); (k__law_rows_7d64_1 a2 a1 v1))
theorem e__law_rows_7d64 (a1 a2 : D) : b__law_rows_7d64 a1 a2 = (do let v1 ← (DL.ask (szL [])); let x5 ← (DL.ask (addD a2 (.int 1))); let x8 ← (m__law_take_bb49 [x5]); let r26 ← (DL.ask (rng1 [x8])); seqF (forF (fun d => some d) (fun (q11 : List D) (c12 : D) => (do let v13 ← (m__law_row_f25d [a1]); let t23 ← (Mo.noex (DL.ask ((notInD v13 (.lst q11)).bind bOf))); seqF (if t23 = true then (do let v22 ← DL.ask (apd q11 v13); (pure (.nx v22))) else (pure (.nx q11))) fun (q20 : List D) => (pure (.nx q20)))) r26 v1) fun (q24 : List D) => (pure (.rt (.lst q24)))) := by
  unfold b__law_rows_7d64; simp only [l__law_rows_7d64_0, l__law_rows_7d64_1, pure_bind, bind_assoc, mkL]
def m__law_rows_7d64 : List D → M D := apM2 fun a1 a2 => (runM false (b__law_rows_7d64 a1 a2))
theorem n__law_rows_7d64 : ∀ ds s, m__law_rows_7d64 ds s ≠ .stuck → ds.length = 2 := apM2_len _
def k_Table_ending_9165_0 (a1 : D) (a0 : D) : R (Fl (Unit) (Empty)) := (do let v23 ← (do let x20 ← (pure a1); let l21 ← (do let x18 ← (do let x16 ← (do let r9 ← (do let x7 ← (pure a1); let r8 ← pure []; pure (x7 :: r8)); DL.ask (lenD r9)); let y17 ← (do let r15 ← (do let x13 ← (do let x10 ← (pure a0); DL.ask (fldD ["Table"] "parsed" x10)); let r14 ← (do let x11 ← (pure a1); let r12 ← pure []; pure (x11 :: r12)); pure (x13 :: r14)); Mo.lift (m_ending_size_5148 r15)); DL.ask (subD x16 y17)); let i19 ← DL.ask (intOf x18); pure (some i19)); let u22 ← (pure none); DL.ask (sliceD x20 l21 u22)); pure (.rt v23))
theorem l_Table_ending_9165_0 (a1 : D) (a0 : D) : k_Table_ending_9165_0 a1 a0 = (do let v23 ← (do let x20 ← (pure a1); let l21 ← (do let x18 ← (do let x16 ← (do let r9 ← (do let x7 ← (pure a1); let r8 ← pure []; pure (x7 :: r8)); DL.ask (lenD r9)); let y17 ← (do let r15 ← (do let x13 ← (do let x10 ← (pure a0); DL.ask (fldD ["Table"] "parsed" x10)); let r14 ← (do let x11 ← (pure a1); let r12 ← pure []; pure (x11 :: r12)); pure (x13 :: r14)); Mo.lift (m_ending_size_5148 r15)); DL.ask (subD x16 y17)); let i19 ← DL.ask (intOf x18); pure (some i19)); let u22 ← (pure none); DL.ask (sliceD x20 l21 u22)); pure (.rt v23)) := rfl
def b_Table_ending_9165 (a0 a1 : D) : R (Fl Unit Empty) := (do let t24 ← (DL.notM (do let x4 ← (do let r3 ← (do let x1 ← (pure a1); let r2 ← pure []; pure (x1 :: r2)); Mo.lift (m_is_host_45ba r3)); DL.ask (truD x4))); seqF (if t24 = true then (do let v6 ← (pure a1); raiseX "BadHost" "host" v6) else (pure (.nx ()))) fun (q5 : Unit) => (k_Table_ending_9165_0 a1 a0))
theorem e_Table_ending_9165 (a0 a1 : D) : b_Table_ending_9165 a0 a1 = (do let t24 ← (DL.notM (do let x4 ← (Mo.lift (m_is_host_45ba [a1])); DL.ask (truD x4))); seqF (if t24 = true then (raiseX "BadHost" "host" a1) else (pure (.nx ()))) fun (q5 : Unit) => (do let x16 ← (DL.ask (lenD [a1])); let x13 ← (DL.ask (fldD ["Table"] "parsed" a0)); let y17 ← (Mo.lift (m_ending_size_5148 [x13, a1])); let x18 ← (DL.ask (subD x16 y17)); let i19 ← DL.ask (intOf x18); let v23 ← (DL.ask (sliceD a1 (some i19) none)); pure (.rt v23))) := by
  unfold b_Table_ending_9165; simp only [l_Table_ending_9165_0, pure_bind, bind_assoc, mkL]
def m_Table_ending_9165 : List D → R D := apR2 fun a0 a1 => (runR false (b_Table_ending_9165 a0 a1))
theorem n_Table_ending_9165 : ∀ ds : List D, m_Table_ending_9165 ds ≠ .stuck → ds.length = 2 := apR2_len _
def b_Table_len_13ee (a0 : D) : R (Fl Unit Empty) := (do let v5 ← (do let r4 ← (do let x2 ← (do let x1 ← (pure a0); DL.ask (fldD ["Table"] "rows" x1)); let r3 ← pure []; pure (x2 :: r3)); DL.ask (lenD r4)); pure (.rt v5))
def m_Table_len_13ee : List D → R D := apR1 fun a0 => (runR false (b_Table_len_13ee a0))
def b_Table_eq_abda (a0 a1 : D) : R (Fl Unit Empty) := (do let v6 ← (andV (do let x1 ← (pure a1); DL.ask (isiT [("Table", true)] noneOfB x1)) (do let x4 ← (do let x2 ← (pure a0); DL.ask (fldD ["Table"] "rows" x2)); let y5 ← (do let x3 ← (pure a1); DL.ask (fldD ["Table"] "rows" x3)); DL.ask (eqD x4 y5))); pure (.rt v6))
def m_Table_eq_abda : List D → R D := apR2 fun a0 a1 => (runR false (b_Table_eq_abda a0 a1))
def k_Table_site_ff2c_0 (a1 : D) (a0 : D) : R (Fl (Unit) (Empty)) := (do let t14 ← (DL.notM (do let x4 ← (do let r3 ← (do let x1 ← (pure a1); let r2 ← pure []; pure (x1 :: r2)); Mo.lift (m_is_host_45ba r3)); DL.ask (truD x4))); seqF (if t14 = true then (do let v6 ← (pure a1); raiseX "BadHost" "host" v6) else (pure (.nx ()))) fun (q5 : Unit) => (do let v13 ← (do let r12 ← (do let x10 ← (do let x7 ← (pure a0); DL.ask (fldD ["Table"] "parsed" x7)); let r11 ← (do let x8 ← (pure a1); let r9 ← pure []; pure (x8 :: r9)); pure (x10 :: r11)); Mo.lift (m_site_by_dd2e r12)); pure (.rt v13)))
theorem l_Table_site_ff2c_0 (a1 : D) (a0 : D) : k_Table_site_ff2c_0 a1 a0 = (do let t14 ← (DL.notM (do let x4 ← (do let r3 ← (do let x1 ← (pure a1); let r2 ← pure []; pure (x1 :: r2)); Mo.lift (m_is_host_45ba r3)); DL.ask (truD x4))); seqF (if t14 = true then (do let v6 ← (pure a1); raiseX "BadHost" "host" v6) else (pure (.nx ()))) fun (q5 : Unit) => (do let v13 ← (do let r12 ← (do let x10 ← (do let x7 ← (pure a0); DL.ask (fldD ["Table"] "parsed" x7)); let r11 ← (do let x8 ← (pure a1); let r9 ← pure []; pure (x8 :: r9)); pure (x10 :: r11)); Mo.lift (m_site_by_dd2e r12)); pure (.rt v13))) := rfl
def b_Table_site_ff2c (a0 a1 : D) : R (Fl Unit Empty) := (k_Table_site_ff2c_0 a1 a0)
theorem e_Table_site_ff2c (a0 a1 : D) : b_Table_site_ff2c a0 a1 = (do let t14 ← (DL.notM (do let x4 ← (Mo.lift (m_is_host_45ba [a1])); DL.ask (truD x4))); seqF (if t14 = true then (raiseX "BadHost" "host" a1) else (pure (.nx ()))) fun (q5 : Unit) => (do let x10 ← (DL.ask (fldD ["Table"] "parsed" a0)); let v13 ← (Mo.lift (m_site_by_dd2e [x10, a1])); pure (.rt v13))) := by
  unfold b_Table_site_ff2c; simp only [l_Table_site_ff2c_0, pure_bind, bind_assoc, mkL]
def m_Table_site_ff2c : List D → R D := apR2 fun a0 a1 => (runR false (b_Table_site_ff2c a0 a1))
theorem n_Table_site_ff2c : ∀ ds : List D, m_Table_site_ff2c ds ≠ .stuck → ds.length = 2 := apR2_len _
def k__law_table_9456_0 (a0 : D) : R (Fl (Unit) (Empty)) := (do let v33 ← (iteM (do let x8 ← (pure a0); let y9 ← (mkL (do let r7 ← pure []; DL.ask (szL r7))); DL.ask ((eqD x8 y9).bind bOf)) (do let r10 ← pure []; let o11 ← Mo.lift (starD 0 m_Table_init_e784 r10); pure (D.ins "Table" ["rows", "parsed"] o11)) (iteM (do let x15 ← (do let r14 ← (do let x12 ← (pure a0); let r13 ← pure []; pure (x12 :: r13)); DL.ask (lenD r14)); let y16 ← (pure (.int 1)); DL.ask ((eqD x15 y16).bind bOf)) (do let r21 ← (do let x19 ← (do let x17 ← (pure a0); let y18 ← (pure (.int 0)); DL.ask (ixD x17 y18)); let r20 ← pure []; pure (x19 :: r20)); let o22 ← Mo.lift (starD 0 m_Table_init_e784 r21); pure (D.ins "Table" ["rows", "parsed"] o22)) (do let r31 ← (do let x29 ← (do let x23 ← (pure a0); let y24 ← (pure (.int 0)); DL.ask (ixD x23 y24)); let r30 ← (do let x27 ← (do let x25 ← (pure a0); let y26 ← (pure (.int 1)); DL.ask (ixD x25 y26)); let r28 ← pure []; pure (x27 :: r28)); pure (x29 :: r30)); let o32 ← Mo.lift (starD 0 m_Table_init_e784 r31); pure (D.ins "Table" ["rows", "parsed"] o32)))); pure (.rt v33))
theorem l__law_table_9456_0 (a0 : D) : k__law_table_9456_0 a0 = (do let v33 ← (iteM (do let x8 ← (pure a0); let y9 ← (mkL (do let r7 ← pure []; DL.ask (szL r7))); DL.ask ((eqD x8 y9).bind bOf)) (do let r10 ← pure []; let o11 ← Mo.lift (starD 0 m_Table_init_e784 r10); pure (D.ins "Table" ["rows", "parsed"] o11)) (iteM (do let x15 ← (do let r14 ← (do let x12 ← (pure a0); let r13 ← pure []; pure (x12 :: r13)); DL.ask (lenD r14)); let y16 ← (pure (.int 1)); DL.ask ((eqD x15 y16).bind bOf)) (do let r21 ← (do let x19 ← (do let x17 ← (pure a0); let y18 ← (pure (.int 0)); DL.ask (ixD x17 y18)); let r20 ← pure []; pure (x19 :: r20)); let o22 ← Mo.lift (starD 0 m_Table_init_e784 r21); pure (D.ins "Table" ["rows", "parsed"] o22)) (do let r31 ← (do let x29 ← (do let x23 ← (pure a0); let y24 ← (pure (.int 0)); DL.ask (ixD x23 y24)); let r30 ← (do let x27 ← (do let x25 ← (pure a0); let y26 ← (pure (.int 1)); DL.ask (ixD x25 y26)); let r28 ← pure []; pure (x27 :: r28)); pure (x29 :: r30)); let o32 ← Mo.lift (starD 0 m_Table_init_e784 r31); pure (D.ins "Table" ["rows", "parsed"] o32)))); pure (.rt v33)) := rfl
def k__law_table_9456_1 (a0 : D) : R (Fl (Unit) (Empty)) := (do let v54 ← (do let r52 ← (do let x50 ← (do let x40 ← (pure a0); let y41 ← (pure (.int 0)); DL.ask (ixD x40 y41)); let r51 ← (do let x48 ← (do let x42 ← (pure a0); let y43 ← (pure (.int 1)); DL.ask (ixD x42 y43)); let r49 ← (do let x46 ← (do let x44 ← (pure a0); let y45 ← (pure (.int 2)); DL.ask (ixD x44 y45)); let r47 ← pure []; pure (x46 :: r47)); pure (x48 :: r49)); pure (x50 :: r51)); let o53 ← Mo.lift (starD 0 m_Table_init_e784 r52); pure (D.ins "Table" ["rows", "parsed"] o53)); pure (.rt v54))
theorem l__law_table_9456_1 (a0 : D) : k__law_table_9456_1 a0 = (do let v54 ← (do let r52 ← (do let x50 ← (do let x40 ← (pure a0); let y41 ← (pure (.int 0)); DL.ask (ixD x40 y41)); let r51 ← (do let x48 ← (do let x42 ← (pure a0); let y43 ← (pure (.int 1)); DL.ask (ixD x42 y43)); let r49 ← (do let x46 ← (do let x44 ← (pure a0); let y45 ← (pure (.int 2)); DL.ask (ixD x44 y45)); let r47 ← pure []; pure (x46 :: r47)); pure (x48 :: r49)); pure (x50 :: r51)); let o53 ← Mo.lift (starD 0 m_Table_init_e784 r52); pure (D.ins "Table" ["rows", "parsed"] o53)); pure (.rt v54)) := rfl
def k__law_table_9456_2 (a0 : D) : R (Fl (Unit) (Empty)) := (do let v79 ← (do let r77 ← (do let x75 ← (do let x61 ← (pure a0); let y62 ← (pure (.int 0)); DL.ask (ixD x61 y62)); let r76 ← (do let x73 ← (do let x63 ← (pure a0); let y64 ← (pure (.int 1)); DL.ask (ixD x63 y64)); let r74 ← (do let x71 ← (do let x65 ← (pure a0); let y66 ← (pure (.int 2)); DL.ask (ixD x65 y66)); let r72 ← (do let x69 ← (do let x67 ← (pure a0); let y68 ← (pure (.int 3)); DL.ask (ixD x67 y68)); let r70 ← pure []; pure (x69 :: r70)); pure (x71 :: r72)); pure (x73 :: r74)); pure (x75 :: r76)); let o78 ← Mo.lift (starD 0 m_Table_init_e784 r77); pure (D.ins "Table" ["rows", "parsed"] o78)); pure (.rt v79))
theorem l__law_table_9456_2 (a0 : D) : k__law_table_9456_2 a0 = (do let v79 ← (do let r77 ← (do let x75 ← (do let x61 ← (pure a0); let y62 ← (pure (.int 0)); DL.ask (ixD x61 y62)); let r76 ← (do let x73 ← (do let x63 ← (pure a0); let y64 ← (pure (.int 1)); DL.ask (ixD x63 y64)); let r74 ← (do let x71 ← (do let x65 ← (pure a0); let y66 ← (pure (.int 2)); DL.ask (ixD x65 y66)); let r72 ← (do let x69 ← (do let x67 ← (pure a0); let y68 ← (pure (.int 3)); DL.ask (ixD x67 y68)); let r70 ← pure []; pure (x69 :: r70)); pure (x71 :: r72)); pure (x73 :: r74)); pure (x75 :: r76)); let o78 ← Mo.lift (starD 0 m_Table_init_e784 r77); pure (D.ins "Table" ["rows", "parsed"] o78)); pure (.rt v79)) := rfl
def k__law_table_9456_3 (a0 : D) : R (Fl (Unit) (Empty)) := (do let v108 ← (do let r106 ← (do let x104 ← (do let x86 ← (pure a0); let y87 ← (pure (.int 0)); DL.ask (ixD x86 y87)); let r105 ← (do let x102 ← (do let x88 ← (pure a0); let y89 ← (pure (.int 1)); DL.ask (ixD x88 y89)); let r103 ← (do let x100 ← (do let x90 ← (pure a0); let y91 ← (pure (.int 2)); DL.ask (ixD x90 y91)); let r101 ← (do let x98 ← (do let x92 ← (pure a0); let y93 ← (pure (.int 3)); DL.ask (ixD x92 y93)); let r99 ← (do let x96 ← (do let x94 ← (pure a0); let y95 ← (pure (.int 4)); DL.ask (ixD x94 y95)); let r97 ← pure []; pure (x96 :: r97)); pure (x98 :: r99)); pure (x100 :: r101)); pure (x102 :: r103)); pure (x104 :: r105)); let o107 ← Mo.lift (starD 0 m_Table_init_e784 r106); pure (D.ins "Table" ["rows", "parsed"] o107)); pure (.rt v108))
theorem l__law_table_9456_3 (a0 : D) : k__law_table_9456_3 a0 = (do let v108 ← (do let r106 ← (do let x104 ← (do let x86 ← (pure a0); let y87 ← (pure (.int 0)); DL.ask (ixD x86 y87)); let r105 ← (do let x102 ← (do let x88 ← (pure a0); let y89 ← (pure (.int 1)); DL.ask (ixD x88 y89)); let r103 ← (do let x100 ← (do let x90 ← (pure a0); let y91 ← (pure (.int 2)); DL.ask (ixD x90 y91)); let r101 ← (do let x98 ← (do let x92 ← (pure a0); let y93 ← (pure (.int 3)); DL.ask (ixD x92 y93)); let r99 ← (do let x96 ← (do let x94 ← (pure a0); let y95 ← (pure (.int 4)); DL.ask (ixD x94 y95)); let r97 ← pure []; pure (x96 :: r97)); pure (x98 :: r99)); pure (x100 :: r101)); pure (x102 :: r103)); pure (x104 :: r105)); let o107 ← Mo.lift (starD 0 m_Table_init_e784 r106); pure (D.ins "Table" ["rows", "parsed"] o107)); pure (.rt v108)) := rfl
def k__law_table_9456_4 (a0 : D) : R (Fl (Unit) (Empty)) := (do let v141 ← (do let r139 ← (do let x137 ← (do let x115 ← (pure a0); let y116 ← (pure (.int 0)); DL.ask (ixD x115 y116)); let r138 ← (do let x135 ← (do let x117 ← (pure a0); let y118 ← (pure (.int 1)); DL.ask (ixD x117 y118)); let r136 ← (do let x133 ← (do let x119 ← (pure a0); let y120 ← (pure (.int 2)); DL.ask (ixD x119 y120)); let r134 ← (do let x131 ← (do let x121 ← (pure a0); let y122 ← (pure (.int 3)); DL.ask (ixD x121 y122)); let r132 ← (do let x129 ← (do let x123 ← (pure a0); let y124 ← (pure (.int 4)); DL.ask (ixD x123 y124)); let r130 ← (do let x127 ← (do let x125 ← (pure a0); let y126 ← (pure (.int 5)); DL.ask (ixD x125 y126)); let r128 ← pure []; pure (x127 :: r128)); pure (x129 :: r130)); pure (x131 :: r132)); pure (x133 :: r134)); pure (x135 :: r136)); pure (x137 :: r138)); let o140 ← Mo.lift (starD 0 m_Table_init_e784 r139); pure (D.ins "Table" ["rows", "parsed"] o140)); pure (.rt v141))
theorem l__law_table_9456_4 (a0 : D) : k__law_table_9456_4 a0 = (do let v141 ← (do let r139 ← (do let x137 ← (do let x115 ← (pure a0); let y116 ← (pure (.int 0)); DL.ask (ixD x115 y116)); let r138 ← (do let x135 ← (do let x117 ← (pure a0); let y118 ← (pure (.int 1)); DL.ask (ixD x117 y118)); let r136 ← (do let x133 ← (do let x119 ← (pure a0); let y120 ← (pure (.int 2)); DL.ask (ixD x119 y120)); let r134 ← (do let x131 ← (do let x121 ← (pure a0); let y122 ← (pure (.int 3)); DL.ask (ixD x121 y122)); let r132 ← (do let x129 ← (do let x123 ← (pure a0); let y124 ← (pure (.int 4)); DL.ask (ixD x123 y124)); let r130 ← (do let x127 ← (do let x125 ← (pure a0); let y126 ← (pure (.int 5)); DL.ask (ixD x125 y126)); let r128 ← pure []; pure (x127 :: r128)); pure (x129 :: r130)); pure (x131 :: r132)); pure (x133 :: r134)); pure (x135 :: r136)); pure (x137 :: r138)); let o140 ← Mo.lift (starD 0 m_Table_init_e784 r139); pure (D.ins "Table" ["rows", "parsed"] o140)); pure (.rt v141)) := rfl
def k__law_table_9456_5 (a0 : D) : R (Fl (Unit) (Empty)) := (do let v178 ← (do let r176 ← (do let x174 ← (do let x148 ← (pure a0); let y149 ← (pure (.int 0)); DL.ask (ixD x148 y149)); let r175 ← (do let x172 ← (do let x150 ← (pure a0); let y151 ← (pure (.int 1)); DL.ask (ixD x150 y151)); let r173 ← (do let x170 ← (do let x152 ← (pure a0); let y153 ← (pure (.int 2)); DL.ask (ixD x152 y153)); let r171 ← (do let x168 ← (do let x154 ← (pure a0); let y155 ← (pure (.int 3)); DL.ask (ixD x154 y155)); let r169 ← (do let x166 ← (do let x156 ← (pure a0); let y157 ← (pure (.int 4)); DL.ask (ixD x156 y157)); let r167 ← (do let x164 ← (do let x158 ← (pure a0); let y159 ← (pure (.int 5)); DL.ask (ixD x158 y159)); let r165 ← (do let x162 ← (do let x160 ← (pure a0); let y161 ← (pure (.int 6)); DL.ask (ixD x160 y161)); let r163 ← pure []; pure (x162 :: r163)); pure (x164 :: r165)); pure (x166 :: r167)); pure (x168 :: r169)); pure (x170 :: r171)); pure (x172 :: r173)); pure (x174 :: r175)); let o177 ← Mo.lift (starD 0 m_Table_init_e784 r176); pure (D.ins "Table" ["rows", "parsed"] o177)); pure (.rt v178))
theorem l__law_table_9456_5 (a0 : D) : k__law_table_9456_5 a0 = (do let v178 ← (do let r176 ← (do let x174 ← (do let x148 ← (pure a0); let y149 ← (pure (.int 0)); DL.ask (ixD x148 y149)); let r175 ← (do let x172 ← (do let x150 ← (pure a0); let y151 ← (pure (.int 1)); DL.ask (ixD x150 y151)); let r173 ← (do let x170 ← (do let x152 ← (pure a0); let y153 ← (pure (.int 2)); DL.ask (ixD x152 y153)); let r171 ← (do let x168 ← (do let x154 ← (pure a0); let y155 ← (pure (.int 3)); DL.ask (ixD x154 y155)); let r169 ← (do let x166 ← (do let x156 ← (pure a0); let y157 ← (pure (.int 4)); DL.ask (ixD x156 y157)); let r167 ← (do let x164 ← (do let x158 ← (pure a0); let y159 ← (pure (.int 5)); DL.ask (ixD x158 y159)); let r165 ← (do let x162 ← (do let x160 ← (pure a0); let y161 ← (pure (.int 6)); DL.ask (ixD x160 y161)); let r163 ← pure []; pure (x162 :: r163)); pure (x164 :: r165)); pure (x166 :: r167)); pure (x168 :: r169)); pure (x170 :: r171)); pure (x172 :: r173)); pure (x174 :: r175)); let o177 ← Mo.lift (starD 0 m_Table_init_e784 r176); pure (D.ins "Table" ["rows", "parsed"] o177)); pure (.rt v178)) := rfl
def k__law_table_9456_6 (a0 : D) : R (Fl (Unit) (Empty)) := (do let v219 ← (do let r217 ← (do let x215 ← (do let x185 ← (pure a0); let y186 ← (pure (.int 0)); DL.ask (ixD x185 y186)); let r216 ← (do let x213 ← (do let x187 ← (pure a0); let y188 ← (pure (.int 1)); DL.ask (ixD x187 y188)); let r214 ← (do let x211 ← (do let x189 ← (pure a0); let y190 ← (pure (.int 2)); DL.ask (ixD x189 y190)); let r212 ← (do let x209 ← (do let x191 ← (pure a0); let y192 ← (pure (.int 3)); DL.ask (ixD x191 y192)); let r210 ← (do let x207 ← (do let x193 ← (pure a0); let y194 ← (pure (.int 4)); DL.ask (ixD x193 y194)); let r208 ← (do let x205 ← (do let x195 ← (pure a0); let y196 ← (pure (.int 5)); DL.ask (ixD x195 y196)); let r206 ← (do let x203 ← (do let x197 ← (pure a0); let y198 ← (pure (.int 6)); DL.ask (ixD x197 y198)); let r204 ← (do let x201 ← (do let x199 ← (pure a0); let y200 ← (pure (.int 7)); DL.ask (ixD x199 y200)); let r202 ← pure []; pure (x201 :: r202)); pure (x203 :: r204)); pure (x205 :: r206)); pure (x207 :: r208)); pure (x209 :: r210)); pure (x211 :: r212)); pure (x213 :: r214)); pure (x215 :: r216)); let o218 ← Mo.lift (starD 0 m_Table_init_e784 r217); pure (D.ins "Table" ["rows", "parsed"] o218)); pure (.rt v219))
theorem l__law_table_9456_6 (a0 : D) : k__law_table_9456_6 a0 = (do let v219 ← (do let r217 ← (do let x215 ← (do let x185 ← (pure a0); let y186 ← (pure (.int 0)); DL.ask (ixD x185 y186)); let r216 ← (do let x213 ← (do let x187 ← (pure a0); let y188 ← (pure (.int 1)); DL.ask (ixD x187 y188)); let r214 ← (do let x211 ← (do let x189 ← (pure a0); let y190 ← (pure (.int 2)); DL.ask (ixD x189 y190)); let r212 ← (do let x209 ← (do let x191 ← (pure a0); let y192 ← (pure (.int 3)); DL.ask (ixD x191 y192)); let r210 ← (do let x207 ← (do let x193 ← (pure a0); let y194 ← (pure (.int 4)); DL.ask (ixD x193 y194)); let r208 ← (do let x205 ← (do let x195 ← (pure a0); let y196 ← (pure (.int 5)); DL.ask (ixD x195 y196)); let r206 ← (do let x203 ← (do let x197 ← (pure a0); let y198 ← (pure (.int 6)); DL.ask (ixD x197 y198)); let r204 ← (do let x201 ← (do let x199 ← (pure a0); let y200 ← (pure (.int 7)); DL.ask (ixD x199 y200)); let r202 ← pure []; pure (x201 :: r202)); pure (x203 :: r204)); pure (x205 :: r206)); pure (x207 :: r208)); pure (x209 :: r210)); pure (x211 :: r212)); pure (x213 :: r214)); pure (x215 :: r216)); let o218 ← Mo.lift (starD 0 m_Table_init_e784 r217); pure (D.ins "Table" ["rows", "parsed"] o218)); pure (.rt v219)) := rfl
def k__law_table_9456_7 (a0 : D) : R (Fl (Unit) (Empty)) := (do let v258 ← (do let r256 ← (do let x254 ← (do let x220 ← (pure a0); let y221 ← (pure (.int 0)); DL.ask (ixD x220 y221)); let r255 ← (do let x252 ← (do let x222 ← (pure a0); let y223 ← (pure (.int 1)); DL.ask (ixD x222 y223)); let r253 ← (do let x250 ← (do let x224 ← (pure a0); let y225 ← (pure (.int 2)); DL.ask (ixD x224 y225)); let r251 ← (do let x248 ← (do let x226 ← (pure a0); let y227 ← (pure (.int 3)); DL.ask (ixD x226 y227)); let r249 ← (do let x246 ← (do let x228 ← (pure a0); let y229 ← (pure (.int 4)); DL.ask (ixD x228 y229)); let r247 ← (do let x244 ← (do let x230 ← (pure a0); let y231 ← (pure (.int 5)); DL.ask (ixD x230 y231)); let r245 ← (do let x242 ← (do let x232 ← (pure a0); let y233 ← (pure (.int 6)); DL.ask (ixD x232 y233)); let r243 ← (do let x240 ← (do let x234 ← (pure a0); let y235 ← (pure (.int 7)); DL.ask (ixD x234 y235)); let r241 ← (do let x238 ← (do let x236 ← (pure a0); let y237 ← (pure (.int 8)); DL.ask (ixD x236 y237)); let r239 ← pure []; pure (x238 :: r239)); pure (x240 :: r241)); pure (x242 :: r243)); pure (x244 :: r245)); pure (x246 :: r247)); pure (x248 :: r249)); pure (x250 :: r251)); pure (x252 :: r253)); pure (x254 :: r255)); let o257 ← Mo.lift (starD 0 m_Table_init_e784 r256); pure (D.ins "Table" ["rows", "parsed"] o257)); pure (.rt v258))
theorem l__law_table_9456_7 (a0 : D) : k__law_table_9456_7 a0 = (do let v258 ← (do let r256 ← (do let x254 ← (do let x220 ← (pure a0); let y221 ← (pure (.int 0)); DL.ask (ixD x220 y221)); let r255 ← (do let x252 ← (do let x222 ← (pure a0); let y223 ← (pure (.int 1)); DL.ask (ixD x222 y223)); let r253 ← (do let x250 ← (do let x224 ← (pure a0); let y225 ← (pure (.int 2)); DL.ask (ixD x224 y225)); let r251 ← (do let x248 ← (do let x226 ← (pure a0); let y227 ← (pure (.int 3)); DL.ask (ixD x226 y227)); let r249 ← (do let x246 ← (do let x228 ← (pure a0); let y229 ← (pure (.int 4)); DL.ask (ixD x228 y229)); let r247 ← (do let x244 ← (do let x230 ← (pure a0); let y231 ← (pure (.int 5)); DL.ask (ixD x230 y231)); let r245 ← (do let x242 ← (do let x232 ← (pure a0); let y233 ← (pure (.int 6)); DL.ask (ixD x232 y233)); let r243 ← (do let x240 ← (do let x234 ← (pure a0); let y235 ← (pure (.int 7)); DL.ask (ixD x234 y235)); let r241 ← (do let x238 ← (do let x236 ← (pure a0); let y237 ← (pure (.int 8)); DL.ask (ixD x236 y237)); let r239 ← pure []; pure (x238 :: r239)); pure (x240 :: r241)); pure (x242 :: r243)); pure (x244 :: r245)); pure (x246 :: r247)); pure (x248 :: r249)); pure (x250 :: r251)); pure (x252 :: r253)); pure (x254 :: r255)); let o257 ← Mo.lift (starD 0 m_Table_init_e784 r256); pure (D.ins "Table" ["rows", "parsed"] o257)); pure (.rt v258)) := rfl
def k__law_table_9456_8 (a0 : D) : R (Fl (Unit) (Empty)) := (do let t260 ← (do let x145 ← (do let r144 ← (do let x142 ← (pure a0); let r143 ← pure []; pure (x142 :: r143)); DL.ask (lenD r144)); let y146 ← (pure (.int 7)); DL.ask ((eqD x145 y146).bind bOf)); seqF (if t260 = true then (k__law_table_9456_5 a0) else (pure (.nx ()))) fun (q147 : Unit) => (do let t259 ← (do let x182 ← (do let r181 ← (do let x179 ← (pure a0); let r180 ← pure []; pure (x179 :: r180)); DL.ask (lenD r181)); let y183 ← (pure (.int 8)); DL.ask ((eqD x182 y183).bind bOf)); seqF (if t259 = true then (k__law_table_9456_6 a0) else (pure (.nx ()))) fun (q184 : Unit) => (k__law_table_9456_7 a0)))
theorem l__law_table_9456_8 (a0 : D) : k__law_table_9456_8 a0 = (do let t260 ← (do let x145 ← (do let r144 ← (do let x142 ← (pure a0); let r143 ← pure []; pure (x142 :: r143)); DL.ask (lenD r144)); let y146 ← (pure (.int 7)); DL.ask ((eqD x145 y146).bind bOf)); seqF (if t260 = true then (k__law_table_9456_5 a0) else (pure (.nx ()))) fun (q147 : Unit) => (do let t259 ← (do let x182 ← (do let r181 ← (do let x179 ← (pure a0); let r180 ← pure []; pure (x179 :: r180)); DL.ask (lenD r181)); let y183 ← (pure (.int 8)); DL.ask ((eqD x182 y183).bind bOf)); seqF (if t259 = true then (k__law_table_9456_6 a0) else (pure (.nx ()))) fun (q184 : Unit) => (k__law_table_9456_7 a0))) := rfl
def k__law_table_9456_9 (a0 : D) : R (Fl (Unit) (Empty)) := (do let t262 ← (do let x83 ← (do let r82 ← (do let x80 ← (pure a0); let r81 ← pure []; pure (x80 :: r81)); DL.ask (lenD r82)); let y84 ← (pure (.int 5)); DL.ask ((eqD x83 y84).bind bOf)); seqF (if t262 = true then (k__law_table_9456_3 a0) else (pure (.nx ()))) fun (q85 : Unit) => (do let t261 ← (do let x112 ← (do let r111 ← (do let x109 ← (pure a0); let r110 ← pure []; pure (x109 :: r110)); DL.ask (lenD r111)); let y113 ← (pure (.int 6)); DL.ask ((eqD x112 y113).bind bOf)); seqF (if t261 = true then (k__law_table_9456_4 a0) else (pure (.nx ()))) fun (q114 : Unit) => (k__law_table_9456_8 a0)))
theorem l__law_table_9456_9 (a0 : D) : k__law_table_9456_9 a0 = (do let t262 ← (do let x83 ← (do let r82 ← (do let x80 ← (pure a0); let r81 ← pure []; pure (x80 :: r81)); DL.ask (lenD r82)); let y84 ← (pure (.int 5)); DL.ask ((eqD x83 y84).bind bOf)); seqF (if t262 = true then (k__law_table_9456_3 a0) else (pure (.nx ()))) fun (q85 : Unit) => (do let t261 ← (do let x112 ← (do let r111 ← (do let x109 ← (pure a0); let r110 ← pure []; pure (x109 :: r110)); DL.ask (lenD r111)); let y113 ← (pure (.int 6)); DL.ask ((eqD x112 y113).bind bOf)); seqF (if t261 = true then (k__law_table_9456_4 a0) else (pure (.nx ()))) fun (q114 : Unit) => (k__law_table_9456_8 a0))) := rfl
def k__law_table_9456_10 (a0 : D) : R (Fl (Unit) (Empty)) := (do let t264 ← (do let x37 ← (do let r36 ← (do let x34 ← (pure a0); let r35 ← pure []; pure (x34 :: r35)); DL.ask (lenD r36)); let y38 ← (pure (.int 3)); DL.ask ((eqD x37 y38).bind bOf)); seqF (if t264 = true then (k__law_table_9456_1 a0) else (pure (.nx ()))) fun (q39 : Unit) => (do let t263 ← (do let x58 ← (do let r57 ← (do let x55 ← (pure a0); let r56 ← pure []; pure (x55 :: r56)); DL.ask (lenD r57)); let y59 ← (pure (.int 4)); DL.ask ((eqD x58 y59).bind bOf)); seqF (if t263 = true then (k__law_table_9456_2 a0) else (pure (.nx ()))) fun (q60 : Unit) => (k__law_table_9456_9 a0)))
theorem l__law_table_9456_10 (a0 : D) : k__law_table_9456_10 a0 = (do let t264 ← (do let x37 ← (do let r36 ← (do let x34 ← (pure a0); let r35 ← pure []; pure (x34 :: r35)); DL.ask (lenD r36)); let y38 ← (pure (.int 3)); DL.ask ((eqD x37 y38).bind bOf)); seqF (if t264 = true then (k__law_table_9456_1 a0) else (pure (.nx ()))) fun (q39 : Unit) => (do let t263 ← (do let x58 ← (do let r57 ← (do let x55 ← (pure a0); let r56 ← pure []; pure (x55 :: r56)); DL.ask (lenD r57)); let y59 ← (pure (.int 4)); DL.ask ((eqD x58 y59).bind bOf)); seqF (if t263 = true then (k__law_table_9456_2 a0) else (pure (.nx ()))) fun (q60 : Unit) => (k__law_table_9456_9 a0))) := rfl
def b__law_table_9456 (a0 : D) : R (Fl Unit Empty) := (do let t265 ← (do let x4 ← (do let r3 ← (do let x1 ← (pure a0); let r2 ← pure []; pure (x1 :: r2)); DL.ask (lenD r3)); let y5 ← (pure (.int 3)); DL.ask ((ltD x4 y5).bind bOf)); seqF (if t265 = true then (k__law_table_9456_0 a0) else (pure (.nx ()))) fun (q6 : Unit) => (k__law_table_9456_10 a0))
theorem e__law_table_9456 (a0 : D) : b__law_table_9456 a0 = (do let x4 ← (DL.ask (lenD [a0])); let t265 ← (DL.ask ((ltD x4 (.int 3)).bind bOf)); seqF (if t265 = true then (do let v33 ← (iteM (do let y9 ← (DL.ask (szL [])); DL.ask ((eqD a0 (.lst y9)).bind bOf)) (do let o11 ← Mo.lift (starD 0 m_Table_init_e784 []); pure (D.ins "Table" ["rows", "parsed"] o11)) (iteM (do let x15 ← (DL.ask (lenD [a0])); DL.ask ((eqD x15 (.int 1)).bind bOf)) (do let x19 ← (DL.ask (ixD a0 (.int 0))); let o22 ← Mo.lift (starD 0 m_Table_init_e784 [x19]); pure (D.ins "Table" ["rows", "parsed"] o22)) (do let x29 ← (DL.ask (ixD a0 (.int 0))); let x27 ← (DL.ask (ixD a0 (.int 1))); let o32 ← Mo.lift (starD 0 m_Table_init_e784 [x29, x27]); pure (D.ins "Table" ["rows", "parsed"] o32)))); pure (.rt v33)) else (pure (.nx ()))) fun (q6 : Unit) => (do let x37 ← (DL.ask (lenD [a0])); let t264 ← (DL.ask ((eqD x37 (.int 3)).bind bOf)); seqF (if t264 = true then (do let x50 ← (DL.ask (ixD a0 (.int 0))); let x48 ← (DL.ask (ixD a0 (.int 1))); let x46 ← (DL.ask (ixD a0 (.int 2))); let o53 ← Mo.lift (starD 0 m_Table_init_e784 [x50, x48, x46]); pure (.rt (D.ins "Table" ["rows", "parsed"] o53))) else (pure (.nx ()))) fun (q39 : Unit) => (do let x58 ← (DL.ask (lenD [a0])); let t263 ← (DL.ask ((eqD x58 (.int 4)).bind bOf)); seqF (if t263 = true then (do let x75 ← (DL.ask (ixD a0 (.int 0))); let x73 ← (DL.ask (ixD a0 (.int 1))); let x71 ← (DL.ask (ixD a0 (.int 2))); let x69 ← (DL.ask (ixD a0 (.int 3))); let o78 ← Mo.lift (starD 0 m_Table_init_e784 [x75, x73, x71, x69]); pure (.rt (D.ins "Table" ["rows", "parsed"] o78))) else (pure (.nx ()))) fun (q60 : Unit) => (do let x83 ← (DL.ask (lenD [a0])); let t262 ← (DL.ask ((eqD x83 (.int 5)).bind bOf)); seqF (if t262 = true then (do let x104 ← (DL.ask (ixD a0 (.int 0))); let x102 ← (DL.ask (ixD a0 (.int 1))); let x100 ← (DL.ask (ixD a0 (.int 2))); let x98 ← (DL.ask (ixD a0 (.int 3))); let x96 ← (DL.ask (ixD a0 (.int 4))); let o107 ← Mo.lift (starD 0 m_Table_init_e784 [x104, x102, x100, x98, x96]); pure (.rt (D.ins "Table" ["rows", "parsed"] o107))) else (pure (.nx ()))) fun (q85 : Unit) => (do let x112 ← (DL.ask (lenD [a0])); let t261 ← (DL.ask ((eqD x112 (.int 6)).bind bOf)); seqF (if t261 = true then (do let x137 ← (DL.ask (ixD a0 (.int 0))); let x135 ← (DL.ask (ixD a0 (.int 1))); let x133 ← (DL.ask (ixD a0 (.int 2))); let x131 ← (DL.ask (ixD a0 (.int 3))); let x129 ← (DL.ask (ixD a0 (.int 4))); let x127 ← (DL.ask (ixD a0 (.int 5))); let o140 ← Mo.lift (starD 0 m_Table_init_e784 [x137, x135, x133, x131, x129, x127]); pure (.rt (D.ins "Table" ["rows", "parsed"] o140))) else (pure (.nx ()))) fun (q114 : Unit) => (do let x145 ← (DL.ask (lenD [a0])); let t260 ← (DL.ask ((eqD x145 (.int 7)).bind bOf)); seqF (if t260 = true then (do let x174 ← (DL.ask (ixD a0 (.int 0))); let x172 ← (DL.ask (ixD a0 (.int 1))); let x170 ← (DL.ask (ixD a0 (.int 2))); let x168 ← (DL.ask (ixD a0 (.int 3))); let x166 ← (DL.ask (ixD a0 (.int 4))); let x164 ← (DL.ask (ixD a0 (.int 5))); let x162 ← (DL.ask (ixD a0 (.int 6))); let o177 ← Mo.lift (starD 0 m_Table_init_e784 [x174, x172, x170, x168, x166, x164, x162]); pure (.rt (D.ins "Table" ["rows", "parsed"] o177))) else (pure (.nx ()))) fun (q147 : Unit) => (do let x182 ← (DL.ask (lenD [a0])); let t259 ← (DL.ask ((eqD x182 (.int 8)).bind bOf)); seqF (if t259 = true then (do let x215 ← (DL.ask (ixD a0 (.int 0))); let x213 ← (DL.ask (ixD a0 (.int 1))); let x211 ← (DL.ask (ixD a0 (.int 2))); let x209 ← (DL.ask (ixD a0 (.int 3))); let x207 ← (DL.ask (ixD a0 (.int 4))); let x205 ← (DL.ask (ixD a0 (.int 5))); let x203 ← (DL.ask (ixD a0 (.int 6))); let x201 ← (DL.ask (ixD a0 (.int 7))); let o218 ← Mo.lift (starD 0 m_Table_init_e784 [x215, x213, x211, x209, x207, x205, x203, x201]); pure (.rt (D.ins "Table" ["rows", "parsed"] o218))) else (pure (.nx ()))) fun (q184 : Unit) => (do let x254 ← (DL.ask (ixD a0 (.int 0))); let x252 ← (DL.ask (ixD a0 (.int 1))); let x250 ← (DL.ask (ixD a0 (.int 2))); let x248 ← (DL.ask (ixD a0 (.int 3))); let x246 ← (DL.ask (ixD a0 (.int 4))); let x244 ← (DL.ask (ixD a0 (.int 5))); let x242 ← (DL.ask (ixD a0 (.int 6))); let x240 ← (DL.ask (ixD a0 (.int 7))); let x238 ← (DL.ask (ixD a0 (.int 8))); let o257 ← Mo.lift (starD 0 m_Table_init_e784 [x254, x252, x250, x248, x246, x244, x242, x240, x238]); pure (.rt (D.ins "Table" ["rows", "parsed"] o257)))))))))) := by
  unfold b__law_table_9456; simp only [l__law_table_9456_0, l__law_table_9456_1, l__law_table_9456_2, l__law_table_9456_3, l__law_table_9456_4, l__law_table_9456_5, l__law_table_9456_6, l__law_table_9456_7, l__law_table_9456_8, l__law_table_9456_9, l__law_table_9456_10, pure_bind, bind_assoc, mkL]
def m__law_table_9456 : List D → R D := apR1 fun a0 => (runR false (b__law_table_9456 a0))
theorem n__law_table_9456 : ∀ ds : List D, m__law_table_9456 ds ≠ .stuck → ds.length = 1 := apR1_len _
def k_Table_one_site_ffed_0 (a0 : D) (a1 : D) (a2 : D) : R (Fl (Unit) (Empty)) := (do let v11 ← (do let x9 ← (do let x3 ← (pure a0); let _ ← DL.ask (insOk ["Table"] "site" x3); let r4 ← (do let x1 ← (pure a1); let r2 ← pure []; pure (x1 :: r2)); Mo.lift (dispM [("Table", m_Table_site_ff2c)] x3 r4)); let y10 ← (do let x7 ← (pure a0); let _ ← DL.ask (insOk ["Table"] "site" x7); let r8 ← (do let x5 ← (pure a2); let r6 ← pure []; pure (x5 :: r6)); Mo.lift (dispM [("Table", m_Table_site_ff2c)] x7 r8)); DL.ask (eqD x9 y10)); pure (.rt v11))
theorem l_Table_one_site_ffed_0 (a0 : D) (a1 : D) (a2 : D) : k_Table_one_site_ffed_0 a0 a1 a2 = (do let v11 ← (do let x9 ← (do let x3 ← (pure a0); let _ ← DL.ask (insOk ["Table"] "site" x3); let r4 ← (do let x1 ← (pure a1); let r2 ← pure []; pure (x1 :: r2)); Mo.lift (dispM [("Table", m_Table_site_ff2c)] x3 r4)); let y10 ← (do let x7 ← (pure a0); let _ ← DL.ask (insOk ["Table"] "site" x7); let r8 ← (do let x5 ← (pure a2); let r6 ← pure []; pure (x5 :: r6)); Mo.lift (dispM [("Table", m_Table_site_ff2c)] x7 r8)); DL.ask (eqD x9 y10)); pure (.rt v11)) := rfl
def b_Table_one_site_ffed (a0 a1 a2 : D) : R (Fl Unit Empty) := (k_Table_one_site_ffed_0 a0 a1 a2)
theorem e_Table_one_site_ffed (a0 a1 a2 : D) : b_Table_one_site_ffed a0 a1 a2 = (do let _ ← DL.ask (insOk ["Table"] "site" a0); let x9 ← (Mo.lift (dispM [("Table", m_Table_site_ff2c)] a0 [a1])); let _ ← DL.ask (insOk ["Table"] "site" a0); let y10 ← (Mo.lift (dispM [("Table", m_Table_site_ff2c)] a0 [a2])); let v11 ← (DL.ask (eqD x9 y10)); pure (.rt v11)) := by
  unfold b_Table_one_site_ffed; simp only [l_Table_one_site_ffed_0, pure_bind, bind_assoc, mkL]
def m_Table_one_site_ffed : List D → R D := apR3 fun a0 a1 a2 => (runR false (b_Table_one_site_ffed a0 a1 a2))
theorem n_Table_one_site_ffed : ∀ ds : List D, m_Table_one_site_ffed ds ≠ .stuck → ds.length = 3 := apR3_len _
end FN
/-! ### plain laws with the wide bag: the draws are counted -/
namespace DL
def InvW (s : S) : Prop := s.w = true ∧ s.l.length ≤ 1000 ∧ 0 ≤ s.y ∧ s.y < 2305843009213693951 ∧ 0 ≤ s.z
/-- x answers after at most K draws -/
def Bk {α : Type} (K : Nat) (x : M α) (Q : α → Prop) : Prop := ∀ s, InvW s → s.z + K ≤ 100000000000 → ∃ a s', x s = .ok a s' ∧ InvW s' ∧ s'.z ≤ s.z + K ∧ Q a
section
variable {α β γ : Type} {Q : β → Prop} {P : α → Prop} {K K1 : Nat}
theorem bk_pure {a : β} (h : Q a) : Bk K (pure a : M β) Q := fun s i _ => ⟨a, s, rfl, i, by omega, h⟩
theorem bk_mono {x : M α} {P' : α → Prop} (h : Bk K1 x P) (w : ∀ a, P a → P' a) (hk : K1 ≤ K := by omega) : Bk K x P' := fun s i b => by
  obtain ⟨a, s', e, i', z, q⟩ := h s i (by omega)
  exact ⟨a, s', e, i', by omega, w a q⟩
theorem bk_then {x : M α} {f : α → M β} (h : Bk K1 x P) (w : ∀ a, P a → Bk (K - K1) (f a) Q) (hk : K1 ≤ K := by omega) : Bk K (x >>= f) Q := fun s i b => by
  obtain ⟨a, s', e, i', z, q⟩ := h s i (by omega)
  obtain ⟨b, s2, e2, i2, z2, q2⟩ := w a q s' i' (by omega)
  refine ⟨b, s2, ?_, i2, by omega, q2⟩
  show (x s).bd f = _
  rw [e]; exact e2
theorem bk_ask {o : Option α} {a : α} (e : o = some a) (h : P a) : Bk K (ask o : M α) P := by subst e; exact bk_pure h
theorem bk_noex {x : M α} (h : Bk K x P) : Bk K (Mo.noex x) P := fun s i b => by
  obtain ⟨a, s', e, i', z, q⟩ := h s i b
  refine ⟨a, s', ?_, i', z, q⟩
  show (x s).nx = _
  rw [e]; rfl
theorem bk_runM {nr : Bool} {x : M (Fl Unit Empty)} {Q : D → Prop} (h : Bk K x (FlQ nr Q)) : Bk K (runM nr x) Q := fun s i b => by
  obtain ⟨a, s', e, i', z, q⟩ := h s i b
  unfold runM
  rw [e]
  cases a with
  | nx a =>
    obtain ⟨q1, q2⟩ := q
    subst q1
    exact ⟨.non, s', rfl, i', z, q2⟩
  | rt d => exact ⟨d, s', rfl, i', z, q⟩
  | bk b => exact b.elim
  | ct b => exact b.elim
theorem bk_seqP {x : M (Fl α β)} {k : α → M (Fl γ β)} {Q : Fl γ β → Prop} (P : α → Prop) (h : Bk K1 x (SeqQ P Q)) (w : ∀ a, P a → Bk (K - K1) (k a) Q) (hk : K1 ≤ K := by omega) : Bk K (seqF x k) Q := bk_then h (fun f q => by
  cases f with
  | nx a => exact w a q
  | rt d => exact bk_pure q
  | bk b => exact bk_pure q
  | ct b => exact bk_pure q) hk
/-- c draws a turn -/
theorem bk_for {u : D → Option γ} {xb : α → γ → M (Fl α α)} {Q : Fl α β → Prop} (c : Nat) (I : Nat → α → Prop) (ds : List D) (a0 : α) (h0 : I 0 a0) (hs : ∀ i d a, ds[i]? = some d → I i a → ∃ c', u d = some c' ∧ Bk c (xb a c') (TurnQ (I (i + 1)) Q)) (he : ∀ a, I ds.length a → Q (.nx a)) {n : Nat} (hl : ds.length ≤ n) (hk : c * n ≤ K := by omega) : Bk K (forF u xb ds a0) Q := by
  have hk' : c * ds.length ≤ K := Nat.le_trans (Nat.mul_le_mul_left c hl) hk
  clear hk hl
  induction ds generalizing I a0 K with
  | nil => exact bk_pure (he _ h0)
  | cons d ds ih =>
    unfold forF
    obtain ⟨c', e, h⟩ := hs 0 d a0 rfl h0
    rw [e]
    rw [List.length_cons, Nat.mul_add, Nat.mul_one] at hk'
    have ih' := fun (a : α) (q : I 1 a) => ih (fun i => I (i + 1)) a q (fun i d' a' e' q' => hs (i + 1) d' a' (by simpa using e') q') (fun a q => he a (by simpa using q)) (K := K - c) (by omega)
    show Bk K (xb a0 c' >>= _) Q
    refine bk_then h (fun f q => ?_) (by omega)
    cases f with
    | nx a => exact ih' a q
    | ct a => exact ih' a q
    | bk a => exact bk_pure q
    | rt d => exact bk_pure q
theorem bk_forU {u : D → Option γ} {xb : Unit → γ → M (Fl Unit Unit)} {Q : Fl Unit β → Prop} (c : Nat) (ds : List D) (hs : ∀ d ∈ ds, ∃ c', u d = some c' ∧ Bk c (xb () c') (TurnQ (fun _ => True) Q)) (he : Q (.nx ())) {n : Nat} (hl : ds.length ≤ n) (hk : c * n ≤ K := by omega) : Bk K (forF u xb ds ()) Q :=
  bk_for c (fun _ _ => True) ds () trivial (fun i d _ e _ => hs d (List.mem_of_getElem? e)) (fun _ _ => he) hl hk
theorem bk_lc {u : D → Option γ} {xe : γ → M D} {P : D → D → Prop} (c : Nat) : ∀ (ds : List D) {K : Nat}, (∀ d ∈ ds, ∃ c', u d = some c' ∧ Bk c (xe c') (P d)) → ∀ {n : Nat}, ds.length ≤ n → c * n ≤ K → Bk K (lcF u (fun _ => pure true) xe ds) fun rs => All2 P ds rs
  | [], K, _, _, _, _ => bk_pure .nil
  | d :: ds, K, h, n, hl, hk => by
    have hk' : c * ds.length + c ≤ K := by
      have := Nat.le_trans (Nat.mul_le_mul_left c hl) hk
      rwa [List.length_cons, Nat.mul_add, Nat.mul_one] at this
    unfold lcF
    obtain ⟨c', e, hx⟩ := h d (.head _)
    rw [e]
    show Bk K (Mo.noex (xe c') >>= _) _
    exact bk_then (bk_noex hx) (fun y py => bk_then (bk_lc c ds (K := K - c) (fun x m => h x (.tail _ m)) (Nat.le_refl _) (by omega)) (fun r pr => bk_pure (.cons py pr)) (Nat.le_refl _)) (by omega)
theorem bk_iteM {t : M Bool} {x y : M α} (ht : Bk K1 t fun _ => True) (hx : Bk (K - K1) x P) (hy : Bk (K - K1) y P) (hk : K1 ≤ K := by omega) : Bk K (iteM t x y) P := bk_then ht (fun b _ => by
  cases b
  · exact hy
  · exact hx) hk
end
/-! the bag -/
theorem drop_len (l : List Int) : (l.dropWhile fun i => i == 0).length ≤ l.length := (List.dropWhile_sublist _).length_le
theorem okr_bagW {α β : Type} {y : Int} {l : List Int} {k : M (Fl α β)} {Q : Fl α β → Prop} {K : Nat} (hl : l.length ≤ 1000) (h0 : 0 ≤ y) (h1 : y < 2305843009213693951) (h : Bk K k Q) (hk : K ≤ 100000000000 := by omega) : OkR (withBagW (.lst [.lst (l.map .int), .int y, .int 0]) k) Q := by
  obtain ⟨a, s', e, _, _, q⟩ := h ⟨0, y, 0, l, true⟩ ⟨rfl, hl, h0, h1, Int.le_refl 0⟩ (by show (0:Int) + _ ≤ _; omega)
  refine ⟨a, ?_, q⟩
  unfold withBagW
  simp only [intsOf_map, e]
end DL
namespace FN
open DL
/-- one state -/
def MW {α : Type} (x : M α) (s : S) (Q : α → S → Prop) : Prop := ∃ a s', x s = .ok a s' ∧ Q a s'
theorem mw_bind {α β : Type} {x : M α} {f : α → M β} {s : S} {Q : β → S → Prop} (h : MW x s fun a s' => MW (f a) s' Q) : MW (x >>= f) s Q := by
  obtain ⟨a, s', e, b, s2, e2, q⟩ := h
  refine ⟨b, s2, ?_, q⟩
  show (x s).bd f = _
  rw [e]; exact e2
theorem mw_ask {α : Type} {o : Option α} {a : α} {s : S} {Q : α → S → Prop} (e : o = some a) (h : Q a s) : MW (ask o) s Q := by subst e; exact ⟨a, s, rfl, h⟩
theorem mw_pure {α : Type} {a : α} {s : S} {Q : α → S → Prop} (h : Q a s) : MW (pure a) s Q := ⟨a, s, rfl, h⟩
theorem pow_ii {i : Int} {j : Nat} (h0 : j ≤ 100) (h : i.natAbs < 2 ^ 64) : powC (.int i) (.int j) = some (.int (i ^ j)) := by
  show (if 0 ≤ (j : Int) ∧ (j : Int) ≤ 100 ∧ i.natAbs < 2 ^ 64 then some (D.int (i ^ (j : Int).toNat)) else none) = _
  rw [if_pos ⟨by omega, by omega, h⟩, Int.toNat_natCast]
theorem take_okW {n : Int} (h0 : 0 < n) (h1 : n < 4294967296) : Bk 1 (m__law_take_bb49 [.int n]) fun d => ∃ i, d = .int i ∧ 0 ≤ i ∧ i < n := by
  refine bk_runM ?_
  rw [e__law_take_bb49]
  intro s i b
  have key : MW (do bagDrop; let t51 ← bagNe; seqF (if t51 = true then (do let x5 ← bagHd; let x8 ← (DL.ask (intD [x5])); let v4 ← (DL.ask (modD x8 (.int n))); let x11 ← bagHd; let v10 ← (DL.ask (fdivD x11 (.int n))); let i13 ← DL.ask (intOf v10); bagSetHd i13; (pure (.rt v4))) else (pure (.nx ()))) fun (q3 : Unit) => (do let x16 ← bagZ; let v15 ← (DL.ask (addD x16 (.int 1))); let i18 ← DL.ask (intOf v15); bagSetZ i18; let x22 ← bagY3; let y21 ← bagZ; let y23 ← (DL.ask (mulD (.int 15485863) y21)); let x24 ← (DL.ask (addD x22 y23)); let x26 ← (DL.ask (powC x24 (.int 3))); let x29 ← (DL.ask (intD [x26])); let v19 ← (DL.ask (modD x29 (.int 2305843009213693921))); let y33 ← bagZ; let y35 ← (DL.ask (mulD (.int 32452867) y33)); let x36 ← (DL.ask (addD v19 y35)); let x38 ← (DL.ask (powC x36 (.int 2))); let x41 ← (DL.ask (intD [x38])); let v31 ← (DL.ask (modD x41 (.int 2305843009213693951))); let x45 ← (DL.ask (fdivD v31 (.int 4096))); let x48 ← (DL.ask (intD [x45])); let v50 ← (DL.ask (modD x48 (.int n))); pure (.rt v50)) : M (Fl Unit Empty)) s (fun a s' => InvW s' ∧ s'.z ≤ s.z + (1 : Nat) ∧ FlQ false (fun d => ∃ i, d = .int i ∧ 0 ≤ i ∧ i < n) a) := by
    have hm : ∀ j : Int, FlQ false (fun d => ∃ i, d = .int i ∧ 0 ≤ i ∧ i < n) (.rt (.int (j % n))) := fun j => ⟨_, rfl, Int.emod_nonneg _ (by omega), Int.emod_lt_of_pos _ h0⟩
    obtain ⟨iw, il, iy, iy2, iz⟩ := i
    refine mw_bind ⟨(), { s with l := s.l.dropWhile fun i => i == 0 }, by unfold bagDrop; rw [if_pos ⟨iw, il⟩], ?_⟩
    have il2 := Nat.le_trans (drop_len s.l) il
    generalize s.l.dropWhile (fun i => i == 0) = l at il2
    refine mw_bind ⟨!l.isEmpty, { s with l := l }, by unfold bagNe; rw [if_pos ⟨iw, il2⟩], ?_⟩
    cases l with
    | cons t l =>
      refine mw_bind ⟨.rt (.int (t % n)), { s with l := (t / n) :: l }, ?_, mw_pure ⟨⟨iw, by simpa using il2, iy, iy2, iz⟩, by show s.z ≤ _; omega, hm t⟩⟩
      show (do let x5 ← bagHd; let x8 ← (DL.ask (intD [x5])); let v4 ← (DL.ask (modD x8 (.int n))); let x11 ← bagHd; let v10 ← (DL.ask (fdivD x11 (.int n))); let i13 ← DL.ask (intOf v10); bagSetHd i13; (pure (.rt v4)) : M (Fl Unit Empty)) _ = _
      have hh : bagHd { s with l := t :: l } = .ok (.int t) { s with l := t :: l } := by unfold bagHd; simp only [iw]
      have hs : bagSetHd (t / n) { s with l := t :: l } = .ok () { s with l := (t / n) :: l } := by unfold bagSetHd; simp only [iw]
      rw [M.bind_ap, hh]
      show (do let x8 ← (DL.ask (intD [D.int t])); let v4 ← (DL.ask (modD x8 (.int n))); let x11 ← bagHd; let v10 ← (DL.ask (fdivD x11 (.int n))); let i13 ← DL.ask (intOf v10); bagSetHd i13; (pure (.rt v4)) : M (Fl Unit Empty)) _ = _
      simp only [int_int, askM, pure_bind, mod_ii h0]
      rw [M.bind_ap, hh]
      show (do let v10 ← (DL.ask (fdivD (D.int t) (.int n))); let i13 ← DL.ask (intOf v10); bagSetHd i13; (pure (.rt (.int (t % n)))) : M (Fl Unit Empty)) _ = _
      simp only [fdiv_ii h0 (by omega : n.natAbs < 2 ^ 64), int_of, askM, pure_bind]
      rw [M.bind_ap, hs]
      rfl
    | nil =>
      refine mw_bind ⟨.nx (), { s with l := [] }, rfl, ?_⟩
      show MW (do let x16 ← bagZ; _) _ _
      refine mw_bind ⟨.int s.z, { s with l := [] }, by unfold bagZ; rw [if_pos iw], ?_⟩
      refine mw_bind (mw_ask add_ii (mw_bind (mw_ask (int_of) (mw_bind ⟨(), { s with l := [], z := s.z + 1 }, by unfold bagSetZ; rw [if_pos iw], ?_⟩))))
      refine mw_bind ⟨.int s.y, { s with l := [], z := s.z + 1 }, by unfold bagY3; rw [if_pos iw], ?_⟩
      refine mw_bind ⟨.int (s.z + 1), { s with l := [], z := s.z + 1 }, by unfold bagZ; rw [if_pos iw], ?_⟩
      refine mw_bind (mw_ask (mul_ii (by omega) (by omega)) (mw_bind (mw_ask add_ii (mw_bind (mw_ask (pow_ii (j := 3) (by omega) (by omega)) (mw_bind (mw_ask int_int (mw_bind (mw_ask (mod_ii (by omega)) ?_)))))))))
      refine mw_bind ⟨.int (s.z + 1), { s with l := [], z := s.z + 1 }, by unfold bagZ; rw [if_pos iw], ?_⟩
      have g0 := Int.emod_nonneg ((s.y + 15485863 * (s.z + 1)) ^ 3) (by omega : (2305843009213693921 : Int) ≠ 0)
      have g1 := Int.emod_lt_of_pos ((s.y + 15485863 * (s.z + 1)) ^ 3) (by omega : (0 : Int) < 2305843009213693921)
      generalize (s.y + 15485863 * (s.z + 1)) ^ 3 % 2305843009213693921 = g at g0 g1
      refine mw_bind (mw_ask (mul_ii (by omega) (by omega)) (mw_bind (mw_ask add_ii (mw_bind (mw_ask (pow_ii (j := 2) (by omega) (by omega)) (mw_bind (mw_ask int_int (mw_bind (mw_ask (mod_ii (by omega)) ?_)))))))))
      refine mw_bind (mw_ask (fdiv_ii (by omega) (by omega)) (mw_bind (mw_ask int_int (mw_bind (mw_ask (mod_ii h0) (mw_pure ⟨⟨iw, by simp, iy, iy2, by show 0 ≤ s.z + 1; omega⟩, by show s.z + 1 ≤ _; omega, hm _⟩))))))
  obtain ⟨a, s', e, q⟩ := key
  exact ⟨a, s', e, q⟩
theorem of_okW {ds : List D} (h0 : ds ≠ []) (h1 : ds.length ≤ 1000000) : Bk 1 (m__law_of_8ba0 [.lst ds]) fun d => d ∈ ds := by
  refine bk_runM ?_
  rw [e__law_of_8ba0]
  have hp : 0 < ds.length := List.length_pos_iff.mpr h0
  simp only [len_lst, askM, pure_bind]
  refine bk_then (take_okW (n := ds.length) (by omega) (by omega)) ?_
  rintro d ⟨i, rfl, h2, h3⟩
  simp only [ix_lst h2 h3, askM, pure_bind]
  exact bk_pure (List.getElem_mem _)
theorem ints_of : ∀ L : List D, (∀ z ∈ L, ∃ i : Int, z = .int i) → ∃ l : List Int, L = l.map .int ∧ l.length = L.length
  | [], _ => ⟨[], rfl, rfl⟩
  | d :: L, h => by
    obtain ⟨i, rfl⟩ := h d (.head _)
    obtain ⟨l, e, hl⟩ := ints_of L fun z m => h z (.tail _ m)
    exact ⟨i :: l, by rw [e]; rfl, by simp [hl]⟩
def intP : D → Bool
  | .int i => decide ((1000000000000000000 : Int) ≤ if i < 0 then -i else i)
  | _ => false
def intA : D → D
  | .int i => .int (if i < 0 then -i else i)
  | d => d
theorem bag_okW (ns : List Int) (hn : ns.length ≤ 63) : OkR (m__law_bag_d7b5 [.scr ns]) fun d => ∃ (l : List Int) (y : Int), d = .lst [.lst (l.map .int), .int y, .int 0] ∧ l.length ≤ 1000 ∧ 0 ≤ y ∧ y < 2305843009213693951 := by
  have e3 : powC (.int 10) (.int 18) = some (.int 1000000000000000000) := rfl
  have il : itD (.scr ns) = some (ns.map .int) := rfl
  refine okr_runR ?_
  simp only [e__law_bag_d7b5, il, askR, pure_bind]
  refine okr_seqP (fun q => ∃ y : Int, q = .int y ∧ 0 ≤ y ∧ y < 2305843009213693951) (okr_for (fun _ (q : D) => ∃ y : Int, q = .int y ∧ 0 ≤ y ∧ y < 2305843009213693951) _ _ ⟨_, rfl, by omega, by omega⟩ (fun k d q hd hq => ⟨d, rfl, ?_⟩) (fun q hq => by obtain ⟨y, h⟩ := hq; exact ⟨y, h⟩)) ?_
  · obtain ⟨y, rfl, y0, y1⟩ := hq
    rw [List.getElem?_map] at hd
    cases e : ns[k]? with
    | none => rw [e] at hd; cases hd
    | some c =>
      rw [e] at hd
      cases hd
      simp only [abs_i, e3, askR, pure_bind, lt_ii, Option.bind_some, bOf_bl]
      refine okr_seqP (fun q => ∃ y : Int, q = .int y ∧ 0 ≤ y ∧ y < 2305843009213693951) ?_ (fun q hq => okr_p hq)
      by_cases c1 : (if c < 0 then -c else c) < 1000000000000000000
      · have c2 : c.natAbs < 2 ^ 64 := by split at c1 <;> omega
        simp only [decide_eq_true c1, if_true, mul_ii (i := y) (j := 6364136223846793005) (by omega) (by omega), mul_ii (i := c) (j := 48271) c2 (by omega), askR, pure_bind, add_ii, int_int, mod_ii (j := 2305843009213693951) (by omega)]
        exact okr_p ⟨_, rfl, Int.emod_nonneg _ (by omega), Int.emod_lt_of_pos _ (by omega)⟩
      · simp only [decide_eq_false c1, Bool.false_eq_true, if_false]
        exact okr_p ⟨y, rfl, y0, y1⟩
  rintro q ⟨y, rfl, y0, y1⟩
  have lc := lcR (u := fun d => some d) (xt := fun (c29 : D) => (do let x33 ← (DL.ask (absD [c29])); let y34 ← (DL.ask (powC (.int 10) (.int 18))); DL.ask ((geD x33 y34).bind bOf))) (xe := fun (c29 : D) => (DL.ask (absD [c29]))) (c := fun d => d) (p := intP) (f := intA) (ns.map .int) (fun _ _ => rfl) (fun d m => by
    obtain ⟨i, _, rfl⟩ := List.mem_map.mp m
    rfl) (fun d m _ => by
    obtain ⟨i, _, rfl⟩ := List.mem_map.mp m
    rfl)
  rw [lc]
  obtain ⟨l, el, hl⟩ := ints_of (((ns.map .int).filter intP).map intA) fun z m => by
    obtain ⟨d, hd, rfl⟩ := List.mem_map.mp m
    obtain ⟨i, _, rfl⟩ := List.mem_map.mp (List.mem_filter.mp hd).1
    exact ⟨_, rfl⟩
  have hl2 : l.length ≤ 63 := by
    rw [hl, List.length_map]
    exact Nat.le_trans (List.length_filter_le _ _) (by rw [List.length_map]; exact hn)
  rw [el, okpR]
  simp only [pure_bind]
  rw [sz_ok (by simp)]
  simp only [askR, pure_bind]
  exact okr_p ⟨l, y, rfl, by omega, y0, y1⟩
theorem all2_chrs : ∀ {ds rs : List D}, All2 (fun _ r => ∃ c ∈ CH, r = D.str [c]) ds rs → ∃ z : List Nat, rs = chrs z ∧ z.length = ds.length ∧ ∀ c ∈ z, c ∈ CH
  | _, _, .nil => ⟨[], rfl, rfl, by simp⟩
  | _, _, .cons ⟨c, hc, e⟩ t => by
    obtain ⟨z, rfl, hl, hz⟩ := all2_chrs t
    subst e
    exact ⟨c :: z, rfl, by simp [hl], fun x m => by
      rcases List.mem_cons.mp m with rfl | m
      · exact hc
      · exact hz x m⟩
theorem label_okW {m : Int} (m1 : 1 ≤ m) (m2 : m ≤ 20) : Bk 21 (m__law_label_b886 [.int m]) fun d => ∃ z, d = .str z ∧ isLab m.toNat z = true := by
  refine bk_runM ?_
  simp only [e__law_label_b886, str_of, askM, pure_bind]
  refine bk_then (take_okW (n := m) (by omega) (by omega)) ?_
  rintro d ⟨k, rfl, k0, k1⟩
  simp only [add_ii, askM, pure_bind]
  rw [rng1_ok (by omega) (by omega)]
  simp only [askM, pure_bind]
  refine bk_then (K1 := 20) (bk_lc (P := fun _ r => ∃ c ∈ CH, r = D.str [c]) 1 _ (fun d _ => ⟨d, rfl, ?_⟩) (n := 20) (by rw [range_len]; omega) (by omega)) ?_
  · refine bk_then (take_okW (n := 36) (by omega) (by omega)) ?_
    rintro d ⟨i, rfl, i0, i1⟩
    obtain ⟨c, hc, e⟩ := ix_str (z := CH) i0 (by rw [ch36]; exact i1)
    exact bk_ask e ⟨c, hc, rfl⟩
  intro rs hrs
  obtain ⟨z, rfl, hl, hz⟩ := all2_chrs hrs
  rw [range_len] at hl
  rw [join_chrs (by omega)]
  simp only [askM, pure_bind]
  exact bk_pure ⟨z, rfl, isLab_iff.mpr ⟨by omega, by omega, hz⟩⟩
theorem of_labW {zs : List (List Nat)} (h : Lab8 zs) : Bk 1 (m__law_of_8ba0 [.lst (zs.map .str)]) fun d => ∃ z, d = .str z ∧ isLab 20 z = true :=
  bk_mono (of_okW (by simpa using h.1) (by rw [List.length_map]; have := h.2.1; omega)) fun d hd => by
    obtain ⟨z, hz, rfl⟩ := List.mem_map.mp hd
    exact ⟨z, rfl, h.2.2 z hz⟩
theorem labs_nil : Labs [] := fun z m => by cases m
/-- a host that is drawn -/
theorem host_okW {zs : List (List Nat)} (h : Lab8 zs) {m : Int} (m1 : 1 ≤ m) (m2 : m ≤ 10) : Bk 300 (m__law_host_9bb9 [.lst (zs.map .str), .int m]) fun d => ∃ A : Hst, d = hD A ∧ Labs A ∧ 1 ≤ A.length ∧ (A.length : Int) ≤ m := by
  have s0 : szL [] = some [] := sz_ok (by simp)
  refine bk_runM ?_
  simp only [e__law_host_9bb9, s0, askM, pure_bind]
  refine bk_then (take_okW (n := m) (by omega) (by omega)) ?_
  rintro d ⟨k, rfl, k0, k1⟩
  simp only [add_ii, askM, pure_bind]
  rw [rng1_ok (by omega) (by omega)]
  simp only [askM, pure_bind]
  refine bk_seqP (K1 := 220) (fun q => ∃ A : Hst, q = A.map .str ∧ Labs A ∧ A.length = (1 + k).toNat) (bk_for (n := 10) 22 (fun i q => ∃ A : Hst, q = A.map .str ∧ Labs A ∧ A.length = i) _ _ ⟨[], rfl, labs_nil, rfl⟩ (fun i d q hd hq => ⟨d, rfl, ?_⟩) (fun q hq => by rw [range_len] at hq; exact hq) (by rw [range_len]; omega) (by omega)) ?_
  · obtain ⟨A, rfl, hA, hl⟩ := hq
    have hi := (range_get hd).1
    refine bk_then (K1 := 22) (P := fun d => ∃ z, d = .str z ∧ isLab 20 z = true) ?_ ?_
    · refine bk_iteM (K1 := 1) (bk_then (take_okW (n := 6) (by omega) (by omega)) fun d hd => by
        obtain ⟨j, rfl, _, _⟩ := hd
        exact bk_ask (by rfl) trivial) (bk_mono (label_okW (m := 3) (by omega) (by omega)) fun d hd => ?_) (bk_mono (of_labW h) fun d hd => hd)
      obtain ⟨z, rfl, hz⟩ := hd
      exact ⟨z, rfl, isLab_up hz (by decide)⟩
    rintro d ⟨z, rfl, hz⟩
    rw [apd_ok (by rw [List.length_map]; omega)]
    simp only [askM, pure_bind]
    refine bk_pure ⟨A ++ [z], by simp, fun y m => ?_, by simp [hl]⟩
    rcases List.mem_append.mp m with m | m
    · exact hA y m
    · rw [List.mem_singleton.mp m]; exact hz
  rintro q ⟨A, rfl, hA, hl⟩
  simp only [tup_lst, askM, pure_bind]
  exact bk_pure ⟨A, rfl, hA, by omega, by omega⟩
theorem law_ends_okW {h A : List (List Nat)} (hh : Labs h) (hA : Labs A) : m__law_ends_f9cd [hD h, hD A] = .ok (.bl (endsB h A)) := by
  have e := ends_ok hh hA
  rw [← e]
  unfold m__law_ends_f9cd m_ends_with_d715 apR2
  simp only [hD, e__law_ends_f9cd, e_ends_with_d715]
end FN
/-! ### tables with the wide bag (k63, k64, k66) -/
namespace FN
open DL PySem PySem.W
theorem pool_okX : Bk 70 (m__law_pool_b280 [.int 20]) fun d => ∃ zs : List (List Nat), d = .lst (zs.map .str) ∧ Lab8 zs := by
  refine bk_runM ?_
  simp only [e__law_pool_b280]
  refine bk_then (K1 := 1) (P := fun d => ∃ m : Int, d = .int m ∧ 1 ≤ m ∧ m ≤ 20) ?_ ?_
  · refine bk_iteM (K1 := 1) (bk_then (take_okW (n := 8) (by omega) (by omega)) fun d hd => by
      obtain ⟨j, rfl, _, _⟩ := hd
      exact bk_ask (by rfl) trivial) (bk_pure ⟨20, rfl, by omega, by omega⟩) (bk_pure ⟨2, rfl, by omega, by omega⟩)
  rintro d ⟨m, rfl, m1, m2⟩
  refine bk_then (take_okW (n := 2) (by omega) (by omega)) ?_
  rintro d ⟨k, rfl, k0, k1⟩
  simp only [add_ii, askM, pure_bind]
  rw [rng1_ok (by omega) (by omega)]
  simp only [askM, pure_bind]
  refine bk_then (K1 := 63) (bk_lc (P := fun _ r => ∃ z, r = .str z ∧ isLab 20 z = true) 21 _ (fun d _ => ⟨d, rfl, bk_mono (label_okW m1 m2) fun d hd => ?_⟩) (n := 3) (by rw [range_len]; omega) (by omega)) ?_
  · obtain ⟨z, rfl, hz⟩ := hd
    exact ⟨z, rfl, isLab_up hz (by omega)⟩
  intro rs hrs
  obtain ⟨zs, rfl, hl, hz⟩ := all2_P hrs
  rw [range_len] at hl
  exact bk_pure ⟨zs, rfl, fun e => by rw [e] at hl; simp at hl; omega, by omega, hz⟩
def sgT : Kd → List Nat
  | .pl => []
  | .wi => [42, 46]
  | .ex => [33]
theorem sg_join {k : Kd} {A : List (List Nat)} : sgT k ++ joinN [46] A = rowT (k, A) := by cases k <;> rfl
theorem row_okX {zs : List (List Nat)} (hL : Lab8 zs) : Bk 5 (m__law_row_f25d [.lst (zs.map .str)]) fun d => ∃ r : Row, d = .str (rowT r) ∧ RowOk r := by
  have sz4 : ∀ a b c d : D, szL [a, b, c, d] = some [a, b, c, d] := fun _ _ _ _ => sz_ok (by simp)
  have sz3 : ∀ a b c : D, szL [a, b, c] = some [a, b, c] := fun _ _ _ => sz_ok (by simp)
  refine bk_runM ?_
  simp only [e__law_row_f25d, sz4, sz3, sz2, askM, pure_bind]
  refine bk_then (of_okW (by simp) (by simp)) ?_
  intro d hd
  obtain ⟨k, rfl⟩ : ∃ k : Kd, d = .str (sgT k) := by
    simp only [List.mem_cons, List.not_mem_nil, or_false] at hd
    rcases hd with rfl | rfl | rfl | rfl
    · exact ⟨.pl, rfl⟩
    · exact ⟨.pl, rfl⟩
    · exact ⟨.wi, rfl⟩
    · exact ⟨.ex, rfl⟩
  have dk : ∃ m, dicK [[], [42, 46], [33]] [.lst [.int 1, .int 2, .int 3], .lst [.int 1, .int 2], .lst [.int 2, .int 3]] = some m ∧ ∀ k : Kd, ∃ L : List Int, dgetD m (.str (sgT k)) = some (.lst (L.map .int)) ∧ L ≠ [] ∧ L.length ≤ 3 ∧ ∀ t ∈ L, 1 ≤ t ∧ t ≤ 3 ∧ (k = .wi → t ≤ 2) ∧ (k = .ex → 2 ≤ t) := by
    refine ⟨_, rfl, fun k => ?_⟩
    cases k with
    | pl => exact ⟨[1, 2, 3], rfl, by simp, by simp, by simp⟩
    | wi => exact ⟨[1, 2], rfl, by simp, by simp, by simp⟩
    | ex => exact ⟨[2, 3], rfl, by simp, by simp, by simp⟩
  obtain ⟨m, dm, dg⟩ := dk
  obtain ⟨L, dg, l0, l1, hLt⟩ := dg k
  simp only [dm, dg, askM, pure_bind]
  refine bk_then (of_okW (by simpa using l0) (by rw [List.length_map]; omega)) ?_
  intro d hd
  obtain ⟨t, ht, rfl⟩ := List.mem_map.mp hd
  obtain ⟨t1, t2, tw, te⟩ := hLt t ht
  simp only [str_of, askM, pure_bind]
  rw [rng1_ok (by omega) (by omega)]
  simp only [askM, pure_bind]
  refine bk_then (K1 := 3) (bk_lc (P := fun _ r => ∃ z, r = .str z ∧ isLab 20 z = true) 1 _ (fun d _ => ⟨d, rfl, of_labW hL⟩) (n := 3) (by rw [range_len]; omega) (by omega)) ?_
  intro rs hrs
  obtain ⟨A, rfl, al, hA⟩ := all2_P hrs
  rw [range_len] at al
  have rok : RowOk (k, A) := ⟨hA, by show 1 ≤ A.length; omega, by show A.length ≤ 3; omega, fun e => by have := tw e; show A.length ≤ 2; omega, fun e => by have := te e; show 2 ≤ A.length; omega⟩
  have j1 : joinD (.str [46]) (.lst (A.map .str)) = some (.str (joinN [46] A)) := join_ok (sum_le8 (k := 20) (fun z m => (isLab_iff.mp (hA z m)).2.1) (by omega) (by omega))
  have jl := labs_join (A := A) hA (by omega)
  have sl : (sgT k).length ≤ 2 := by cases k <;> simp [sgT]
  rw [j1]
  simp only [askM, pure_bind]
  rw [add_ss (by omega), sg_join]
  simp only [askM, pure_bind]
  exact bk_pure ⟨(k, A), rfl, rok⟩
theorem rows_okX {zs : List (List Nat)} (hL : Lab8 zs) : Bk 50 (m__law_rows_7d64 [.lst (zs.map .str), .int 8]) fun d => ∃ rows : List Row, d = .lst (rowsD rows) ∧ TabOk rows := by
  have s0 : szL [] = some [] := sz_ok (by simp)
  refine bk_runM ?_
  simp only [e__law_rows_7d64, s0, add_ii, askM, pure_bind]
  refine bk_then (take_okW (n := 8 + 1) (by omega) (by omega)) ?_
  rintro d ⟨m, rfl, m0, m1⟩
  rw [rng1_ok (by omega) (by omega)]
  simp only [askM, pure_bind]
  refine bk_seqP (K1 := 40) (fun q => ∃ rows : List Row, q = rowsD rows ∧ (∀ r ∈ rows, RowOk r) ∧ (rows.map rowT).Nodup ∧ rows.length ≤ m.toNat) (bk_for (n := 8) 5 (fun j q => ∃ rows : List Row, q = rowsD rows ∧ (∀ r ∈ rows, RowOk r) ∧ (rows.map rowT).Nodup ∧ rows.length ≤ j) _ _ ⟨[], rfl, by simp, by simp, by simp⟩ (fun j d q hd hq => ⟨d, rfl, ?_⟩) (fun q hq => by rw [range_len] at hq; exact hq) (by rw [range_len]; omega)) ?_
  · obtain ⟨rows, rfl, a, b, c⟩ := hq
    have hj := (range_get hd).1
    refine bk_then (row_okX hL) ?_
    rintro d ⟨r, rfl, hr⟩
    have ni : (notInD (.str (rowT r)) (.lst (rowsD rows))).bind bOf = some (!decide (rowT r ∈ rows.map rowT)) := by
      have := notin_L (k := 1000) (z := rowT r) (S := rows.map rowT) (row_tx hr) fun w m => by
        obtain ⟨x, hx, rfl⟩ := List.mem_map.mp m
        exact row_tx (a x hx)
      rwa [List.map_map] at this
    simp only [ni, askM, noexM, pure_bind]
    refine bk_seqP (K1 := 0) (fun q => ∃ rows : List Row, q = rowsD rows ∧ (∀ r ∈ rows, RowOk r) ∧ (rows.map rowT).Nodup ∧ rows.length ≤ j + 1) ?_ (fun q hq => bk_pure hq)
    by_cases c1 : rowT r ∈ rows.map rowT
    · simp only [decide_eq_true c1, Bool.not_true, Bool.false_eq_true, if_false]
      exact bk_pure ⟨rows, rfl, a, b, by omega⟩
    · simp only [decide_eq_false c1, Bool.not_false, if_true]
      rw [apd_ok (by rw [rowsD, List.length_map]; omega)]
      simp only [askM, pure_bind]
      refine bk_pure ⟨rows ++ [r], by simp [rowsD], fun x m => ?_, ?_, by simp; omega⟩
      · rcases List.mem_append.mp m with m | m
        · exact a x m
        · rw [List.mem_singleton.mp m]; exact hr
      · rw [List.map_append, List.nodup_append]
        refine ⟨b, by simp, fun x hx y hy => ?_⟩
        have ey : y = rowT r := by simpa using hy
        rw [ey]
        intro e
        exact c1 (e ▸ hx)
  rintro q ⟨rows, rfl, a, b, c⟩
  exact bk_pure ⟨rows, rfl, a, b, by omega⟩
theorem lstrip_ok {z : List Nat} (h : z.length ≤ 1000000) : lstripD (.str z) (.str [33]) = some (.str (z.drop (z.takeWhile fun c => c == 33).length)) := by
  have e : (Txt.lstripChars ⟨z.toArray⟩ ⟨([33] : List Nat).toArray⟩).cps.toList = z.drop (z.takeWhile fun c => c == 33).length := by
    unfold Txt.lstripChars
    rw [PyProof.Rows.stripBy_eq, StrLaws.strSub_toList]
    have e1 : ((⟨([33] : List Nat).toArray⟩ : Str).cps.contains) = fun c => c == 33 := by
      funext c
      show ([33] : List Nat).toArray.contains c = _
      simp
      by_cases q : c = 33 <;> simp [q]
    rw [e1]
    show (z.drop (z.takeWhile fun c => c == 33).length).take (z.length - (z.takeWhile fun c => c == 33).length) = _
    rw [List.take_of_length_le (by rw [List.length_drop]; exact Nat.le_refl _)]
  show (if (Txt.lstripChars ⟨z.toArray⟩ ⟨([33] : List Nat).toArray⟩).cps.toList.length ≤ sizeLine then some (D.str (Txt.lstripChars ⟨z.toArray⟩ ⟨([33] : List Nat).toArray⟩).cps.toList) else none) = _
  rw [e, if_pos (by rw [List.length_drop, sizeLine_eq]; omega)]
def labT (r : Row) : List (List Nat) := match r.1 with
  | .wi => [42] :: r.2
  | _ => r.2
theorem law_split {r : Row} (h : RowOk r) : ∃ t, lstripD (.str (rowT r)) (.str [33]) = some (.str t) ∧ splitD (.str t) (.str [46]) = some ((labT r).map .str) := by
  obtain ⟨k, A⟩ := r
  have tx := row_tx h
  obtain ⟨hA, h1, h2, h3, h4⟩ := h
  dsimp only at hA h1 h2 h3 h4
  have ne : A ≠ [] := fun e => by rw [e] at h1; simp at h1
  obtain ⟨c, r, ej, hc⟩ := head_lab hA h1
  have c33 : (c == 33) = false := by
    have : c ≠ 33 := fun e => by rw [e] at hc; revert hc; decide
    simpa using this
  have ls := lstrip_ok (z := rowT (k, A)) (by have := tx.1; omega)
  cases k with
  | pl =>
    have e : rowT (.pl, A) = c :: r := ej
    refine ⟨joinN [46] A, ?_, split_labs hA h1 (by omega)⟩
    rw [ls, e, List.takeWhile_cons, c33, ← ej]
    rfl
  | wi =>
    refine ⟨rowT (.wi, A), ?_, ?_⟩
    · rw [ls]
      show some (D.str ((42 :: 46 :: joinN [46] A).drop ((42 :: 46 :: joinN [46] A).takeWhile fun c => c == 33).length)) = _
      rw [List.takeWhile_cons]
      rfl
    · have e : rowT (.wi, A) = joinN [46] ([42] :: A) := by
        cases A with
        | nil => exact absurd rfl ne
        | cons a A => rfl
      have hl := tx.1
      rw [e] at hl ⊢
      show (if 46 < 256 ∧ (joinN [46] ([42] :: A)).length ≤ 1000000 then some ((TL.spl [46] 0 [] (joinN [46] ([42] :: A))).map D.str) else none) = _
      rw [if_pos ⟨by omega, by omega⟩, joinN_eq, TL.spl_join (by simp) fun p m => by
        rcases List.mem_cons.mp m with rfl | m
        · decide
        · exact ch_free (by decide) (hA p m)]
      rfl
  | ex =>
    refine ⟨joinN [46] A, ?_, split_labs hA h1 (by omega)⟩
    rw [ls]
    show some (D.str ((33 :: joinN [46] A).drop ((33 :: joinN [46] A).takeWhile fun c => c == 33).length)) = _
    rw [ej, List.takeWhile_cons, List.takeWhile_cons, c33]
    rfl
def HkH (h : Hst) : Prop := Labs h ∧ 1 ≤ h.length ∧ h.length ≤ 20
theorem host_true {h : Hst} (k : HkH h) : m_is_host_45ba [hD h] = .ok (.bl true) := by
  show m_is_host_45ba [.tup (h.map .str)] = _
  rw [is_host_row, row_of k.2.2 k.1]
  cases h with
  | nil => have := k.2.1; simp at this
  | cons _ _ => rfl
end FN
namespace FN
open DL PySem PySem.W
theorem law_table_okX {rows : List Row} (h : TabOk rows) : m__law_table_9456 [.lst (rowsD rows)] = .ok (tabD rows) := by
  have ti := table_init h
  have hl : rows.length ≤ 8 := h.2.2
  have nr : nic 5 (.lst (rowsD rows)) = true := by
    rw [nic_lst]
    refine nicL_iff.mpr fun d m => ?_
    obtain ⟨r, hr, rfl⟩ := List.mem_map.mp m
    exact nic_mono 0 4 _ (by omega) (List.all_eq_true.mpr fun c m => decide_eq_true ((row_tx (h.1 r hr)).2 c m))
  have en : (eqD (.lst (rowsD rows)) (.lst [])).bind bOf = some rows.isEmpty := by
    rw [eq_nic (n := 5) (m := 3) nr rfl (by omega) (by omega)]
    cases rows <;> rfl
  have ll : lenD [.lst (rowsD rows)] = some (.int (rows.length : Int)) := by
    show some (D.int ((rowsD rows).length : Int)) = _
    rw [rowsD, List.length_map]
  have e := fun (i j : Int) => (show (eqD (.int i) (.int j)).bind bOf = some (decide (i = j)) from rfl)
  have e2 := fun (i j : Int) => (show (ltD (.int i) (.int j)).bind bOf = some (decide (i < j)) from rfl)
  have s0 : szL [] = some [] := sz_ok (by simp)
  have st : starD 0 m_Table_init_e784 (rowsD rows) = .ok [.tup (rowsD rows), .tup (rows.map rowD)] := by
    rw [star0 (by rw [rowsD, List.length_map]; omega)]; exact ti
  unfold m__law_table_9456 apR1
  simp only [e__law_table_9456, ll, e, e2, s0, en, askR, pure_bind, lift_pR]
  match rows, hl with
  | [], _ =>
    have st' : starD 0 m_Table_init_e784 [] = .ok [.tup (rowsD []), .tup ([].map rowD)] := st
    have d0 : decide ((([] : List Row).length : Int) < 3) = true := rfl
    have dm : ([] : List Row).isEmpty = true := rfl
    simp only [d0, dm, if_true, Bool.false_eq_true, if_false, iteM, sqp, askR, pure_bind, st']
    rfl
  | [a], _ =>
    have i0 : ixD (.lst (rowsD [a])) (.int 0) = some (.str (rowT a)) := rfl
    have st' : starD 0 m_Table_init_e784 [.str (rowT a)] = .ok [.tup (rowsD [a]), .tup ([a].map rowD)] := st
    have d0 : decide ((([a] : List Row).length : Int) < 3) = true := rfl
    have dm : ([a] : List Row).isEmpty = false := rfl
    have d1 : decide ((([a] : List Row).length : Int) = 1) = true := rfl
    simp only [d0, dm, d1, if_true, Bool.false_eq_true, if_false, iteM, sqp, i0, askR, pure_bind, st']
    rfl
  | [a, b], _ =>
    have i0 : ixD (.lst (rowsD [a, b])) (.int 0) = some (.str (rowT a)) := rfl
    have i1 : ixD (.lst (rowsD [a, b])) (.int 1) = some (.str (rowT b)) := rfl
    have st' : starD 0 m_Table_init_e784 [.str (rowT a), .str (rowT b)] = .ok [.tup (rowsD [a, b]), .tup ([a, b].map rowD)] := st
    have d0 : decide ((([a, b] : List Row).length : Int) < 3) = true := rfl
    have dm : ([a, b] : List Row).isEmpty = false := rfl
    have d1 : decide ((([a, b] : List Row).length : Int) = 1) = false := rfl
    simp only [d0, dm, d1, if_true, Bool.false_eq_true, if_false, iteM, sqp, i0, i1, askR, pure_bind, st']
    rfl
  | [a, b, c], _ =>
    have i0 : ixD (.lst (rowsD [a, b, c])) (.int 0) = some (.str (rowT a)) := rfl
    have i1 : ixD (.lst (rowsD [a, b, c])) (.int 1) = some (.str (rowT b)) := rfl
    have i2 : ixD (.lst (rowsD [a, b, c])) (.int 2) = some (.str (rowT c)) := rfl
    have st' : starD 0 m_Table_init_e784 [.str (rowT a), .str (rowT b), .str (rowT c)] = .ok [.tup (rowsD [a, b, c]), .tup ([a, b, c].map rowD)] := st
    have d0 : decide ((([a, b, c] : List Row).length : Int) < 3) = false := rfl
    have d3 : decide ((([a, b, c] : List Row).length : Int) = 3) = true := rfl
    simp only [d0, d3, if_true, Bool.false_eq_true, if_false, iteM, sqp, i0, i1, i2, askR, pure_bind, st']
    rfl
  | [a, b, c, d], _ =>
    have i0 : ixD (.lst (rowsD [a, b, c, d])) (.int 0) = some (.str (rowT a)) := rfl
    have i1 : ixD (.lst (rowsD [a, b, c, d])) (.int 1) = some (.str (rowT b)) := rfl
    have i2 : ixD (.lst (rowsD [a, b, c, d])) (.int 2) = some (.str (rowT c)) := rfl
    have i3 : ixD (.lst (rowsD [a, b, c, d])) (.int 3) = some (.str (rowT d)) := rfl
    have st' : starD 0 m_Table_init_e784 [.str (rowT a), .str (rowT b), .str (rowT c), .str (rowT d)] = .ok [.tup (rowsD [a, b, c, d]), .tup ([a, b, c, d].map rowD)] := st
    have d0 : decide ((([a, b, c, d] : List Row).length : Int) < 3) = false := rfl
    have d3 : decide ((([a, b, c, d] : List Row).length : Int) = 3) = false := rfl
    have d4 : decide ((([a, b, c, d] : List Row).length : Int) = 4) = true := rfl
    simp only [d0, d3, d4, if_true, Bool.false_eq_true, if_false, iteM, sqp, i0, i1, i2, i3, askR, pure_bind, st']
    rfl
  | [a, b, c, d, e], _ =>
    have i0 : ixD (.lst (rowsD [a, b, c, d, e])) (.int 0) = some (.str (rowT a)) := rfl
    have i1 : ixD (.lst (rowsD [a, b, c, d, e])) (.int 1) = some (.str (rowT b)) := rfl
    have i2 : ixD (.lst (rowsD [a, b, c, d, e])) (.int 2) = some (.str (rowT c)) := rfl
    have i3 : ixD (.lst (rowsD [a, b, c, d, e])) (.int 3) = some (.str (rowT d)) := rfl
    have i4 : ixD (.lst (rowsD [a, b, c, d, e])) (.int 4) = some (.str (rowT e)) := rfl
    have st' : starD 0 m_Table_init_e784 [.str (rowT a), .str (rowT b), .str (rowT c), .str (rowT d), .str (rowT e)] = .ok [.tup (rowsD [a, b, c, d, e]), .tup ([a, b, c, d, e].map rowD)] := st
    have d0 : decide ((([a, b, c, d, e] : List Row).length : Int) < 3) = false := rfl
    have d3 : decide ((([a, b, c, d, e] : List Row).length : Int) = 3) = false := rfl
    have d4 : decide ((([a, b, c, d, e] : List Row).length : Int) = 4) = false := rfl
    have d5 : decide ((([a, b, c, d, e] : List Row).length : Int) = 5) = true := rfl
    simp only [d0, d3, d4, d5, if_true, Bool.false_eq_true, if_false, iteM, sqp, i0, i1, i2, i3, i4, askR, pure_bind, st']
    rfl
  | [a, b, c, d, e, f], _ =>
    have i0 : ixD (.lst (rowsD [a, b, c, d, e, f])) (.int 0) = some (.str (rowT a)) := rfl
    have i1 : ixD (.lst (rowsD [a, b, c, d, e, f])) (.int 1) = some (.str (rowT b)) := rfl
    have i2 : ixD (.lst (rowsD [a, b, c, d, e, f])) (.int 2) = some (.str (rowT c)) := rfl
    have i3 : ixD (.lst (rowsD [a, b, c, d, e, f])) (.int 3) = some (.str (rowT d)) := rfl
    have i4 : ixD (.lst (rowsD [a, b, c, d, e, f])) (.int 4) = some (.str (rowT e)) := rfl
    have i5 : ixD (.lst (rowsD [a, b, c, d, e, f])) (.int 5) = some (.str (rowT f)) := rfl
    have st' : starD 0 m_Table_init_e784 [.str (rowT a), .str (rowT b), .str (rowT c), .str (rowT d), .str (rowT e), .str (rowT f)] = .ok [.tup (rowsD [a, b, c, d, e, f]), .tup ([a, b, c, d, e, f].map rowD)] := st
    have d0 : decide ((([a, b, c, d, e, f] : List Row).length : Int) < 3) = false := rfl
    have d3 : decide ((([a, b, c, d, e, f] : List Row).length : Int) = 3) = false := rfl
    have d4 : decide ((([a, b, c, d, e, f] : List Row).length : Int) = 4) = false := rfl
    have d5 : decide ((([a, b, c, d, e, f] : List Row).length : Int) = 5) = false := rfl
    have d6 : decide ((([a, b, c, d, e, f] : List Row).length : Int) = 6) = true := rfl
    simp only [d0, d3, d4, d5, d6, if_true, Bool.false_eq_true, if_false, iteM, sqp, i0, i1, i2, i3, i4, i5, askR, pure_bind, st']
    rfl
  | [a, b, c, d, e, f, g], _ =>
    have i0 : ixD (.lst (rowsD [a, b, c, d, e, f, g])) (.int 0) = some (.str (rowT a)) := rfl
    have i1 : ixD (.lst (rowsD [a, b, c, d, e, f, g])) (.int 1) = some (.str (rowT b)) := rfl
    have i2 : ixD (.lst (rowsD [a, b, c, d, e, f, g])) (.int 2) = some (.str (rowT c)) := rfl
    have i3 : ixD (.lst (rowsD [a, b, c, d, e, f, g])) (.int 3) = some (.str (rowT d)) := rfl
    have i4 : ixD (.lst (rowsD [a, b, c, d, e, f, g])) (.int 4) = some (.str (rowT e)) := rfl
    have i5 : ixD (.lst (rowsD [a, b, c, d, e, f, g])) (.int 5) = some (.str (rowT f)) := rfl
    have i6 : ixD (.lst (rowsD [a, b, c, d, e, f, g])) (.int 6) = some (.str (rowT g)) := rfl
    have st' : starD 0 m_Table_init_e784 [.str (rowT a), .str (rowT b), .str (rowT c), .str (rowT d), .str (rowT e), .str (rowT f), .str (rowT g)] = .ok [.tup (rowsD [a, b, c, d, e, f, g]), .tup ([a, b, c, d, e, f, g].map rowD)] := st
    have d0 : decide ((([a, b, c, d, e, f, g] : List Row).length : Int) < 3) = false := rfl
    have d3 : decide ((([a, b, c, d, e, f, g] : List Row).length : Int) = 3) = false := rfl
    have d4 : decide ((([a, b, c, d, e, f, g] : List Row).length : Int) = 4) = false := rfl
    have d5 : decide ((([a, b, c, d, e, f, g] : List Row).length : Int) = 5) = false := rfl
    have d6 : decide ((([a, b, c, d, e, f, g] : List Row).length : Int) = 6) = false := rfl
    have d7 : decide ((([a, b, c, d, e, f, g] : List Row).length : Int) = 7) = true := rfl
    simp only [d0, d3, d4, d5, d6, d7, if_true, Bool.false_eq_true, if_false, iteM, sqp, i0, i1, i2, i3, i4, i5, i6, askR, pure_bind, st']
    rfl
  | [a, b, c, d, e, f, g, h], _ =>
    have i0 : ixD (.lst (rowsD [a, b, c, d, e, f, g, h])) (.int 0) = some (.str (rowT a)) := rfl
    have i1 : ixD (.lst (rowsD [a, b, c, d, e, f, g, h])) (.int 1) = some (.str (rowT b)) := rfl
    have i2 : ixD (.lst (rowsD [a, b, c, d, e, f, g, h])) (.int 2) = some (.str (rowT c)) := rfl
    have i3 : ixD (.lst (rowsD [a, b, c, d, e, f, g, h])) (.int 3) = some (.str (rowT d)) := rfl
    have i4 : ixD (.lst (rowsD [a, b, c, d, e, f, g, h])) (.int 4) = some (.str (rowT e)) := rfl
    have i5 : ixD (.lst (rowsD [a, b, c, d, e, f, g, h])) (.int 5) = some (.str (rowT f)) := rfl
    have i6 : ixD (.lst (rowsD [a, b, c, d, e, f, g, h])) (.int 6) = some (.str (rowT g)) := rfl
    have i7 : ixD (.lst (rowsD [a, b, c, d, e, f, g, h])) (.int 7) = some (.str (rowT h)) := rfl
    have st' : starD 0 m_Table_init_e784 [.str (rowT a), .str (rowT b), .str (rowT c), .str (rowT d), .str (rowT e), .str (rowT f), .str (rowT g), .str (rowT h)] = .ok [.tup (rowsD [a, b, c, d, e, f, g, h]), .tup ([a, b, c, d, e, f, g, h].map rowD)] := st
    have d0 : decide ((([a, b, c, d, e, f, g, h] : List Row).length : Int) < 3) = false := rfl
    have d3 : decide ((([a, b, c, d, e, f, g, h] : List Row).length : Int) = 3) = false := rfl
    have d4 : decide ((([a, b, c, d, e, f, g, h] : List Row).length : Int) = 4) = false := rfl
    have d5 : decide ((([a, b, c, d, e, f, g, h] : List Row).length : Int) = 5) = false := rfl
    have d6 : decide ((([a, b, c, d, e, f, g, h] : List Row).length : Int) = 6) = false := rfl
    have d7 : decide ((([a, b, c, d, e, f, g, h] : List Row).length : Int) = 7) = false := rfl
    have d8 : decide ((([a, b, c, d, e, f, g, h] : List Row).length : Int) = 8) = true := rfl
    simp only [d0, d3, d4, d5, d6, d7, d8, if_true, Bool.false_eq_true, if_false, iteM, sqp, i0, i1, i2, i3, i4, i5, i6, i7, askR, pure_bind, st']
    rfl
  | _ :: _ :: _ :: _ :: _ :: _ :: _ :: _ :: _ :: _, h => exact absurd h (by simp)
theorem tab_parsed (rows : List Row) : fldD ["Table"] "parsed" (tabD rows) = some (.tup (rows.map rowD)) := rfl
theorem cut_endN {h : Hst} {n : Nat} (hn : n ≤ h.length) : sliceD (hD h) (some ((h.length : Int) - (n : Int))) none = some (hD (h.drop (h.length - n))) := by
  show sliceD (.tup (h.map .str)) _ _ = _
  rw [slice_t, cut_back hn]; rfl
theorem tab_endingX {rows : List Row} {h : Hst} (hr : ∀ r ∈ rows, RowOk r) (k : HkH h) : dispM [("Table", m_Table_ending_9165)] (tabD rows) [hD h] = (do let v23 ← (DL.ask (sliceD (hD h) (some ((h.length : Int) - ((sizeE (foldE rows h) : Nat) : Int))) none)); pure v23 : R D) := by
  have eo := ending_ok (rows := rows) (h := h) (pd := .tup (rows.map rowD)) rfl hr k.1
  have eo' : m_ending_size_5148 [.tup (rows.map rowD), hD h] = .ok (.int ((sizeE (foldE rows h) : Nat) : Int)) := eo
  show m_Table_ending_9165 [tabD rows, hD h] = _
  unfold m_Table_ending_9165 apR2
  simp only [e_Table_ending_9165, host_true k, lift_pR, okpR, pure_bind, tru_bl, askR, DL.notM, Bool.not_true, Bool.false_eq_true, if_false, sqp, tab_parsed, eo', lenH, sub_ii, int_of]
  cases sliceD (hD h) (some ((h.length : Int) - ((sizeE (foldE rows h) : Nat) : Int))) none <;> rfl
theorem tab_siteX {rows : List Row} {h : Hst} (hr : ∀ r ∈ rows, RowOk r) (k : HkH h) : dispM [("Table", m_Table_site_ff2c)] (tabD rows) [hD h] = .ok (hD (siteN rows h)) := by
  have so := site_by_ok (rows := rows) (h := h) (pd := .tup (rows.map rowD)) rfl hr k.1
  have so' : m_site_by_dd2e [.tup (rows.map rowD), hD h] = .ok (hD (siteN rows h)) := so
  show m_Table_site_ff2c [tabD rows, hD h] = _
  unfold m_Table_site_ff2c apR2
  simp only [e_Table_site_ff2c, host_true k, lift_pR, okpR, pure_bind, tru_bl, askR, DL.notM, Bool.not_true, Bool.false_eq_true, if_false, sqp, tab_parsed, so']
  rfl
theorem tab_one_siteX {rows : List Row} {h g : Hst} (hr : ∀ r ∈ rows, RowOk r) (k : HkH h) (k2 : HkH g) : dispM [("Table", m_Table_one_site_ffed)] (tabD rows) [hD h, hD g] = .ok (.bl (decide (siteN rows h = siteN rows g))) := by
  have io : insOk ["Table"] "site" (tabD rows) = some () := rfl
  have e : eqD (hD (siteN rows h)) (hD (siteN rows g)) = some (.bl (decide (siteN rows h = siteN rows g))) := eqT (labs_drop _ k.1) (labs_drop _ k2.1)
  show m_Table_one_site_ffed [tabD rows, hD h, hD g] = _
  unfold m_Table_one_site_ffed apR3
  simp only [e_Table_one_site_ffed, io, tab_siteX hr k, tab_siteX hr k2, lift_pR, okpR, pure_bind, askR, e]
  rfl
end FN
namespace FN
open DL
def k__law_matching_5140_0 (c5 : D) (a1 : D) (v6 : D) (q37 : List D) : R (Fl (List D) (List D)) := (do let t53 ← (DL.andM (do let x42 ← (do let x40 ← (pure c5); let y41 ← (pure (.int 0)); DL.ask (ixD x40 y41)); let y43 ← (pure (.str [42])); DL.ask ((neD x42 y43).bind bOf)) (do let x49 ← (do let r48 ← (do let x46 ← (pure a1); let r47 ← (do let x44 ← (pure v6); let r45 ← pure []; pure (x44 :: r45)); pure (x46 :: r47)); Mo.lift (m__law_ends_f9cd r48)); DL.ask (truD x49))); seqF (if t53 = true then (do let v51 ← (pure c5); let v52 ← DL.ask (apd q37 v51); (pure (.nx v52))) else (pure (.nx q37))) fun (q50 : List D) => (pure (.nx q50)))
theorem l__law_matching_5140_0 (c5 : D) (a1 : D) (v6 : D) (q37 : List D) : k__law_matching_5140_0 c5 a1 v6 q37 = (do let t53 ← (DL.andM (do let x42 ← (do let x40 ← (pure c5); let y41 ← (pure (.int 0)); DL.ask (ixD x40 y41)); let y43 ← (pure (.str [42])); DL.ask ((neD x42 y43).bind bOf)) (do let x49 ← (do let r48 ← (do let x46 ← (pure a1); let r47 ← (do let x44 ← (pure v6); let r45 ← pure []; pure (x44 :: r45)); pure (x46 :: r47)); Mo.lift (m__law_ends_f9cd r48)); DL.ask (truD x49))); seqF (if t53 = true then (do let v51 ← (pure c5); let v52 ← DL.ask (apd q37 v51); (pure (.nx v52))) else (pure (.nx q37))) fun (q50 : List D) => (pure (.nx q50))) := rfl
def k__law_matching_5140_1 (c5 : D) (a1 : D) (v6 : D) (q4 : List D) : R (Fl (List D) (List D)) := (do let t54 ← (DL.andM (do let x16 ← (do let x14 ← (pure c5); let y15 ← (pure (.int 0)); DL.ask (ixD x14 y15)); let y17 ← (pure (.str [42])); DL.ask ((eqD x16 y17).bind bOf)) (DL.andM (do let x24 ← (do let r20 ← (do let x18 ← (pure a1); let r19 ← pure []; pure (x18 :: r19)); DL.ask (lenD r20)); let y25 ← (do let r23 ← (do let x21 ← (pure v6); let r22 ← pure []; pure (x21 :: r22)); DL.ask (lenD r23)); DL.ask ((geD x24 y25).bind bOf)) (do let x36 ← (do let r35 ← (do let x33 ← (pure a1); let r34 ← (do let x31 ← (do let x28 ← (pure v6); let l29 ← (do let x26 ← (pure (.int 1)); let i27 ← DL.ask (intOf x26); pure (some i27)); let u30 ← (pure none); DL.ask (sliceD x28 l29 u30)); let r32 ← pure []; pure (x31 :: r32)); pure (x33 :: r34)); Mo.lift (m__law_ends_f9cd r35)); DL.ask (truD x36)))); seqF (if t54 = true then (do let v38 ← (pure c5); let v39 ← DL.ask (apd q4 v38); (pure (.nx v39))) else (pure (.nx q4))) fun (q37 : List D) => (k__law_matching_5140_0 c5 a1 v6 q37))
theorem l__law_matching_5140_1 (c5 : D) (a1 : D) (v6 : D) (q4 : List D) : k__law_matching_5140_1 c5 a1 v6 q4 = (do let t54 ← (DL.andM (do let x16 ← (do let x14 ← (pure c5); let y15 ← (pure (.int 0)); DL.ask (ixD x14 y15)); let y17 ← (pure (.str [42])); DL.ask ((eqD x16 y17).bind bOf)) (DL.andM (do let x24 ← (do let r20 ← (do let x18 ← (pure a1); let r19 ← pure []; pure (x18 :: r19)); DL.ask (lenD r20)); let y25 ← (do let r23 ← (do let x21 ← (pure v6); let r22 ← pure []; pure (x21 :: r22)); DL.ask (lenD r23)); DL.ask ((geD x24 y25).bind bOf)) (do let x36 ← (do let r35 ← (do let x33 ← (pure a1); let r34 ← (do let x31 ← (do let x28 ← (pure v6); let l29 ← (do let x26 ← (pure (.int 1)); let i27 ← DL.ask (intOf x26); pure (some i27)); let u30 ← (pure none); DL.ask (sliceD x28 l29 u30)); let r32 ← pure []; pure (x31 :: r32)); pure (x33 :: r34)); Mo.lift (m__law_ends_f9cd r35)); DL.ask (truD x36)))); seqF (if t54 = true then (do let v38 ← (pure c5); let v39 ← DL.ask (apd q4 v38); (pure (.nx v39))) else (pure (.nx q4))) fun (q37 : List D) => (k__law_matching_5140_0 c5 a1 v6 q37)) := rfl
def k__law_matching_5140_2 (a0 : D) (a1 : D) (v1 : List D) : R (Fl (Unit) (Empty)) := (do let r57 ← (do let r3 ← (pure a0); DL.ask (itD r3)); seqF (forF (fun d => some d) (fun (q4 : List D) (c5 : D) => (do let v6 ← (do let r13 ← (do let x11 ← (mkL (do let x9 ← (do let x7 ← (pure c5); let _ ← DL.ask (strOf x7); let y8 ← (pure (.str [33])); DL.ask (lstripD x7 y8)); let _ ← DL.ask (strOf x9); let y10 ← (pure (.str [46])); DL.ask (splitD x9 y10))); let r12 ← pure []; pure (x11 :: r12)); DL.ask (tupleD r13)); (k__law_matching_5140_1 c5 a1 v6 q4))) r57 v1) fun (q55 : List D) => (do let v56 ← (pure (.lst q55)); pure (.rt v56)))
theorem l__law_matching_5140_2 (a0 : D) (a1 : D) (v1 : List D) : k__law_matching_5140_2 a0 a1 v1 = (do let r57 ← (do let r3 ← (pure a0); DL.ask (itD r3)); seqF (forF (fun d => some d) (fun (q4 : List D) (c5 : D) => (do let v6 ← (do let r13 ← (do let x11 ← (mkL (do let x9 ← (do let x7 ← (pure c5); let _ ← DL.ask (strOf x7); let y8 ← (pure (.str [33])); DL.ask (lstripD x7 y8)); let _ ← DL.ask (strOf x9); let y10 ← (pure (.str [46])); DL.ask (splitD x9 y10))); let r12 ← pure []; pure (x11 :: r12)); DL.ask (tupleD r13)); (k__law_matching_5140_1 c5 a1 v6 q4))) r57 v1) fun (q55 : List D) => (do let v56 ← (pure (.lst q55)); pure (.rt v56))) := rfl
def b__law_matching_5140 (a0 a1 : D) : R (Fl Unit Empty) := (do let v1 ← (do let r2 ← pure []; DL.ask (szL r2)); (k__law_matching_5140_2 a0 a1 v1))
theorem e__law_matching_5140 (a0 a1 : D) : b__law_matching_5140 a0 a1 = (do let v1 ← (DL.ask (szL [])); let r57 ← (DL.ask (itD a0)); seqF (forF (fun d => some d) (fun (q4 : List D) (c5 : D) => (do let _ ← DL.ask (strOf c5); let x9 ← (DL.ask (lstripD c5 (.str [33]))); let _ ← DL.ask (strOf x9); let x11 ← (DL.ask (splitD x9 (.str [46]))); let v6 ← (DL.ask (tupleD [(.lst x11)])); let t54 ← (DL.andM (do let x16 ← (DL.ask (ixD c5 (.int 0))); DL.ask ((eqD x16 (.str [42])).bind bOf)) (DL.andM (do let x24 ← (DL.ask (lenD [a1])); let y25 ← (DL.ask (lenD [v6])); DL.ask ((geD x24 y25).bind bOf)) (do let i27 ← DL.ask (intOf (.int 1)); let x31 ← (DL.ask (sliceD v6 (some i27) none)); let x36 ← (Mo.lift (m__law_ends_f9cd [a1, x31])); DL.ask (truD x36)))); seqF (if t54 = true then (do let v39 ← DL.ask (apd q4 c5); (pure (.nx v39))) else (pure (.nx q4))) fun (q37 : List D) => (do let t53 ← (DL.andM (do let x42 ← (DL.ask (ixD c5 (.int 0))); DL.ask ((neD x42 (.str [42])).bind bOf)) (do let x49 ← (Mo.lift (m__law_ends_f9cd [a1, v6])); DL.ask (truD x49))); seqF (if t53 = true then (do let v52 ← DL.ask (apd q37 c5); (pure (.nx v52))) else (pure (.nx q37))) fun (q50 : List D) => (pure (.nx q50))))) r57 v1) fun (q55 : List D) => (pure (.rt (.lst q55)))) := by
  unfold b__law_matching_5140; simp only [l__law_matching_5140_0, l__law_matching_5140_1, l__law_matching_5140_2, pure_bind, bind_assoc, mkL]
def m__law_matching_5140 : List D → R D := apR2 fun a0 a1 => (runR false (b__law_matching_5140 a0 a1))
theorem n__law_matching_5140 : ∀ ds : List D, m__law_matching_5140 ds ≠ .stuck → ds.length = 2 := apR2_len _
def k__law_right_0e22_0 (v102 : D) (a2 : D) (v1 : D) : R (Fl (Unit) (Empty)) := (do let v131 ← (andV (do let x115 ← (do let x113 ← (pure v102); let _ ← DL.ask (insOk ["Table"] "ending" x113); let r114 ← (do let x111 ← (pure a2); let r112 ← pure []; pure (x111 :: r112)); Mo.lift (dispM [("Table", m_Table_ending_9165)] x113 r114)); let y116 ← (pure v1); DL.ask (eqO [("Table", m_Table_eq_abda)] x115 y116)) (do let x129 ← (do let x121 ← (do let r117 ← pure []; let o118 ← Mo.lift (starD 0 m_Table_init_e784 r117); pure (D.ins "Table" ["rows", "parsed"] o118)); let _ ← DL.ask (insOk ["Table"] "ending" x121); let r122 ← (do let x119 ← (pure a2); let r120 ← pure []; pure (x119 :: r120)); Mo.lift (dispM [("Table", m_Table_ending_9165)] x121 r122)); let y130 ← (do let x126 ← (pure a2); let l127 ← (do let x124 ← (do let x123 ← (pure (.int 1)); DL.ask (negD x123)); let i125 ← DL.ask (intOf x124); pure (some i125)); let u128 ← (pure none); DL.ask (sliceD x126 l127 u128)); DL.ask (eqD x129 y130))); pure (.rt v131))
theorem l__law_right_0e22_0 (v102 : D) (a2 : D) (v1 : D) : k__law_right_0e22_0 v102 a2 v1 = (do let v131 ← (andV (do let x115 ← (do let x113 ← (pure v102); let _ ← DL.ask (insOk ["Table"] "ending" x113); let r114 ← (do let x111 ← (pure a2); let r112 ← pure []; pure (x111 :: r112)); Mo.lift (dispM [("Table", m_Table_ending_9165)] x113 r114)); let y116 ← (pure v1); DL.ask (eqO [("Table", m_Table_eq_abda)] x115 y116)) (do let x129 ← (do let x121 ← (do let r117 ← pure []; let o118 ← Mo.lift (starD 0 m_Table_init_e784 r117); pure (D.ins "Table" ["rows", "parsed"] o118)); let _ ← DL.ask (insOk ["Table"] "ending" x121); let r122 ← (do let x119 ← (pure a2); let r120 ← pure []; pure (x119 :: r120)); Mo.lift (dispM [("Table", m_Table_ending_9165)] x121 r122)); let y130 ← (do let x126 ← (pure a2); let l127 ← (do let x124 ← (do let x123 ← (pure (.int 1)); DL.ask (negD x123)); let i125 ← DL.ask (intOf x124); pure (some i125)); let u128 ← (pure none); DL.ask (sliceD x126 l127 u128)); DL.ask (eqD x129 y130))); pure (.rt v131)) := rfl
def k__law_right_0e22_1 (a2 : D) (a0 : D) (a3 : D) (v2 : D) (a1 : D) (v1 : D) : R (Fl (Unit) (Empty)) := (do let t132 ← (DL.andM (do let x86 ← (do let r85 ← (do let x83 ← (pure a2); let r84 ← pure []; pure (x83 :: r84)); DL.ask (lenD r85)); let y87 ← (pure (.int 3)); DL.ask ((gtD x86 y87).bind bOf)) (do let x98 ← (do let x96 ← (pure a0); let _ ← DL.ask (insOk ["Table"] "site" x96); let r97 ← (do let x94 ← (do let x92 ← (do let r90 ← (do let x88 ← (pure a3); let r89 ← pure []; pure (x88 :: r89)); let r91 ← DL.ask (szL r90); pure (.tup r91)); let y93 ← (pure a2); DL.ask (addD x92 y93)); let r95 ← pure []; pure (x94 :: r95)); Mo.lift (dispM [("Table", m_Table_site_ff2c)] x96 r97)); let y99 ← (pure v2); DL.ask ((neO [("Table", m_Table_eq_abda)] x98 y99).bind bOf))); seqF (if t132 = true then (do let v101 ← (pure (.bl false)); pure (.rt v101)) else (pure (.nx ()))) fun (q100 : Unit) => (do let v102 ← (do let r110 ← (do let x108 ← (do let r107 ← (do let x105 ← (pure a1); let r106 ← (do let x103 ← (pure a2); let r104 ← pure []; pure (x103 :: r104)); pure (x105 :: r106)); Mo.lift (m__law_matching_5140 r107)); let r109 ← pure []; pure (x108 :: r109)); Mo.lift (m__law_table_9456 r110)); (k__law_right_0e22_0 v102 a2 v1)))
theorem l__law_right_0e22_1 (a2 : D) (a0 : D) (a3 : D) (v2 : D) (a1 : D) (v1 : D) : k__law_right_0e22_1 a2 a0 a3 v2 a1 v1 = (do let t132 ← (DL.andM (do let x86 ← (do let r85 ← (do let x83 ← (pure a2); let r84 ← pure []; pure (x83 :: r84)); DL.ask (lenD r85)); let y87 ← (pure (.int 3)); DL.ask ((gtD x86 y87).bind bOf)) (do let x98 ← (do let x96 ← (pure a0); let _ ← DL.ask (insOk ["Table"] "site" x96); let r97 ← (do let x94 ← (do let x92 ← (do let r90 ← (do let x88 ← (pure a3); let r89 ← pure []; pure (x88 :: r89)); let r91 ← DL.ask (szL r90); pure (.tup r91)); let y93 ← (pure a2); DL.ask (addD x92 y93)); let r95 ← pure []; pure (x94 :: r95)); Mo.lift (dispM [("Table", m_Table_site_ff2c)] x96 r97)); let y99 ← (pure v2); DL.ask ((neO [("Table", m_Table_eq_abda)] x98 y99).bind bOf))); seqF (if t132 = true then (do let v101 ← (pure (.bl false)); pure (.rt v101)) else (pure (.nx ()))) fun (q100 : Unit) => (do let v102 ← (do let r110 ← (do let x108 ← (do let r107 ← (do let x105 ← (pure a1); let r106 ← (do let x103 ← (pure a2); let r104 ← pure []; pure (x103 :: r104)); pure (x105 :: r106)); Mo.lift (m__law_matching_5140 r107)); let r109 ← pure []; pure (x108 :: r109)); Mo.lift (m__law_table_9456 r110)); (k__law_right_0e22_0 v102 a2 v1))) := rfl
def k__law_right_0e22_2 (a0 : D) (v2 : D) (a2 : D) (a3 : D) (a1 : D) (v1 : D) : R (Fl (Unit) (Empty)) := (do let t133 ← (DL.orM (do let x59 ← (do let x57 ← (pure a0); let _ ← DL.ask (insOk ["Table"] "site" x57); let r58 ← (do let x55 ← (pure v2); let r56 ← pure []; pure (x55 :: r56)); Mo.lift (dispM [("Table", m_Table_site_ff2c)] x57 r58)); let y60 ← (pure v2); DL.ask ((neO [("Table", m_Table_eq_abda)] x59 y60).bind bOf)) (DL.orM (do let x67 ← (do let x65 ← (pure a0); let _ ← DL.ask (insOk ["Table"] "one_site" x65); let r66 ← (do let x63 ← (pure a2); let r64 ← (do let x61 ← (pure v2); let r62 ← pure []; pure (x61 :: r62)); pure (x63 :: r64)); Mo.lift (dispM [("Table", m_Table_one_site_ffed)] x65 r66)); let y68 ← (pure (.bl true)); DL.ask ((isNotD x67 y68).bind bOf)) (do let x79 ← (do let x77 ← (pure a0); let _ ← DL.ask (insOk ["Table"] "site" x77); let r78 ← (do let x75 ← (do let x72 ← (pure a2); let l73 ← (do let x70 ← (do let x69 ← (pure (.int 4)); DL.ask (negD x69)); let i71 ← DL.ask (intOf x70); pure (some i71)); let u74 ← (pure none); DL.ask (sliceD x72 l73 u74)); let r76 ← pure []; pure (x75 :: r76)); Mo.lift (dispM [("Table", m_Table_site_ff2c)] x77 r78)); let y80 ← (pure v2); DL.ask ((neO [("Table", m_Table_eq_abda)] x79 y80).bind bOf)))); seqF (if t133 = true then (do let v82 ← (pure (.bl false)); pure (.rt v82)) else (pure (.nx ()))) fun (q81 : Unit) => (k__law_right_0e22_1 a2 a0 a3 v2 a1 v1))
theorem l__law_right_0e22_2 (a0 : D) (v2 : D) (a2 : D) (a3 : D) (a1 : D) (v1 : D) : k__law_right_0e22_2 a0 v2 a2 a3 a1 v1 = (do let t133 ← (DL.orM (do let x59 ← (do let x57 ← (pure a0); let _ ← DL.ask (insOk ["Table"] "site" x57); let r58 ← (do let x55 ← (pure v2); let r56 ← pure []; pure (x55 :: r56)); Mo.lift (dispM [("Table", m_Table_site_ff2c)] x57 r58)); let y60 ← (pure v2); DL.ask ((neO [("Table", m_Table_eq_abda)] x59 y60).bind bOf)) (DL.orM (do let x67 ← (do let x65 ← (pure a0); let _ ← DL.ask (insOk ["Table"] "one_site" x65); let r66 ← (do let x63 ← (pure a2); let r64 ← (do let x61 ← (pure v2); let r62 ← pure []; pure (x61 :: r62)); pure (x63 :: r64)); Mo.lift (dispM [("Table", m_Table_one_site_ffed)] x65 r66)); let y68 ← (pure (.bl true)); DL.ask ((isNotD x67 y68).bind bOf)) (do let x79 ← (do let x77 ← (pure a0); let _ ← DL.ask (insOk ["Table"] "site" x77); let r78 ← (do let x75 ← (do let x72 ← (pure a2); let l73 ← (do let x70 ← (do let x69 ← (pure (.int 4)); DL.ask (negD x69)); let i71 ← DL.ask (intOf x70); pure (some i71)); let u74 ← (pure none); DL.ask (sliceD x72 l73 u74)); let r76 ← pure []; pure (x75 :: r76)); Mo.lift (dispM [("Table", m_Table_site_ff2c)] x77 r78)); let y80 ← (pure v2); DL.ask ((neO [("Table", m_Table_eq_abda)] x79 y80).bind bOf)))); seqF (if t133 = true then (do let v82 ← (pure (.bl false)); pure (.rt v82)) else (pure (.nx ()))) fun (q81 : Unit) => (k__law_right_0e22_1 a2 a0 a3 v2 a1 v1)) := rfl
def k__law_right_0e22_3 (v2 : D) (a2 : D) (v1 : D) (a0 : D) (a3 : D) (a1 : D) : R (Fl (Unit) (Empty)) := (do let t134 ← (do let x51 ← (do let r37 ← (do let x35 ← (pure v2); let r36 ← pure []; pure (x35 :: r36)); DL.ask (lenO [("Table", m_Table_len_13ee)] r37)); let y52 ← (do let r50 ← (do let x48 ← (do let r40 ← (do let x38 ← (pure a2); let r39 ← pure []; pure (x38 :: r39)); DL.ask (lenD r40)); let r49 ← (do let x46 ← (do let x44 ← (do let r43 ← (do let x41 ← (pure v1); let r42 ← pure []; pure (x41 :: r42)); DL.ask (lenO [("Table", m_Table_len_13ee)] r43)); let y45 ← (pure (.int 1)); DL.ask (addD x44 y45)); let r47 ← pure []; pure (x46 :: r47)); pure (x48 :: r49)); DL.ask (minD r50)); DL.ask ((neD x51 y52).bind bOf)); seqF (if t134 = true then (do let v54 ← (pure (.bl false)); pure (.rt v54)) else (pure (.nx ()))) fun (q53 : Unit) => (k__law_right_0e22_2 a0 v2 a2 a3 a1 v1))
theorem l__law_right_0e22_3 (v2 : D) (a2 : D) (v1 : D) (a0 : D) (a3 : D) (a1 : D) : k__law_right_0e22_3 v2 a2 v1 a0 a3 a1 = (do let t134 ← (do let x51 ← (do let r37 ← (do let x35 ← (pure v2); let r36 ← pure []; pure (x35 :: r36)); DL.ask (lenO [("Table", m_Table_len_13ee)] r37)); let y52 ← (do let r50 ← (do let x48 ← (do let r40 ← (do let x38 ← (pure a2); let r39 ← pure []; pure (x38 :: r39)); DL.ask (lenD r40)); let r49 ← (do let x46 ← (do let x44 ← (do let r43 ← (do let x41 ← (pure v1); let r42 ← pure []; pure (x41 :: r42)); DL.ask (lenO [("Table", m_Table_len_13ee)] r43)); let y45 ← (pure (.int 1)); DL.ask (addD x44 y45)); let r47 ← pure []; pure (x46 :: r47)); pure (x48 :: r49)); DL.ask (minD r50)); DL.ask ((neD x51 y52).bind bOf)); seqF (if t134 = true then (do let v54 ← (pure (.bl false)); pure (.rt v54)) else (pure (.nx ()))) fun (q53 : Unit) => (k__law_right_0e22_2 a0 v2 a2 a3 a1 v1)) := rfl
def k__law_right_0e22_4 (v1 : D) (a2 : D) (v2 : D) (a0 : D) (a3 : D) (a1 : D) : R (Fl (Unit) (Empty)) := (do let t135 ← (DL.orM (do let x19 ← (pure v1); let y20 ← (do let r17 ← pure []; let r18 ← DL.ask (szL r17); pure (.tup r18)); DL.ask ((eqO [("Table", m_Table_eq_abda)] x19 y20).bind bOf)) (DL.orM (DL.notM (do let x26 ← (do let r25 ← (do let x23 ← (pure a2); let r24 ← (do let x21 ← (pure v2); let r22 ← pure []; pure (x21 :: r22)); pure (x23 :: r24)); Mo.lift (m__law_ends_f9cd r25)); DL.ask (truD x26))) (DL.notM (do let x32 ← (do let r31 ← (do let x29 ← (pure v2); let r30 ← (do let x27 ← (pure v1); let r28 ← pure []; pure (x27 :: r28)); pure (x29 :: r30)); Mo.lift (m__law_ends_f9cd r31)); DL.ask (truD x32))))); seqF (if t135 = true then (do let v34 ← (pure (.bl false)); pure (.rt v34)) else (pure (.nx ()))) fun (q33 : Unit) => (k__law_right_0e22_3 v2 a2 v1 a0 a3 a1))
theorem l__law_right_0e22_4 (v1 : D) (a2 : D) (v2 : D) (a0 : D) (a3 : D) (a1 : D) : k__law_right_0e22_4 v1 a2 v2 a0 a3 a1 = (do let t135 ← (DL.orM (do let x19 ← (pure v1); let y20 ← (do let r17 ← pure []; let r18 ← DL.ask (szL r17); pure (.tup r18)); DL.ask ((eqO [("Table", m_Table_eq_abda)] x19 y20).bind bOf)) (DL.orM (DL.notM (do let x26 ← (do let r25 ← (do let x23 ← (pure a2); let r24 ← (do let x21 ← (pure v2); let r22 ← pure []; pure (x21 :: r22)); pure (x23 :: r24)); Mo.lift (m__law_ends_f9cd r25)); DL.ask (truD x26))) (DL.notM (do let x32 ← (do let r31 ← (do let x29 ← (pure v2); let r30 ← (do let x27 ← (pure v1); let r28 ← pure []; pure (x27 :: r28)); pure (x29 :: r30)); Mo.lift (m__law_ends_f9cd r31)); DL.ask (truD x32))))); seqF (if t135 = true then (do let v34 ← (pure (.bl false)); pure (.rt v34)) else (pure (.nx ()))) fun (q33 : Unit) => (k__law_right_0e22_3 v2 a2 v1 a0 a3 a1)) := rfl
def k__law_right_0e22_5 (v1 : D) (v2 : D) (a2 : D) (a0 : D) (a3 : D) (a1 : D) : R (Fl (Unit) (Empty)) := (do let t136 ← (DL.orM (DL.notM (do let x12 ← (do let x11 ← (pure v1); DL.ask (isiD "tuple" x11)); DL.ask (truD x12))) (DL.notM (do let x14 ← (do let x13 ← (pure v2); DL.ask (isiD "tuple" x13)); DL.ask (truD x14)))); seqF (if t136 = true then (do let v16 ← (pure (.bl false)); pure (.rt v16)) else (pure (.nx ()))) fun (q15 : Unit) => (k__law_right_0e22_4 v1 a2 v2 a0 a3 a1))
theorem l__law_right_0e22_5 (v1 : D) (v2 : D) (a2 : D) (a0 : D) (a3 : D) (a1 : D) : k__law_right_0e22_5 v1 v2 a2 a0 a3 a1 = (do let t136 ← (DL.orM (DL.notM (do let x12 ← (do let x11 ← (pure v1); DL.ask (isiD "tuple" x11)); DL.ask (truD x12))) (DL.notM (do let x14 ← (do let x13 ← (pure v2); DL.ask (isiD "tuple" x13)); DL.ask (truD x14)))); seqF (if t136 = true then (do let v16 ← (pure (.bl false)); pure (.rt v16)) else (pure (.nx ()))) fun (q15 : Unit) => (k__law_right_0e22_4 v1 a2 v2 a0 a3 a1)) := rfl
def k__law_right_0e22_6 (a0 : D) (a2 : D) (a3 : D) (a1 : D) : R (Fl (Unit) (Empty)) := (do let v1 ← (do let x5 ← (pure a0); let _ ← DL.ask (insOk ["Table"] "ending" x5); let r6 ← (do let x3 ← (pure a2); let r4 ← pure []; pure (x3 :: r4)); Mo.lift (dispM [("Table", m_Table_ending_9165)] x5 r6)); let v2 ← (do let x9 ← (pure a0); let _ ← DL.ask (insOk ["Table"] "site" x9); let r10 ← (do let x7 ← (pure a2); let r8 ← pure []; pure (x7 :: r8)); Mo.lift (dispM [("Table", m_Table_site_ff2c)] x9 r10)); (k__law_right_0e22_5 v1 v2 a2 a0 a3 a1))
theorem l__law_right_0e22_6 (a0 : D) (a2 : D) (a3 : D) (a1 : D) : k__law_right_0e22_6 a0 a2 a3 a1 = (do let v1 ← (do let x5 ← (pure a0); let _ ← DL.ask (insOk ["Table"] "ending" x5); let r6 ← (do let x3 ← (pure a2); let r4 ← pure []; pure (x3 :: r4)); Mo.lift (dispM [("Table", m_Table_ending_9165)] x5 r6)); let v2 ← (do let x9 ← (pure a0); let _ ← DL.ask (insOk ["Table"] "site" x9); let r10 ← (do let x7 ← (pure a2); let r8 ← pure []; pure (x7 :: r8)); Mo.lift (dispM [("Table", m_Table_site_ff2c)] x9 r10)); (k__law_right_0e22_5 v1 v2 a2 a0 a3 a1)) := rfl
def b__law_right_0e22 (a0 a1 a2 a3 : D) : R (Fl Unit Empty) := (k__law_right_0e22_6 a0 a2 a3 a1)
theorem e__law_right_0e22 (a0 a1 a2 a3 : D) : b__law_right_0e22 a0 a1 a2 a3 = (do let _ ← DL.ask (insOk ["Table"] "ending" a0); let v1 ← (Mo.lift (dispM [("Table", m_Table_ending_9165)] a0 [a2])); let _ ← DL.ask (insOk ["Table"] "site" a0); let v2 ← (Mo.lift (dispM [("Table", m_Table_site_ff2c)] a0 [a2])); let t136 ← (DL.orM (DL.notM (do let x12 ← (DL.ask (isiD "tuple" v1)); DL.ask (truD x12))) (DL.notM (do let x14 ← (DL.ask (isiD "tuple" v2)); DL.ask (truD x14)))); seqF (if t136 = true then (pure (.rt (.bl false))) else (pure (.nx ()))) fun (q15 : Unit) => (do let t135 ← (DL.orM (do let r18 ← DL.ask (szL []); DL.ask ((eqO [("Table", m_Table_eq_abda)] v1 (.tup r18)).bind bOf)) (DL.orM (DL.notM (do let x26 ← (Mo.lift (m__law_ends_f9cd [a2, v2])); DL.ask (truD x26))) (DL.notM (do let x32 ← (Mo.lift (m__law_ends_f9cd [v2, v1])); DL.ask (truD x32))))); seqF (if t135 = true then (pure (.rt (.bl false))) else (pure (.nx ()))) fun (q33 : Unit) => (do let x51 ← (DL.ask (lenO [("Table", m_Table_len_13ee)] [v2])); let x48 ← (DL.ask (lenD [a2])); let x44 ← (DL.ask (lenO [("Table", m_Table_len_13ee)] [v1])); let x46 ← (DL.ask (addD x44 (.int 1))); let y52 ← (DL.ask (minD [x48, x46])); let t134 ← (DL.ask ((neD x51 y52).bind bOf)); seqF (if t134 = true then (pure (.rt (.bl false))) else (pure (.nx ()))) fun (q53 : Unit) => (do let t133 ← (DL.orM (do let _ ← DL.ask (insOk ["Table"] "site" a0); let x59 ← (Mo.lift (dispM [("Table", m_Table_site_ff2c)] a0 [v2])); DL.ask ((neO [("Table", m_Table_eq_abda)] x59 v2).bind bOf)) (DL.orM (do let _ ← DL.ask (insOk ["Table"] "one_site" a0); let x67 ← (Mo.lift (dispM [("Table", m_Table_one_site_ffed)] a0 [a2, v2])); DL.ask ((isNotD x67 (.bl true)).bind bOf)) (do let _ ← DL.ask (insOk ["Table"] "site" a0); let x70 ← (DL.ask (negD (.int 4))); let i71 ← DL.ask (intOf x70); let x75 ← (DL.ask (sliceD a2 (some i71) none)); let x79 ← (Mo.lift (dispM [("Table", m_Table_site_ff2c)] a0 [x75])); DL.ask ((neO [("Table", m_Table_eq_abda)] x79 v2).bind bOf)))); seqF (if t133 = true then (pure (.rt (.bl false))) else (pure (.nx ()))) fun (q81 : Unit) => (do let t132 ← (DL.andM (do let x86 ← (DL.ask (lenD [a2])); DL.ask ((gtD x86 (.int 3)).bind bOf)) (do let _ ← DL.ask (insOk ["Table"] "site" a0); let r91 ← DL.ask (szL [a3]); let x94 ← (DL.ask (addD (.tup r91) a2)); let x98 ← (Mo.lift (dispM [("Table", m_Table_site_ff2c)] a0 [x94])); DL.ask ((neO [("Table", m_Table_eq_abda)] x98 v2).bind bOf))); seqF (if t132 = true then (pure (.rt (.bl false))) else (pure (.nx ()))) fun (q100 : Unit) => (do let x108 ← (Mo.lift (m__law_matching_5140 [a1, a2])); let v102 ← (Mo.lift (m__law_table_9456 [x108])); let v131 ← (andV (do let _ ← DL.ask (insOk ["Table"] "ending" v102); let x115 ← (Mo.lift (dispM [("Table", m_Table_ending_9165)] v102 [a2])); DL.ask (eqO [("Table", m_Table_eq_abda)] x115 v1)) (do let o118 ← Mo.lift (starD 0 m_Table_init_e784 []); let _ ← DL.ask (insOk ["Table"] "ending" (D.ins "Table" ["rows", "parsed"] o118)); let x129 ← (Mo.lift (dispM [("Table", m_Table_ending_9165)] (D.ins "Table" ["rows", "parsed"] o118) [a2])); let x124 ← (DL.ask (negD (.int 1))); let i125 ← DL.ask (intOf x124); let y130 ← (DL.ask (sliceD a2 (some i125) none)); DL.ask (eqD x129 y130))); pure (.rt v131))))))) := by
  unfold b__law_right_0e22; simp only [l__law_right_0e22_0, l__law_right_0e22_1, l__law_right_0e22_2, l__law_right_0e22_3, l__law_right_0e22_4, l__law_right_0e22_5, l__law_right_0e22_6, pure_bind, bind_assoc, mkL]
def m__law_right_0e22 : List D → R D := apR4 fun a0 a1 a2 a3 => (runR false (b__law_right_0e22 a0 a1 a2 a3))
theorem n__law_right_0e22 : ∀ ds : List D, m__law_right_0e22 ds ≠ .stuck → ds.length = 4 := apR4_len _
def k_law_8aba_0 (v15 : D) (v9 : D) (v24 : D) (v25 : D) : M (Fl (Unit) (Unit)) := (do let t46 ← (DL.notM (do let x43 ← (do let r42 ← (do let x40 ← (pure v15); let r41 ← (do let x38 ← (pure v9); let r39 ← (do let x36 ← (pure v24); let r37 ← (do let x34 ← (pure v25); let r35 ← pure []; pure (x34 :: r35)); pure (x36 :: r37)); pure (x38 :: r39)); pure (x40 :: r41)); Mo.lift (m__law_right_0e22 r42)); DL.ask (truD x43))); seqF (if t46 = true then (do let v45 ← (pure (.bl false)); pure (.rt v45)) else (pure (.nx ()))) fun (q44 : Unit) => (pure (.nx ())))
theorem l_law_8aba_0 (v15 : D) (v9 : D) (v24 : D) (v25 : D) : k_law_8aba_0 v15 v9 v24 v25 = (do let t46 ← (DL.notM (do let x43 ← (do let r42 ← (do let x40 ← (pure v15); let r41 ← (do let x38 ← (pure v9); let r39 ← (do let x36 ← (pure v24); let r37 ← (do let x34 ← (pure v25); let r35 ← pure []; pure (x34 :: r35)); pure (x36 :: r37)); pure (x38 :: r39)); pure (x40 :: r41)); Mo.lift (m__law_right_0e22 r42)); DL.ask (truD x43))); seqF (if t46 = true then (do let v45 ← (pure (.bl false)); pure (.rt v45)) else (pure (.nx ()))) fun (q44 : Unit) => (pure (.nx ()))) := rfl
def k_law_8aba_1 (v5 : D) (v15 : D) (v9 : D) : M (Fl (Unit) (Empty)) := (do let r49 ← (do let r21 ← (do let x19 ← (pure (.int 8)); let r20 ← pure []; pure (x19 :: r20)); DL.ask (rng1 r21)); seqF (forF (fun d => some d) (fun (q22 : Unit) (c23 : D) => (do let v24 ← (do let r30 ← (do let x28 ← (pure v5); let r29 ← (do let x26 ← (pure (.int 6)); let r27 ← pure []; pure (x26 :: r27)); pure (x28 :: r29)); m__law_host_9bb9 r30); let v25 ← (do let r33 ← (do let x31 ← (pure v5); let r32 ← pure []; pure (x31 :: r32)); m__law_of_8ba0 r33); (k_law_8aba_0 v15 v9 v24 v25))) r49 ()) fun (q47 : Unit) => (do let v48 ← (pure (.bl true)); pure (.rt v48)))
theorem l_law_8aba_1 (v5 : D) (v15 : D) (v9 : D) : k_law_8aba_1 v5 v15 v9 = (do let r49 ← (do let r21 ← (do let x19 ← (pure (.int 8)); let r20 ← pure []; pure (x19 :: r20)); DL.ask (rng1 r21)); seqF (forF (fun d => some d) (fun (q22 : Unit) (c23 : D) => (do let v24 ← (do let r30 ← (do let x28 ← (pure v5); let r29 ← (do let x26 ← (pure (.int 6)); let r27 ← pure []; pure (x26 :: r27)); pure (x28 :: r29)); m__law_host_9bb9 r30); let v25 ← (do let r33 ← (do let x31 ← (pure v5); let r32 ← pure []; pure (x31 :: r32)); m__law_of_8ba0 r33); (k_law_8aba_0 v15 v9 v24 v25))) r49 ()) fun (q47 : Unit) => (do let v48 ← (pure (.bl true)); pure (.rt v48))) := rfl
def k_law_8aba_2 : M (Fl (Unit) (Empty)) := (do let v5 ← (do let r8 ← (do let x6 ← (pure (.int 20)); let r7 ← pure []; pure (x6 :: r7)); m__law_pool_b280 r8); (do let v9 ← (do let r14 ← (do let x12 ← (pure v5); let r13 ← (do let x10 ← (pure (.int 8)); let r11 ← pure []; pure (x10 :: r11)); pure (x12 :: r13)); m__law_rows_7d64 r14); (do let v15 ← (do let r18 ← (do let x16 ← (pure v9); let r17 ← pure []; pure (x16 :: r17)); Mo.lift (m__law_table_9456 r18)); (k_law_8aba_1 v5 v15 v9))))
theorem l_law_8aba_2 : k_law_8aba_2 = (do let v5 ← (do let r8 ← (do let x6 ← (pure (.int 20)); let r7 ← pure []; pure (x6 :: r7)); m__law_pool_b280 r8); (do let v9 ← (do let r14 ← (do let x12 ← (pure v5); let r13 ← (do let x10 ← (pure (.int 8)); let r11 ← pure []; pure (x10 :: r11)); pure (x12 :: r13)); m__law_rows_7d64 r14); (do let v15 ← (do let r18 ← (do let x16 ← (pure v9); let r17 ← pure []; pure (x16 :: r17)); Mo.lift (m__law_table_9456 r18)); (k_law_8aba_1 v5 v15 v9)))) := rfl
def b_law_8aba (a0 : D) : R (Fl Unit Empty) := (do let i2 ← DL.ask (scrOf a0); let v1 ← Mo.noex (m__law_bag_d7b5 [.scr i2]); withBagW v1 (k_law_8aba_2))
theorem e_law_8aba (a0 : D) : b_law_8aba a0 = (do let i2 ← DL.ask (scrOf a0); let v1 ← Mo.noex (m__law_bag_d7b5 [.scr i2]); withBagW v1 (do let v5 ← (m__law_pool_b280 [(.int 20)]); let v9 ← (m__law_rows_7d64 [v5, (.int 8)]); let v15 ← (Mo.lift (m__law_table_9456 [v9])); let r49 ← (DL.ask (rng1 [(.int 8)])); seqF (forF (fun d => some d) (fun (q22 : Unit) (c23 : D) => (do let v24 ← (m__law_host_9bb9 [v5, (.int 6)]); let v25 ← (m__law_of_8ba0 [v5]); let t46 ← (DL.notM (do let x43 ← (Mo.lift (m__law_right_0e22 [v15, v9, v24, v25])); DL.ask (truD x43))); seqF (if t46 = true then (pure (.rt (.bl false))) else (pure (.nx ()))) fun (q44 : Unit) => (pure (.nx ())))) r49 ()) fun (q47 : Unit) => (pure (.rt (.bl true))))) := by
  unfold b_law_8aba; simp only [l_law_8aba_0, l_law_8aba_1, l_law_8aba_2, pure_bind, bind_assoc, mkL]
def m_law_8aba : List D → R D := apR1 fun a0 => (runR false (b_law_8aba a0))
end FN
namespace FN
open DL PySem PySem.W
def kdEq : (a b : Kd) → Decidable (a = b)
  | .pl, .pl => isTrue rfl
  | .wi, .wi => isTrue rfl
  | .ex, .ex => isTrue rfl
  | .pl, .wi => isFalse (fun h => nomatch h)
  | .pl, .ex => isFalse (fun h => nomatch h)
  | .wi, .pl => isFalse (fun h => nomatch h)
  | .wi, .ex => isFalse (fun h => nomatch h)
  | .ex, .pl => isFalse (fun h => nomatch h)
  | .ex, .wi => isFalse (fun h => nomatch h)
instance : DecidableEq Kd := kdEq
def stx (h A : Hst) (k : Kd) (e : Nat) : Nat := if endsB h A = true ∧ k = .ex then max e A.length else e
def stl (h A : Hst) : Kd → Nat → Nat
  | .pl, l => if endsB h A = true then max l A.length else l
  | .wi, l => if endsB h A = true ∧ A.length < h.length then max l (A.length + 1) else l
  | .ex, l => l
def ex2 (h : Hst) : List Row → Nat → Nat
  | [], e => e
  | r :: rows, e => ex2 h rows (stx h r.2 r.1 e)
def lo1 (h : Hst) : List Row → Nat → Nat
  | [], l => l
  | r :: rows, l => lo1 h rows (stl h r.2 r.1 l)
theorem fold_split (h : Hst) : ∀ (rows : List Row) (l e : Nat), rows.foldl (stepE h) (l, e) = (lo1 h rows l, ex2 h rows e)
  | [], _, _ => rfl
  | (k, A) :: rows, l, e => by
    rw [List.foldl_cons, lo1, ex2]
    have : stepE h (l, e) (k, A) = (stl h A k l, stx h A k e) := by
      unfold stepE stx
      cases k
      · cases c : endsB h A <;> simp [c, stl]
      · cases c : endsB h A
        · simp [c, stl]
        · by_cases d : A.length < h.length <;> simp [c, d, stl]
      · cases c : endsB h A <;> simp [c, stl]
    rw [this]
    exact fold_split h rows _ _
theorem stx_ge {h A : Hst} {k : Kd} {e : Nat} : e ≤ stx h A k e := by
  unfold stx
  split <;> omega
theorem stl_ge {h A : Hst} {k : Kd} {l : Nat} : l ≤ stl h A k l := by
  cases k with
  | pl =>
    show l ≤ if endsB h A = true then max l A.length else l
    split <;> omega
  | wi =>
    show l ≤ if endsB h A = true ∧ A.length < h.length then max l (A.length + 1) else l
    split <;> omega
  | ex => exact Nat.le_refl _
theorem ex2_ge (h : Hst) : ∀ (rows : List Row) (e : Nat), e ≤ ex2 h rows e
  | [], _ => Nat.le_refl _
  | r :: rows, e => Nat.le_trans stx_ge (ex2_ge h rows _)
theorem lo1_ge (h : Hst) : ∀ (rows : List Row) (l : Nat), l ≤ lo1 h rows l
  | [], _ => Nat.le_refl _
  | r :: rows, l => Nat.le_trans stl_ge (lo1_ge h rows _)
theorem ex2_le {h : Hst} {B : Nat} : ∀ {rows : List Row} {e : Nat}, (∀ r ∈ rows, r.1 = .ex → endsB h r.2 = true → r.2.length ≤ B) → e ≤ B → ex2 h rows e ≤ B
  | [], _, _, he => he
  | r :: rows, e, hr, he => by
    rw [ex2]
    refine ex2_le (fun x m => hr x (.tail _ m)) ?_
    unfold stx
    split
    · rename_i c
      have := hr r (.head _) c.2 c.1
      omega
    · exact he
theorem lo1_le {h : Hst} {B : Nat} : ∀ {rows : List Row} {l : Nat}, (∀ r ∈ rows, endsB h r.2 = true → (r.1 = .pl → r.2.length ≤ B) ∧ (r.1 = .wi → r.2.length < h.length → r.2.length + 1 ≤ B)) → l ≤ B → lo1 h rows l ≤ B
  | [], _, _, hl => hl
  | (k, A) :: rows, l, hr, hl => by
    rw [lo1]
    refine lo1_le (fun x m => hr x (.tail _ m)) ?_
    have := hr (k, A) (.head _)
    cases k <;> unfold stl <;> dsimp only
    · split
      · rename_i c
        have := (this c).1 rfl
        exact Nat.max_le.mpr ⟨hl, this⟩
      · exact hl
    · split
      · rename_i c
        have := (this c.1).2 rfl c.2
        exact Nat.max_le.mpr ⟨hl, this⟩
      · exact hl
    · exact hl
theorem ex2_two {h : Hst} : ∀ {rows : List Row} {e : Nat}, (∀ r ∈ rows, RowOk r) → ex2 h rows e = e ∨ 2 ≤ ex2 h rows e
  | [], _, _ => .inl rfl
  | r :: rows, e, hr => by
    rw [ex2]
    by_cases c : endsB h r.2 = true ∧ r.1 = .ex
    · have e1 : stx h r.2 r.1 e = max e r.2.length := if_pos c
      rw [e1]
      refine .inr (Nat.le_trans ?_ (ex2_ge h rows _))
      have := (hr r (.head _)).2.2.2.2 c.2
      omega
    · have e1 : stx h r.2 r.1 e = e := if_neg c
      rw [e1]
      exact ex2_two fun x m => hr x (.tail _ m)
theorem ends_le {h A : Hst} (e : endsB h A = true) : A.length ≤ h.length := by
  unfold endsB at e
  simp only [Bool.and_eq_true, decide_eq_true_eq] at e
  exact e.1
theorem ends_suf {h A : Hst} {k : Nat} (hk : k ≤ h.length) : endsB (h.drop k) A = (decide (A.length ≤ (h.drop k).length) && endsB h A) := by
  unfold endsB
  by_cases c : A.length ≤ (h.drop k).length
  · have c' : A.length ≤ h.length := by rw [List.length_drop] at c; omega
    have e : (h.drop k).drop ((h.drop k).length - A.length) = h.drop (h.length - A.length) := by
      rw [List.drop_drop]
      congr 1
      rw [List.length_drop] at c ⊢
      omega
    rw [decide_eq_true c, decide_eq_true c', e]
    rfl
  · rw [decide_eq_false c]; rfl
theorem ex2_suf {h s : Hst} (hs : ∀ A, endsB s A = (decide (A.length ≤ s.length) && endsB h A)) : ∀ {rows : List Row} {e : Nat}, ex2 h rows e ≤ s.length → ex2 s rows e = ex2 h rows e
  | [], _, _ => rfl
  | (k, A) :: rows, e, hl => by
    have hl : ex2 h rows (stx h A k e) ≤ s.length := hl
    have ge := ex2_ge h rows (stx h A k e)
    have st : stx s A k e = stx h A k e := by
      unfold stx at ge hl ⊢
      rw [hs A]
      by_cases c : endsB h A = true ∧ k = .ex
      · rw [if_pos c] at ge hl ⊢
        have : A.length ≤ s.length := by omega
        rw [if_pos ⟨by rw [decide_eq_true this, c.1]; rfl, c.2⟩]
      · rw [if_neg c, if_neg]
        intro z
        simp only [Bool.and_eq_true] at z
        exact c ⟨z.1.2, z.2⟩
    show ex2 s rows (stx s A k e) = ex2 h rows (stx h A k e)
    rw [st]
    exact ex2_suf hs hl
theorem lo1_suf {h s : Hst} (hs : ∀ A, endsB s A = (decide (A.length ≤ s.length) && endsB h A)) (sl : s.length ≤ h.length) : ∀ {rows : List Row} {l : Nat}, lo1 h rows l ≤ s.length → lo1 s rows l = lo1 h rows l
  | [], _, _ => rfl
  | (k, A) :: rows, l, hl => by
    have hl : lo1 h rows (stl h A k l) ≤ s.length := hl
    have ge := lo1_ge h rows (stl h A k l)
    have st : stl s A k l = stl h A k l := by
      cases k <;> unfold stl at ge hl ⊢ <;> dsimp only at ge hl ⊢
      · rw [hs A]
        by_cases c : endsB h A = true
        · rw [if_pos c] at ge hl ⊢
          have : A.length ≤ s.length := by omega
          rw [decide_eq_true this, c]; rfl
        · have c' : endsB h A = false := by simpa using c
          rw [c', Bool.and_false]
      · rw [hs A]
        by_cases c : endsB h A = true ∧ A.length < h.length
        · rw [if_pos c] at ge hl ⊢
          have : A.length < s.length := by omega
          rw [decide_eq_true (Nat.le_of_lt this), c.1, if_pos ⟨rfl, this⟩]
        · rw [if_neg c, if_neg]
          intro z
          simp only [Bool.and_eq_true] at z
          exact c ⟨z.1.2, by omega⟩
    show lo1 s rows (stl s A k l) = lo1 h rows (stl h A k l)
    rw [st]
    exact lo1_suf hs sl hl
/-- the size of an ending -/
def szN (rows : List Row) (h : Hst) : Nat := sizeE (foldE rows h)
theorem szN_eq {rows : List Row} {h : Hst} : szN rows h = if 0 < ex2 h rows 0 then ex2 h rows 0 - 1 else lo1 h rows 1 := by
  unfold szN foldE sizeE
  rw [fold_split]
theorem sz_range {rows : List Row} {h : Hst} (hr : ∀ r ∈ rows, RowOk r) (h1 : 1 ≤ h.length) : 1 ≤ szN rows h ∧ szN rows h ≤ h.length ∧ szN rows h ≤ 3 := by
  rw [szN_eq]
  have a1 := ex2_le (h := h) (B := h.length) (rows := rows) (e := 0) (fun r m _ e => ends_le e) (Nat.zero_le _)
  have a2 := ex2_le (h := h) (B := 3) (rows := rows) (e := 0) (fun r m _ e => (hr r m).2.2.1) (Nat.zero_le _)
  have a3 := ex2_two (h := h) (rows := rows) (e := 0) hr
  have b1 := lo1_le (h := h) (B := h.length) (rows := rows) (l := 1) (fun r m e => ⟨fun _ => ends_le e, fun _ k => k⟩) h1
  have b2 := lo1_le (h := h) (B := 3) (rows := rows) (l := 1) (fun r m e => ⟨fun _ => (hr r m).2.2.1, fun z _ => by have := (hr r m).2.2.2.1 z; omega⟩) (by omega)
  have b3 := lo1_ge h rows 1
  split <;> omega
theorem sz_suf {rows : List Row} {h : Hst} {k : Nat} (hk : k ≤ h.length) (hr : ∀ r ∈ rows, RowOk r) (h1 : 1 ≤ h.length) (hm : min h.length (szN rows h + 1) ≤ (h.drop k).length) : szN rows (h.drop k) = szN rows h := by
  have hs := fun A => ends_suf (h := h) (A := A) hk
  have a1 := ex2_le (h := h) (B := h.length) (rows := rows) (e := 0) (fun r m _ e => ends_le e) (Nat.zero_le _)
  have b1 := lo1_le (h := h) (B := h.length) (rows := rows) (l := 1) (fun r m e => ⟨fun _ => ends_le e, fun _ k => k⟩) h1
  have sl : (h.drop k).length ≤ h.length := by rw [List.length_drop]; omega
  rw [szN_eq] at hm ⊢
  rw [szN_eq]
  by_cases c : 0 < ex2 h rows 0
  · rw [if_pos c] at hm
    have := ex2_suf hs (rows := rows) (e := 0) (by omega)
    rw [this, if_pos c, if_pos c]
  · rw [if_neg c] at hm
    have e0 := ex2_suf hs (rows := rows) (e := 0) (by omega)
    have e1 := lo1_suf hs sl (rows := rows) (l := 1) (by omega)
    rw [e0, e1, if_neg c]
theorem site_sz {rows : List Row} {h : Hst} : siteN rows h = h.drop (h.length - (szN rows h + 1)) := rfl
theorem site_suf {rows : List Row} {h : Hst} {k : Nat} (hk : k ≤ h.length) (hr : ∀ r ∈ rows, RowOk r) (h1 : 1 ≤ h.length) (hm : min h.length (szN rows h + 1) ≤ (h.drop k).length) : siteN rows (h.drop k) = siteN rows h := by
  rw [site_sz, site_sz, sz_suf hk hr h1 hm, List.drop_drop]
  congr 1
  rw [List.length_drop] at hm ⊢
  omega
def matchB (h : Hst) (r : Row) : Bool := endsB h r.2 && (match r.1 with
  | .wi => decide (r.2.length < h.length)
  | _ => true)
theorem fold_match (h : Hst) : ∀ (rows : List Row) (q : Nat × Nat), (rows.filter (matchB h)).foldl (stepE h) q = rows.foldl (stepE h) q
  | [], _ => rfl
  | (k, A) :: rows, q => by
    rw [List.filter_cons, List.foldl_cons]
    by_cases c : matchB h (k, A) = true
    · rw [if_pos c, List.foldl_cons]
      exact fold_match h rows _
    · rw [if_neg c]
      have : stepE h q (k, A) = q := by
        unfold stepE
        unfold matchB at c
        by_cases d : endsB h A = true
        · cases k with
          | pl => simp [d] at c
          | wi =>
            simp [d] at c
            have c' : ¬ A.length < h.length := by omega
            simp [d, c']
          | ex => simp [d] at c
        · simp [d]
      rw [this]
      exact fold_match h rows q
theorem sz_match {rows : List Row} {h : Hst} : szN (rows.filter (matchB h)) h = szN rows h := by
  unfold szN foldE
  rw [fold_match]
theorem tab_match {rows : List Row} {p : Row → Bool} (h : TabOk rows) : TabOk (rows.filter p) := ⟨fun r m => h.1 r (List.mem_filter.mp m).1, (List.filter_sublist.map rowT).nodup h.2.1, Nat.le_trans (List.length_filter_le _ _) h.2.2⟩
theorem drop_ends {h : Hst} {k : Nat} : endsB h (h.drop k) = true := by
  unfold endsB
  have e : h.length - (h.drop k).length = min k h.length := by rw [List.length_drop]; omega
  rw [decide_eq_true (by rw [List.length_drop]; omega), e]
  have : h.drop (min k h.length) = h.drop k := by
    by_cases c : k ≤ h.length
    · rw [Nat.min_eq_left c]
    · rw [Nat.min_eq_right (by omega), List.drop_length, List.drop_eq_nil_of_le (by omega)]
  rw [this, decide_eq_true rfl]; rfl
end FN
namespace FN
open DL PySem PySem.W
theorem take_succ_filter {rows : List Row} {p : Row → Bool} {i : Nat} {r : Row} (h : rows[i]? = some r) : (rows.take (i + 1)).filter p = (rows.take i).filter p ++ (if p r = true then [r] else []) := by
  rw [List.take_add_one, h, List.filter_append]
  congr 1
  show [r].filter p = _
  rw [List.filter_cons]
  split <;> rfl
theorem nil_tab : TabOk [] := by
  refine ⟨?_, ?_, ?_⟩
  · intro r m; cases m
  · exact List.nodup_nil
  · exact Nat.zero_le _
theorem matching_ok {rows : List Row} {h : Hst} (hT : TabOk rows) (hh : Labs h) : m__law_matching_5140 [.lst (rowsD rows), hD h] = .ok (.lst (rowsD (rows.filter (matchB h)))) := by
  have s0 : szL [] = some [] := sz_ok (by simp)
  have it : itD (.lst (rowsD rows)) = some (rowsD rows) := rfl
  have hr := hT.1
  have key : OkR (m__law_matching_5140 [.lst (rowsD rows), hD h]) fun d => d = .lst (rowsD (rows.filter (matchB h))) := by
    refine okr_runR ?_
    simp only [e__law_matching_5140, s0, it, askR, pure_bind]
    refine okr_seqP (fun q => q = rowsD ((rows.take rows.length).filter (matchB h))) (okr_for (fun i q => q = rowsD ((rows.take i).filter (matchB h))) _ _ rfl (fun i d q hd hq => ⟨d, rfl, ?_⟩) (fun q hq => by rw [show (rowsD rows).length = rows.length by rw [rowsD, List.length_map]] at hq; exact hq)) ?_
    · subst hq
      rw [rowsD, List.getElem?_map] at hd
      cases hg : rows[i]? with
      | none => rw [hg] at hd; cases hd
      | some r =>
        rw [hg] at hd
        cases hd
        have hk := hr r (List.mem_of_getElem? hg)
        have hl8 : ((rows.take i).filter (matchB h)).length ≤ 8 := Nat.le_trans (List.length_filter_le _ _) (by rw [List.length_take]; have := hT.2.2; omega)
        obtain ⟨t, l1, l2⟩ := law_split hk
        have step := take_succ_filter (p := matchB h) hg
        obtain ⟨k, A⟩ := r
        obtain ⟨hA, h1, h2, h3, h4⟩ := hk
        dsimp only at hA h1 h2 h3 h4
        obtain ⟨c, r, ej, hc⟩ := head_lab hA h1
        have c42 : c ≠ 42 := fun e => by rw [e] at hc; revert hc; decide
        have en : m__law_ends_f9cd [hD h, .tup (A.map .str)] = .ok (.bl (endsB h A)) := law_ends_okW hh hA
        have ap : apd (rowsD ((rows.take i).filter (matchB h))) (.str (rowT (k, A))) = some (rowsD ((rows.take i).filter (matchB h) ++ [(k, A)])) := by
          rw [apd_ok (by rw [rowsD, List.length_map]; omega)]
          simp [rowsD]
        have fin : ∀ b : Bool, b = matchB h (k, A) → (if b = true then rowsD ((rows.take i).filter (matchB h) ++ [(k, A)]) else rowsD ((rows.take i).filter (matchB h))) = rowsD ((rows.take (i + 1)).filter (matchB h)) := fun b e => by
          rw [step, ← e]
          cases b <;> simp
        simp only [str_of, askR, pure_bind, l1, l2, tup_lst]
        cases k with
        | ex =>
          have i0 : ixD (.str (rowT (.ex, A))) (.int 0) = some (.str [33]) := ix_zero (r := joinN [46] A)
          have lt : labT (.ex, A) = A := rfl
          have e42 : decide (([33] : List Nat) = [42]) = false := by decide
          have mb : matchB h (.ex, A) = endsB h A := by unfold matchB; simp
          simp only [i0, lt, eq_ss, ne_ss, e42, Option.bind_some, bOf_bl, askR, pure_bind, Bool.false_eq_true, if_false, Bool.not_false, if_true, en, lift_pR, okpR, tru_bl, DL.andM, sqp]
          have f := fin (endsB h A) mb.symm
          cases hb : endsB h A with
          | true =>
            rw [hb] at f
            simp only [if_true, ap, askR, pure_bind, sqp]
            exact okr_p f
          | false =>
            rw [hb] at f
            simp only [Bool.false_eq_true, if_false, sqp]
            exact okr_p f
        | pl =>
          have i0 : ixD (.str (rowT (.pl, A))) (.int 0) = some (.str [c]) := by
            show ixD (.str (joinN [46] A)) (.int 0) = _
            rw [ej]; exact ix_zero
          have lt : labT (.pl, A) = A := rfl
          have e42 : decide (([c] : List Nat) = [42]) = false := by simp [c42]
          have mb : matchB h (.pl, A) = endsB h A := by unfold matchB; simp
          simp only [i0, lt, eq_ss, ne_ss, e42, Option.bind_some, bOf_bl, askR, pure_bind, Bool.false_eq_true, if_false, Bool.not_false, if_true, en, lift_pR, okpR, tru_bl, DL.andM, sqp]
          have f := fin (endsB h A) mb.symm
          cases hb : endsB h A with
          | true =>
            rw [hb] at f
            simp only [if_true, ap, askR, pure_bind, sqp]
            exact okr_p f
          | false =>
            rw [hb] at f
            simp only [Bool.false_eq_true, if_false, sqp]
            exact okr_p f
        | wi =>
          have i0 : ixD (.str (rowT (.wi, A))) (.int 0) = some (.str [42]) := ix_zero (r := 46 :: joinN [46] A)
          have lt : labT (.wi, A) = [42] :: A := rfl
          have e42 : decide (([42] : List Nat) = [42]) = true := by decide
          have ll : lenD [.tup (([42] :: A).map D.str)] = some (.int ((A.length + 1 : Nat) : Int)) := lenT
          have sl1 : sliceD (.tup (([42] :: A).map D.str)) (some 1) none = some (.tup (A.map .str)) := by
            rw [slice_t, cut_lo (by omega)]; rfl
          have mb : matchB h (.wi, A) = (endsB h A && decide (A.length < h.length)) := rfl
          simp only [i0, lt, eq_ss, ne_ss, e42, Option.bind_some, bOf_bl, askR, pure_bind, Bool.false_eq_true, if_false, Bool.not_true, if_true, ll, lenH, ge_l, int_of, sl1, en, lift_pR, okpR, tru_bl, DL.andM, sqp]
          have f := fin _ mb.symm
          by_cases c : A.length < h.length
          · have c' : ((A.length + 1 : Nat) : Int) ≤ (h.length : Int) := by omega
            rw [decide_eq_true c, Bool.and_true] at f
            simp only [decide_eq_true c', if_true]
            cases hb : endsB h A with
            | true =>
              rw [hb] at f
              simp only [if_true, ap, askR, pure_bind, sqp]
              exact okr_p f
            | false =>
              rw [hb] at f
              exact okr_p f
          · have c' : ¬ ((A.length + 1 : Nat) : Int) ≤ (h.length : Int) := by omega
            rw [decide_eq_false c, Bool.and_false] at f
            simp only [decide_eq_false c', Bool.false_eq_true, if_false, sqp]
            exact okr_p f
    · intro q hq
      subst hq
      rw [List.take_length]
      exact okr_p rfl
  obtain ⟨d, e, rfl⟩ := key
  exact e
theorem tab_ending {rows : List Row} {h : Hst} (hr : ∀ r ∈ rows, RowOk r) (k : HkH h) : dispM [("Table", m_Table_ending_9165)] (tabD rows) [hD h] = .ok (hD (h.drop (h.length - szN rows h))) := by
  rw [tab_endingX hr k]
  have c := cut_endN (h := h) (n := sizeE (foldE rows h)) (sz_range hr k.2.1).2.1
  rw [c]
  rfl
theorem right66 {rows : List Row} (hT : TabOk rows) {h : Hst} (k : HkH h) (k6 : h.length ≤ 6) {z : List Nat} (hz : isLab 20 z = true) : m__law_right_0e22 [tabD rows, .lst (rowsD rows), hD h, .str z] = .ok (.bl true) := by
  have hr := hT.1
  obtain ⟨g1, g2, g3⟩ := sz_range (h := h) hr k.2.1
  have s0 : szL [] = some [] := sz_ok (by simp)
  have sz1 : ∀ a : D, szL [a] = some [a] := fun a => sz_ok (by simp)
  have io1 : ∀ r : List Row, insOk ["Table"] "ending" (tabD r) = some () := fun _ => rfl
  have io2 : insOk ["Table"] "site" (tabD rows) = some () := rfl
  have io3 : insOk ["Table"] "one_site" (tabD rows) = some () := rfl
  generalize hn : szN rows h = n at g1 g2 g3
  have te := tab_ending hr k
  rw [hn] at te
  have ts := tab_siteX hr k
  have sd : siteN rows h = h.drop (h.length - (n + 1)) := by rw [site_sz, hn]
  have kS : HkH (h.drop (h.length - (n + 1))) := ⟨labs_drop _ k.1, by rw [List.length_drop]; omega, by rw [List.length_drop]; omega⟩
  have kE : Labs (h.drop (h.length - n)) := labs_drop _ k.1
  have lS : (h.drop (h.length - (n + 1))).length = min h.length (n + 1) := by rw [List.length_drop]; omega
  have lE : (h.drop (h.length - n)).length = n := by rw [List.length_drop]; omega
  have t1 : ∀ A : Hst, isiD "tuple" (hD A) = some (.bl true) := fun _ => rfl
  have q0 : (eqO [("Table", m_Table_eq_abda)] (hD (h.drop (h.length - n))) (.tup [])).bind bOf = some false := by
    show (eqD (.tup (_ : List D)) (.tup (([] : List (List Nat)).map .str))).bind bOf = _
    rw [eqT kE (fun _ m => by cases m)]
    have : ¬ h.drop (h.length - n) = [] := fun e => by rw [e] at lE; simp at lE; omega
    rw [decide_eq_false this]; rfl
  have en1 := law_ends_okW (h := h) (A := h.drop (h.length - (n + 1))) k.1 kS.1
  have en2 : m__law_ends_f9cd [hD (h.drop (h.length - (n + 1))), hD (h.drop (h.length - n))] = .ok (.bl true) := by
    rw [law_ends_okW kS.1 kE]
    have : h.drop (h.length - n) = (h.drop (h.length - (n + 1))).drop (h.length - n - (h.length - (n + 1))) := by
      rw [List.drop_drop]; congr 1; omega
    rw [this, drop_ends]
  rw [drop_ends] at en1
  have lo : ∀ A : Hst, lenO [("Table", m_Table_len_13ee)] [hD A] = some (.int (A.length : Int)) := fun A => lenH
  have mi : minD [.int (h.length : Int), .int ((n : Int) + 1)] = some (.int ((min h.length (n + 1) : Nat) : Int)) := by
    rw [show ((n : Int) + 1) = ((n + 1 : Nat) : Int) by omega]; exact min_ii
  have nei : ∀ i : Int, (neD (.int i) (.int i)).bind bOf = some false := fun i => by rw [ne_ii, decide_eq_true rfl]; rfl
  have neT : ∀ A : Hst, Labs A → (neO [("Table", m_Table_eq_abda)] (hD A) (hD A)).bind bOf = some false := fun A hA => by
    have n1 : nic 3 (hD A) = true := labs_tup hA
    show (neD (hD A) (hD A)).bind bOf = _
    rw [ne_nic n1 n1 (by omega) (by omega), deq_refl 3 _ n1]; rfl
  -- the site of the site
  have sS : siteN rows (h.drop (h.length - (n + 1))) = h.drop (h.length - (n + 1)) := by
    rw [site_suf (by omega) hr k.2.1 (by rw [hn, lS]; exact Nat.le_refl _), sd]
  have tsS := tab_siteX hr kS
  rw [sS] at tsS
  have oS := tab_one_siteX hr k kS
  rw [sS, sd, decide_eq_true rfl] at oS
  have nb : (isNotD (.bl true) (.bl true)).bind bOf = some false := rfl
  -- the last four
  have k4 : HkH (h.drop (h.length - 4)) := ⟨labs_drop _ k.1, by rw [List.length_drop]; omega, by rw [List.length_drop]; omega⟩
  have s4 : siteN rows (h.drop (h.length - 4)) = h.drop (h.length - (n + 1)) := by
    rw [site_suf (by omega) hr k.2.1 (by rw [hn, List.length_drop]; omega), sd]
  have t4 := tab_siteX hr k4
  rw [s4] at t4
  have sl4 : sliceD (hD h) (some (-4)) none = some (hD (h.drop (h.length - 4))) := by
    show sliceD (.tup (h.map .str)) _ _ = _
    rw [slice_t, show (-4 : Int) = -((4 : Nat) : Int) by omega, cut_neg (by omega)]; rfl
  have sl1 : sliceD (hD h) (some (-1)) none = some (hD (h.drop (h.length - 1))) := by
    show sliceD (.tup (h.map .str)) _ _ = _
    rw [slice_t, show (-1 : Int) = -((1 : Nat) : Int) by omega, cut_neg (by omega)]; rfl
  have ng : ∀ i : Int, negD (.int i) = some (.int (-i)) := fun _ => rfl
  have fe : ∀ r : List Row, (∀ x ∈ r, RowOk x) → szN r h = n → dispM [("Table", m_Table_ending_9165)] (tabD r) [hD h] = .ok (hD (h.drop (h.length - n))) := fun r hr e => by rw [tab_ending hr k, e]
  have hM := tab_match (p := matchB h) hT
  have fm := fe _ hM.1 (by rw [sz_match, hn])
  have lt := law_table_okX hM
  have mo := matching_ok hT k.1
  have eqE : eqO [("Table", m_Table_eq_abda)] (hD (h.drop (h.length - n))) (hD (h.drop (h.length - n))) = some (.bl true) := by
    show eqD (.tup (_ : List D)) (.tup (_ : List D)) = _
    rw [eqT kE kE, decide_eq_true rfl]
  have st0 : starD 0 m_Table_init_e784 [] = .ok [.tup (rowsD []), .tup (([] : List Row).map rowD)] := by
    rw [star0 (by simp)]
    exact table_init (rows := []) nil_tab
  have te0 : dispM [("Table", m_Table_ending_9165)] (D.ins "Table" ["rows", "parsed"] [.tup (rowsD []), .tup (([] : List Row).map rowD)]) [hD h] = .ok (hD (h.drop (h.length - 1))) := tab_ending (rows := []) (fun _ m => by cases m) k
  have io0 : insOk ["Table"] "ending" (D.ins "Table" ["rows", "parsed"] [.tup (rowsD []), .tup (([] : List Row).map rowD)]) = some () := rfl
  have eq1 : eqD (hD (h.drop (h.length - 1))) (hD (h.drop (h.length - 1))) = some (.bl true) := by
    have kl := labs_drop (h.length - 1) k.1
    show eqD (.tup (_ : List D)) (.tup (_ : List D)) = _
    rw [eqT kl kl, decide_eq_true rfl]
  have t132 : (DL.andM (do let x86 ← (DL.ask (lenD [hD h])); DL.ask ((gtD x86 (.int 3)).bind bOf)) (do let _ ← DL.ask (insOk ["Table"] "site" (tabD rows)); let r91 ← DL.ask (szL [.str z]); let x94 ← (DL.ask (addD (.tup r91) (hD h))); let x98 ← (dispM [("Table", m_Table_site_ff2c)] (tabD rows) [x94]); DL.ask ((neO [("Table", m_Table_eq_abda)] x98 (hD (h.drop (h.length - (n + 1))))).bind bOf)) : R Bool) = pure false := by
    by_cases c : 3 < h.length
    · have c' : (3 : Int) < (h.length : Int) := by omega
      have ad : addD (.tup [.str z]) (hD h) = some (hD (z :: h)) := by
        show addD (.tup (_ : List D)) (.tup (_ : List D)) = _
        rw [add_tt (by simp; omega)]; rfl
      have kZ : HkH (z :: h) := ⟨fun y m => by
        rcases List.mem_cons.mp m with rfl | m
        · exact hz
        · exact k.1 y m, by simp, by simp; omega⟩
      have r3 := (sz_range (h := z :: h) hr kZ.2.1).2.2
      have sZ : siteN rows (z :: h) = h.drop (h.length - (n + 1)) := by
        have e := site_suf (rows := rows) (h := z :: h) (k := 1) (by simp) hr kZ.2.1 (by show min _ _ ≤ h.length; omega)
        rw [← e]
        show siteN rows h = _
        exact sd
      have tZ := tab_siteX hr kZ
      rw [sZ] at tZ
      simp only [lenH, gt_l, decide_eq_true c', Option.bind_some, bOf_bl, askR, pure_bind, DL.andM, if_true, io2, sz1, ad, tZ, okpR, neT _ kS.1]
    · have c' : ¬ (3 : Int) < (h.length : Int) := by omega
      simp only [lenH, gt_l, decide_eq_false c', Option.bind_some, bOf_bl, askR, pure_bind, DL.andM, Bool.false_eq_true, if_false]
  rw [sd] at ts
  unfold m__law_right_0e22 apR4
  simp only [e__law_right_0e22, io1, io2, io3, te, ts, lift_pR, okpR, pure_bind, askR, t1, tru_bl, s0, q0, en1, en2, lo, lE, lS, lenH, add_ii, mi, nei, tsS, neT _ kS.1, oS, nb, ng, int_of, sl4, t4, DL.orM, DL.notM, Bool.not_true, Bool.false_eq_true, if_false, sqp, mo, lt, fm, eqE, st0, io0, te0, sl1, eq1]
  simp only [lenH, io2, askR, pure_bind] at t132
  rw [t132]
  simp only [pure_bind, Bool.false_eq_true, if_false, sqp, eq1, askR]
  rfl
theorem law_ok66 {ns : List Int} (hn : ns.length ≤ 63) : OkR (m_law_8aba [.scr ns]) fun d => d = .bl true := by
  unfold m_law_8aba apR1
  refine okr_runR ?_
  have sc : scrOf (.scr ns) = some ns := rfl
  simp only [e_law_8aba, sc, askR, pure_bind]
  obtain ⟨d, e, l, y, rfl, hl, y0, y1⟩ := bag_okW ns hn
  rw [e]
  simp only [noex_R, R.bind_eq, R.bd]
  refine okr_bagW (K := 10000) hl y0 y1 ?_
  refine bk_then pool_okX ?_
  rintro d ⟨zs, rfl, hL⟩
  refine bk_then (rows_okX hL) ?_
  rintro d ⟨rows, rfl, hT⟩
  simp only [law_table_okX hT, lift_M, pure_bind]
  rw [rng1_ok (j := 8) (by omega) (by omega)]
  simp only [askM, pure_bind]
  refine bk_seqP (K1 := 2408) (fun _ => True) (bk_forU (n := 8) 301 _ (fun d hd => ⟨d, rfl, ?_⟩) trivial (by rw [range_len]; exact Nat.le_refl _) (by omega)) (fun _ _ => bk_pure rfl)
  refine bk_then (host_okW hL (m := 6) (by omega) (by omega)) ?_
  rintro d ⟨A, rfl, a1, a2, a3⟩
  refine bk_then (of_labW hL) ?_
  rintro d ⟨z, rfl, hz⟩
  simp only [right66 hT ⟨a1, a2, by omega⟩ (by omega) hz, lift_M, askM, pure_bind, tru_bl, DL.notM, Bool.not_true, Bool.false_eq_true, if_false]
  exact bk_seqP (K1 := 0) (fun _ => True) (bk_pure trivial) fun _ _ => bk_pure trivial
theorem law_8aba_true (ns : List Int) (hn : ns.length ≤ 63) : m_law_8aba [.scr ns] = .ok (.bl true) := by
  obtain ⟨d, e, rfl⟩ := law_ok66 hn
  exact e
end FN
/-! ### offeredentry_k66_whole_sites: the program in the data layer (printed) -/
namespace K66
open PySem L2 DL FN
def top (i : Nat) : Stmt := PySem.Challenge.pw_offeredentry_k66_whole_sites.main.body.getD i (.Pass ⟨0, 0, 0, 0⟩)
def topC (i j : Nat) : Stmt := match top i with
  | .ClassDef _ _ _ body _ _ _ _ _ _ _ => body.getD j (.Pass ⟨0, 0, 0, 0⟩)
  | _ => .Pass ⟨0, 0, 0, 0⟩
abbrev s_is_label : Stmt := top 10
abbrev N_is_label : List Str := ["thing", "sign"]
theorem sc_is_label : FnScope N_is_label ["thing"] (defScope s_is_label) := ⟨rfl, rfl, rfl, by decide +kernel, rfl, by decide +kernel, by decide +kernel⟩
abbrev s_ends_with : Stmt := top 20
abbrev N_ends_with : List Str := ["host", "labels"]
theorem sc_ends_with : FnScope N_ends_with ["host", "labels"] (defScope s_ends_with) := ⟨rfl, rfl, rfl, by decide +kernel, rfl, by decide +kernel, by decide +kernel⟩
abbrev s__law_bag : Stmt := top 25
abbrev N__law_bag : List Str := ["_law_script", "_law_seed", "_law_cell"]
theorem sc__law_bag : FnScope N__law_bag ["_law_script"] (defScope s__law_bag) := ⟨rfl, rfl, rfl, by decide +kernel, rfl, by decide +kernel, by decide +kernel⟩
abbrev s__law_take : Stmt := top 26
abbrev N__law_take : List Str := ["_law_bag_here", "_law_many", "_law_mixed", "_law_digit"]
theorem sc__law_take : FnScope N__law_take ["_law_bag_here", "_law_many"] (defScope s__law_take) := ⟨rfl, rfl, rfl, by decide +kernel, rfl, by decide +kernel, by decide +kernel⟩
abbrev s__law_ends : Stmt := top 31
abbrev N__law_ends : List Str := ["_law_host_here", "_law_labels"]
theorem sc__law_ends : FnScope N__law_ends ["_law_host_here", "_law_labels"] (defScope s__law_ends) := ⟨rfl, rfl, rfl, by decide +kernel, rfl, by decide +kernel, by decide +kernel⟩
abbrev s_Table_len : Stmt := topC 23 2
abbrev N_Table_len : List Str := ["self"]
theorem sc_Table_len : FnScope N_Table_len ["self"] (defScope s_Table_len) := ⟨rfl, rfl, rfl, by decide +kernel, rfl, by decide +kernel, by decide +kernel⟩
abbrev s_Table_eq : Stmt := topC 23 3
abbrev N_Table_eq : List Str := ["self", "other"]
theorem sc_Table_eq : FnScope N_Table_eq ["self", "other"] (defScope s_Table_eq) := ⟨rfl, rfl, rfl, by decide +kernel, rfl, by decide +kernel, by decide +kernel⟩
abbrev s_is_path : Stmt := top 11
abbrev N_is_path : List Str := ["thing", "label"]
theorem sc_is_path : FnScope N_is_path ["thing"] (defScope s_is_path) := ⟨rfl, rfl, rfl, by decide +kernel, rfl, by decide +kernel, by decide +kernel⟩
abbrev s_parsed_row : Stmt := top 19
abbrev N_parsed_row : List Str := ["row", "labels", "kind", "text", "least", "most", "label"]
theorem sc_parsed_row : FnScope N_parsed_row ["row"] (defScope s_parsed_row) := ⟨rfl, rfl, rfl, by decide +kernel, rfl, by decide +kernel, by decide +kernel⟩
abbrev s_ending_size : Stmt := top 21
abbrev N_ending_size : List Str := ["parsed", "host", "longest", "excepted", "kind", "labels"]
theorem sc_ending_size : FnScope N_ending_size ["parsed", "host"] (defScope s_ending_size) := ⟨rfl, rfl, rfl, by decide +kernel, rfl, by decide +kernel, by decide +kernel⟩
abbrev s__law_of : Stmt := top 27
abbrev N__law_of : List Str := ["_law_bag_here", "_law_some"]
theorem sc__law_of : FnScope N__law_of ["_law_bag_here", "_law_some"] (defScope s__law_of) := ⟨rfl, rfl, rfl, by decide +kernel, rfl, by decide +kernel, by decide +kernel⟩
abbrev s__law_label : Stmt := top 28
abbrev N__law_label : List Str := ["_law_bag_here", "_law_most", "_law_signs", "_law_k"]
theorem sc__law_label : FnScope N__law_label ["_law_bag_here", "_law_most"] (defScope s__law_label) := ⟨rfl, rfl, rfl, by decide +kernel, rfl, by decide +kernel, by decide +kernel⟩
abbrev s__law_matching : Stmt := top 35
abbrev N__law_matching : List Str := ["_law_rows_here", "_law_host_here", "_law_found", "_law_row_here", "_law_labels"]
theorem sc__law_matching : FnScope N__law_matching ["_law_rows_here", "_law_host_here"] (defScope s__law_matching) := ⟨rfl, rfl, rfl, by decide +kernel, rfl, by decide +kernel, by decide +kernel⟩
abbrev s_is_host : Stmt := top 12
abbrev N_is_host : List Str := ["thing"]
theorem sc_is_host : FnScope N_is_host ["thing"] (defScope s_is_host) := ⟨rfl, rfl, rfl, by decide +kernel, rfl, by decide +kernel, by decide +kernel⟩
abbrev s_site_by : Stmt := top 22
abbrev N_site_by : List Str := ["parsed", "host", "size"]
theorem sc_site_by : FnScope N_site_by ["parsed", "host"] (defScope s_site_by) := ⟨rfl, rfl, rfl, by decide +kernel, rfl, by decide +kernel, by decide +kernel⟩
abbrev s__law_pool : Stmt := top 29
abbrev N__law_pool : List Str := ["_law_bag_here", "_law_longest", "_law_most", "_law_k"]
theorem sc__law_pool : FnScope N__law_pool ["_law_bag_here", "_law_longest"] (defScope s__law_pool) := ⟨rfl, rfl, rfl, by decide +kernel, rfl, by decide +kernel, by decide +kernel⟩
abbrev s__law_host : Stmt := top 30
abbrev N__law_host : List Str := ["_law_bag_here", "_law_pool_here", "_law_most", "_law_found", "_law_k"]
theorem sc__law_host : FnScope N__law_host ["_law_bag_here", "_law_pool_here", "_law_most"] (defScope s__law_host) := ⟨rfl, rfl, rfl, by decide +kernel, rfl, by decide +kernel, by decide +kernel⟩
abbrev s__law_row : Stmt := top 32
abbrev N__law_row : List Str := ["_law_bag_here", "_law_pool_here", "_law_mark", "_law_size", "_law_k"]
theorem sc__law_row : FnScope N__law_row ["_law_bag_here", "_law_pool_here"] (defScope s__law_row) := ⟨rfl, rfl, rfl, by decide +kernel, rfl, by decide +kernel, by decide +kernel⟩
abbrev s_Table_init : Stmt := topC 23 0
abbrev N_Table_init : List Str := ["self", "rows", "row", "at"]
theorem sc_Table_init : FnScope N_Table_init ["self", "rows"] (defScope s_Table_init) := ⟨rfl, rfl, rfl, by decide +kernel, rfl, by decide +kernel, by decide +kernel⟩
abbrev s__law_rows : Stmt := top 33
abbrev N__law_rows : List Str := ["_law_bag_here", "_law_pool_here", "_law_most", "_law_rows_here", "_law_k", "_law_row_here"]
theorem sc__law_rows : FnScope N__law_rows ["_law_bag_here", "_law_pool_here", "_law_most"] (defScope s__law_rows) := ⟨rfl, rfl, rfl, by decide +kernel, rfl, by decide +kernel, by decide +kernel⟩
abbrev s_Table_ending : Stmt := topC 23 4
abbrev N_Table_ending : List Str := ["self", "host"]
theorem sc_Table_ending : FnScope N_Table_ending ["self", "host"] (defScope s_Table_ending) := ⟨rfl, rfl, rfl, by decide +kernel, rfl, by decide +kernel, by decide +kernel⟩
abbrev s_Table_site : Stmt := topC 23 5
abbrev N_Table_site : List Str := ["self", "host"]
theorem sc_Table_site : FnScope N_Table_site ["self", "host"] (defScope s_Table_site) := ⟨rfl, rfl, rfl, by decide +kernel, rfl, by decide +kernel, by decide +kernel⟩
abbrev s__law_table : Stmt := top 34
abbrev N__law_table : List Str := ["_law_rows_here"]
theorem sc__law_table : FnScope N__law_table ["_law_rows_here"] (defScope s__law_table) := ⟨rfl, rfl, rfl, by decide +kernel, rfl, by decide +kernel, by decide +kernel⟩
abbrev s_Table_one_site : Stmt := topC 23 6
abbrev N_Table_one_site : List Str := ["self", "one", "other"]
theorem sc_Table_one_site : FnScope N_Table_one_site ["self", "one", "other"] (defScope s_Table_one_site) := ⟨rfl, rfl, rfl, by decide +kernel, rfl, by decide +kernel, by decide +kernel⟩
abbrev s__law_right : Stmt := top 36
abbrev N__law_right : List Str := ["_law_table_here", "_law_rows_here", "_law_host_here", "_law_label_here", "_law_fewer", "_law_ending", "_law_site"]
theorem sc__law_right : FnScope N__law_right ["_law_table_here", "_law_rows_here", "_law_host_here", "_law_label_here"] (defScope s__law_right) := ⟨rfl, rfl, rfl, by decide +kernel, rfl, by decide +kernel, by decide +kernel⟩
abbrev s_law : Stmt := top 37
abbrev N_law : List Str := ["_law_script", "_law_bag_here", "_law_pool_here", "_law_rows_here", "_law_table_here", "_law_k", "_law_host_here", "_law_label_here"]
theorem sc_law : FnScope N_law ["_law_script"] (defScope s_law) := ⟨rfl, rfl, rfl, by decide +kernel, rfl, by decide +kernel, by decide +kernel⟩
structure Ad where
  a_is_label : Addr
  f_is_label : FuncData
  a_ends_with : Addr
  f_ends_with : FuncData
  a__law_bag : Addr
  f__law_bag : FuncData
  a__law_take : Addr
  f__law_take : FuncData
  a__law_ends : Addr
  f__law_ends : FuncData
  a_Table_len : Addr
  f_Table_len : FuncData
  a_Table_eq : Addr
  f_Table_eq : FuncData
  a_is_path : Addr
  f_is_path : FuncData
  a_parsed_row : Addr
  f_parsed_row : FuncData
  a_ending_size : Addr
  f_ending_size : FuncData
  a__law_of : Addr
  f__law_of : FuncData
  a__law_label : Addr
  f__law_label : FuncData
  a__law_matching : Addr
  f__law_matching : FuncData
  a_is_host : Addr
  f_is_host : FuncData
  a_site_by : Addr
  f_site_by : FuncData
  a__law_pool : Addr
  f__law_pool : FuncData
  a__law_host : Addr
  f__law_host : FuncData
  a__law_row : Addr
  f__law_row : FuncData
  a_Table_init : Addr
  f_Table_init : FuncData
  a__law_rows : Addr
  f__law_rows : FuncData
  a_Table_ending : Addr
  f_Table_ending : FuncData
  a_Table_site : Addr
  f_Table_site : FuncData
  a__law_table : Addr
  f__law_table : FuncData
  a_Table_one_site : Addr
  f_Table_one_site : FuncData
  a__law_right : Addr
  f__law_right : FuncData
  a_law : Addr
  f_law : FuncData
  C_Table : Addr
  x_BadHost : Addr
  i_BadHost : Addr
  x_BadRow : Addr
  i_BadRow : Addr
  x_Twice : Addr
  i_Twice : Addr
structure Txt (K : PySem.W.Frag) (mg : Str → Option Value) (A : Ad) : Prop where
  m_is_label : mg "is_label" = some (.ref A.a_is_label)
  F_is_label : Fun K "is_label" "is_label" s_is_label A.a_is_label A.f_is_label
  b_is_label : Binds K A.f_is_label ["thing"] []
  m_ends_with : mg "ends_with" = some (.ref A.a_ends_with)
  F_ends_with : Fun K "ends_with" "ends_with" s_ends_with A.a_ends_with A.f_ends_with
  b_ends_with : Binds K A.f_ends_with ["host", "labels"] []
  m__law_bag : mg "_law_bag" = some (.ref A.a__law_bag)
  F__law_bag : Fun K "_law_bag" "_law_bag" s__law_bag A.a__law_bag A.f__law_bag
  b__law_bag : Binds K A.f__law_bag ["_law_script"] []
  m__law_take : mg "_law_take" = some (.ref A.a__law_take)
  F__law_take : Fun K "_law_take" "_law_take" s__law_take A.a__law_take A.f__law_take
  b__law_take : Binds K A.f__law_take ["_law_bag_here", "_law_many"] []
  m__law_ends : mg "_law_ends" = some (.ref A.a__law_ends)
  F__law_ends : Fun K "_law_ends" "_law_ends" s__law_ends A.a__law_ends A.f__law_ends
  b__law_ends : Binds K A.f__law_ends ["_law_host_here", "_law_labels"] []
  F_Table_len : Fun K "__len__" "Table.__len__" s_Table_len A.a_Table_len A.f_Table_len
  b_Table_len : Binds K A.f_Table_len ["self"] []
  F_Table_eq : Fun K "__eq__" "Table.__eq__" s_Table_eq A.a_Table_eq A.f_Table_eq
  b_Table_eq : Binds K A.f_Table_eq ["self", "other"] []
  m_is_path : mg "is_path" = some (.ref A.a_is_path)
  F_is_path : Fun K "is_path" "is_path" s_is_path A.a_is_path A.f_is_path
  b_is_path : Binds K A.f_is_path ["thing"] []
  m_parsed_row : mg "parsed_row" = some (.ref A.a_parsed_row)
  F_parsed_row : Fun K "parsed_row" "parsed_row" s_parsed_row A.a_parsed_row A.f_parsed_row
  b_parsed_row : Binds K A.f_parsed_row ["row"] []
  m_ending_size : mg "ending_size" = some (.ref A.a_ending_size)
  F_ending_size : Fun K "ending_size" "ending_size" s_ending_size A.a_ending_size A.f_ending_size
  b_ending_size : Binds K A.f_ending_size ["parsed", "host"] []
  m__law_of : mg "_law_of" = some (.ref A.a__law_of)
  F__law_of : Fun K "_law_of" "_law_of" s__law_of A.a__law_of A.f__law_of
  b__law_of : Binds K A.f__law_of ["_law_bag_here", "_law_some"] []
  m__law_label : mg "_law_label" = some (.ref A.a__law_label)
  F__law_label : Fun K "_law_label" "_law_label" s__law_label A.a__law_label A.f__law_label
  b__law_label : Binds K A.f__law_label ["_law_bag_here", "_law_most"] []
  m__law_matching : mg "_law_matching" = some (.ref A.a__law_matching)
  F__law_matching : Fun K "_law_matching" "_law_matching" s__law_matching A.a__law_matching A.f__law_matching
  b__law_matching : Binds K A.f__law_matching ["_law_rows_here", "_law_host_here"] []
  m_is_host : mg "is_host" = some (.ref A.a_is_host)
  F_is_host : Fun K "is_host" "is_host" s_is_host A.a_is_host A.f_is_host
  b_is_host : Binds K A.f_is_host ["thing"] []
  m_site_by : mg "site_by" = some (.ref A.a_site_by)
  F_site_by : Fun K "site_by" "site_by" s_site_by A.a_site_by A.f_site_by
  b_site_by : Binds K A.f_site_by ["parsed", "host"] []
  m__law_pool : mg "_law_pool" = some (.ref A.a__law_pool)
  F__law_pool : Fun K "_law_pool" "_law_pool" s__law_pool A.a__law_pool A.f__law_pool
  b__law_pool : Binds K A.f__law_pool ["_law_bag_here", "_law_longest"] []
  m__law_host : mg "_law_host" = some (.ref A.a__law_host)
  F__law_host : Fun K "_law_host" "_law_host" s__law_host A.a__law_host A.f__law_host
  b__law_host : Binds K A.f__law_host ["_law_bag_here", "_law_pool_here", "_law_most"] []
  m__law_row : mg "_law_row" = some (.ref A.a__law_row)
  F__law_row : Fun K "_law_row" "_law_row" s__law_row A.a__law_row A.f__law_row
  b__law_row : Binds K A.f__law_row ["_law_bag_here", "_law_pool_here"] []
  F_Table_init : Fun K "__init__" "Table.__init__" s_Table_init A.a_Table_init A.f_Table_init
  bs_Table_init : ∀ us rest : List Value, us.length = 1 → bindArgs A.f_Table_init ⟨us ++ rest, []⟩ = (newTuple rest >>= fun t => pure ((["self"] : List Str).zip us ++ [(("rows" : Str), t)]))
  m__law_rows : mg "_law_rows" = some (.ref A.a__law_rows)
  F__law_rows : Fun K "_law_rows" "_law_rows" s__law_rows A.a__law_rows A.f__law_rows
  b__law_rows : Binds K A.f__law_rows ["_law_bag_here", "_law_pool_here", "_law_most"] []
  F_Table_ending : Fun K "ending" "Table.ending" s_Table_ending A.a_Table_ending A.f_Table_ending
  b_Table_ending : Binds K A.f_Table_ending ["self", "host"] []
  F_Table_site : Fun K "site" "Table.site" s_Table_site A.a_Table_site A.f_Table_site
  b_Table_site : Binds K A.f_Table_site ["self", "host"] []
  m__law_table : mg "_law_table" = some (.ref A.a__law_table)
  F__law_table : Fun K "_law_table" "_law_table" s__law_table A.a__law_table A.f__law_table
  b__law_table : Binds K A.f__law_table ["_law_rows_here"] []
  F_Table_one_site : Fun K "one_site" "Table.one_site" s_Table_one_site A.a_Table_one_site A.f_Table_one_site
  b_Table_one_site : Binds K A.f_Table_one_site ["self", "one", "other"] []
  m__law_right : mg "_law_right" = some (.ref A.a__law_right)
  F__law_right : Fun K "_law_right" "_law_right" s__law_right A.a__law_right A.f__law_right
  b__law_right : Binds K A.f__law_right ["_law_table_here", "_law_rows_here", "_law_host_here", "_law_label_here"] []
  m_law : mg "law" = some (.ref A.a_law)
  F_law : Fun K "law" "law" s_law A.a_law A.f_law
  b_law : Binds K A.f_law ["_law_script"] []
  C_Table : ClsN K mg "Table" A.C_Table
  na_Table : ∀ f ∈ (["rows", "parsed"] : List Str), NoAttr K A.C_Table f
  M_Table : Mk K A.C_Table A.a_Table_init
  mt_Table_ending : Meth K A.C_Table "ending" A.a_Table_ending
  mt_Table_one_site : Meth K A.C_Table "one_site" A.a_Table_one_site
  mt_Table_site : Meth K A.C_Table "site" A.a_Table_site
  ln_Table : PySem.W.findIn K (.ref A.C_Table) "__len__" = some (some (.ref A.a_Table_len)) ∧ PySem.W.isFn K (.ref A.a_Table_len) = true
  eq_Table : PySem.W.findIn K (.ref A.C_Table) "__eq__" = some (some (.ref A.a_Table_eq)) ∧ PySem.W.isFn K (.ref A.a_Table_eq) = true ∧ (∀ T ∈ baseTys, PySem.W.notFirst K A.C_Table (.type T) = true) ∧ (∀ c' ∈ (["Table"] : List Str), ∀ C', mg c' = some (.ref C') → PySem.W.notFirst K A.C_Table (.ref C') = true) ∧ PySem.W.findIn K (.ref A.C_Table) "__ne__" = some (some (.builtin "object.__ne__"))
  is_Table : IsT K mg (.ref A.C_Table) [("Table", true)] noneOfB
  x_BadHost : PySem.OwnX.OwnTxt K mg "BadHost" "host" "BadHost.__init__" A.x_BadHost A.i_BadHost
  x_BadRow : PySem.OwnX.OwnTxt K mg "BadRow" "row" "BadRow.__init__" A.x_BadRow A.i_BadRow
  x_Twice : PySem.OwnX.OwnTxt K mg "Twice" "name" "Twice.__init__" A.x_Twice A.i_Twice
  z_abs : mg "abs" = none
  z_enumerate : mg "enumerate" = none
  z_int : mg "int" = none
  z_isinstance : mg "isinstance" = none
  z_len : mg "len" = none
  z_max : mg "max" = none
  z_min : mg "min" = none
  z_range : mg "range" = none
  z_str : mg "str" = none
  z_tuple : mg "tuple" = none
  c_CHARACTERS : GlobIs K mg "CHARACTERS" c_CHARACTERS
  c_EXCEPTION : GlobIs K mg "EXCEPTION" c_EXCEPTION
  c_LONGEST_LABEL : GlobIs K mg "LONGEST_LABEL" c_LONGEST_LABEL
  c_MOST_LABELS : GlobIs K mg "MOST_LABELS" c_MOST_LABELS
  c_MOST_LABELS_OF_ROW : GlobIs K mg "MOST_LABELS_OF_ROW" c_MOST_LABELS_OF_ROW
  c_MOST_ROWS : GlobIs K mg "MOST_ROWS" c_MOST_ROWS
  c_PLAIN : GlobIs K mg "PLAIN" c_PLAIN
  c_WILD : GlobIs K mg "WILD" c_WILD
section
variable {P : Program} {w : World} {K : PySem.W.Frag} {mg : Str → Option Value} {base : Heap} {A : Ad}
theorem fo_parsed (T : Txt K mg A) : FldOk K mg "parsed" ["Table"] := fun c hc => by
  simp only [List.mem_cons, List.not_mem_nil, or_false] at hc
  rcases hc with rfl
  · exact ⟨_, T.C_Table.mg, T.C_Table.cl, T.na_Table _ (by decide +kernel)⟩
theorem fo_rows (T : Txt K mg A) : FldOk K mg "rows" ["Table"] := fun c hc => by
  simp only [List.mem_cons, List.not_mem_nil, or_false] at hc
  rcases hc with rfl
  · exact ⟨_, T.C_Table.mg, T.C_Table.cl, T.na_Table _ (by decide +kernel)⟩
theorem g_is_label (T : Txt K mg A) : FnG P w K mg base 1 A.a_is_label A.f_is_label ["thing"] (spR K mg false 1 m_is_label_344b) := by
  refine fnR (nr := false) (k := 0) T.F_is_label sc_is_label rfl (by decide) (fun cdv Ar outer s H Hf E ds C hl => ?_)
  match ds, hl with
  | [a0], _ => exact ⟨b_is_label_344b a0, (dss_if (exA := fun (q7 : Unit) => [.im a0, .un]) (dw_or (dt_not (dt_tru (de_isi "str" (de_var 0) (by rfl) T.z_isinstance (by rfl) T.z_str rfl))) (dw_or1 (dt_not (dt_chain (od_le C.rm.units) (od_le C.rm.units) de_int (de_callB oc_len (by rfl) T.z_len rfl (da_cons (de_var 0) da_nil)) (de_globI (by rfl) T.c_LONGEST_LABEL))))).pt (dss_ret de_bl) (dss_nil (a := ()) (And.intro (Or.inl rfl) (And.intro (Or.inr rfl) (trivial)))) fun q7 => (dss_ret (de_not (de_frz (df_lc [("sign", 1)] C (di_any (de_var 0)) (blkOk_by (N := N_is_label) (sc := defScope s_is_label) (by decide +kernel)) (fun s H A cl fp => (pgd_name (C.blk _ _ _ _ _) 1)) (fun s H A cl fp C10 c11 => (pts_test (dt_cmp (od_notIn (hu65 C10.rm)) (de_var 1) (de_globI (by rfl) T.c_CHARACTERS) (by rfl)))) (fun s H A cl fp C10 c11 => (de_var 1)) (by decide)))))), rfl⟩
theorem g_ends_with (T : Txt K mg A) : FnG P w K mg base 1 A.a_ends_with A.f_ends_with ["host", "labels"] (spR K mg false 2 m_ends_with_d715) := by
  refine fnR (nr := false) (k := 0) T.F_ends_with sc_ends_with rfl (by decide) (fun cdv Ar outer s H Hf E ds C hl => ?_)
  match ds, hl with
  | [a0, a1], _ => exact ⟨b_ends_with_d715 a0 a1, (dss_ret (de_and (de_cmp (od_ge C.rm.units) (de_callB oc_len (by rfl) T.z_len rfl (da_cons (de_var 0) da_nil)) (de_callB oc_len (by rfl) T.z_len rfl (da_cons (de_var 1) da_nil)) (by rfl)) (de_one (de_cmp (od_eq C.rm.units) (de_sl (de_var 0) (do_some (de_op od_sub (de_callB oc_len (by rfl) T.z_len rfl (da_cons (de_var 0) da_nil)) (de_callB oc_len (by rfl) T.z_len rfl (da_cons (de_var 1) da_nil)))) do_none) (de_var 1) (by rfl))))), rfl⟩
theorem g__law_bag (T : Txt K mg A) : FnG P w K mg base 1 A.a__law_bag A.f__law_bag ["_law_script"] (spR K mg false 1 m__law_bag_d7b5) := by
  refine fnR (nr := false) (k := 0) T.F__law_bag sc__law_bag rfl (by decide) (fun cdv Ar outer s H Hf E ds C hl => ?_)
  match ds, hl with
  | [a0], _ => exact ⟨b__law_bag_d7b5 a0, (dss_asg C 1 de_int fun v1 => (dss_for (exl := fun (q3 : D) => [.im a0, .im q3, .un]) v1 C (di_any (de_var 0)) (pgd_name C 2) (And.intro (Or.inl rfl) (And.intro (Or.inl rfl) (And.intro (Or.inr rfl) (trivial)))) (fun q3 c4 => (dss_if (exA := fun (q10 : D) => [.im a0, .im q10, .im c4]) (dt_cmp (od_lt C.rm.units) (de_callB oc_abs (by rfl) T.z_abs rfl (da_cons (de_var 2) da_nil)) (de_op od_powC de_int de_int) (by rfl)) (dss_asg C 1 (de_op od_mod (de_callTy oc_int (by rfl) T.z_int rfl (da_cons (de_op od_add (de_op od_add (de_op od_mul (de_var 1) de_int) (de_op od_mul (de_var 2) de_int)) de_int) da_nil)) de_int) fun v11 => (dss_nil (a := v11) (And.intro (Or.inl rfl) (And.intro (Or.inl rfl) (And.intro (Or.inl rfl) (trivial)))))) (dss_nil (a := q3) (And.intro (Or.inl rfl) (And.intro (Or.inl rfl) (And.intro (Or.inl rfl) (trivial))))) fun q10 => (dss_nil (a := q10) (And.intro (Or.inl rfl) (And.intro (Or.inl rfl) (And.intro (Or.inr rfl) (trivial))))))) fun q26 => (dss_ret (de_frz (df_list (da_cons (de_frz (df_lc [("_law_cell", 2)] C (di_any (de_var 0)) (blkOk_by (N := N__law_bag) (sc := defScope s__law_bag) (by decide +kernel)) (fun s H A cl fp => (pgd_name (C.blk _ _ _ _ _) 2)) (fun s H A cl fp C28 c29 => (pts_test (dt_cmp (od_ge C28.rm.units) (de_callB oc_abs (by rfl) T.z_abs rfl (da_cons (de_var 2) da_nil)) (de_op od_powC de_int de_int) (by rfl)))) (fun s H A cl fp C28 c29 => (de_callB oc_abs (by rfl) T.z_abs rfl (da_cons (de_var 2) da_nil))) (by decide))) (da_cons (de_var 1) (da_cons de_int da_nil)))))))), rfl⟩
theorem g__law_take (T : Txt K mg A) : FnG P w K mg base 1 A.a__law_take A.f__law_take ["_law_bag_here", "_law_many"] (spM K mg false (1 + 1) m__law_take_bb49) := by
  refine fnM (nr := false) (k := 0) T.F__law_take sc__law_take rfl (by decide) (fun cdv Ar outer s H Hf bag E ds C hl => ?_)
  match ds, hl with
  | [a1], _ => exact ⟨b__law_take_bb49 a1, (dss_bagWhile C (dw_and (dt_bagNe C 0) (dw_and1 (dt_cmp (od_eq C.rm.units) (de_bagHd 0) de_int (by rfl)))).pt (dss_bagPop 0 (dss_nil (a := ()) (And.intro (Or.inl rfl) (And.intro (Or.inl rfl) (And.intro (Or.inr rfl) (And.intro (Or.inr rfl) (trivial))))))) (dss_if (exA := fun (q3 : Unit) => [.bg, .im a1, .un, .un]) (dt_bagNe C 0) (dss_asg C 3 (de_op od_mod (de_callTy oc_int (by rfl) T.z_int rfl (da_cons (de_bagHd 0) da_nil)) (de_var 1)) fun v4 => (dss_bagSetHd 0 (de_op od_fdiv (de_bagHd 0) (de_var 1)) (dss_ret (de_var 3)))) (dss_nil (a := ()) (And.intro (Or.inl rfl) (And.intro (Or.inl rfl) (And.intro (Or.inr rfl) (And.intro (Or.inr rfl) (trivial)))))) fun q3 => (dss_bagSetZ 0 (de_op od_add (de_bagZ 0) de_int) (dss_asg C 2 (de_op od_mod (de_callTy oc_int (by rfl) T.z_int rfl (da_cons (de_op od_powC (de_op od_add (de_bagY3 0) (de_op od_mul de_int (de_bagZ 0))) de_int) da_nil)) de_int) fun v19 => (dss_asg C 2 (de_op od_mod (de_callTy oc_int (by rfl) T.z_int rfl (da_cons (de_op od_powC (de_op od_add (de_var 2) (de_op od_mul de_int (de_bagZ 0))) de_int) da_nil)) de_int) fun v31 => (dss_ret (de_op od_mod (de_callTy oc_int (by rfl) T.z_int rfl (da_cons (de_op od_fdiv (de_var 2) de_int) da_nil)) (de_var 1)))))))), rfl⟩
theorem g__law_ends (T : Txt K mg A) : FnG P w K mg base 1 A.a__law_ends A.f__law_ends ["_law_host_here", "_law_labels"] (spR K mg false 2 m__law_ends_f9cd) := by
  refine fnR (nr := false) (k := 0) T.F__law_ends sc__law_ends rfl (by decide) (fun cdv Ar outer s H Hf E ds C hl => ?_)
  match ds, hl with
  | [a0, a1], _ => exact ⟨b__law_ends_f9cd a0 a1, (dss_ret (de_and (de_cmp (od_ge C.rm.units) (de_callB oc_len (by rfl) T.z_len rfl (da_cons (de_var 0) da_nil)) (de_callB oc_len (by rfl) T.z_len rfl (da_cons (de_var 1) da_nil)) (by rfl)) (de_one (de_cmp (od_eq C.rm.units) (de_sl (de_var 0) (do_some (de_op od_sub (de_callB oc_len (by rfl) T.z_len rfl (da_cons (de_var 0) da_nil)) (de_callB oc_len (by rfl) T.z_len rfl (da_cons (de_var 1) da_nil)))) do_none) (de_var 1) (by rfl))))), rfl⟩
theorem g_Table_len (T : Txt K mg A) : FnG P w K mg base 1 A.a_Table_len A.f_Table_len ["self"] (spR K mg false 1 m_Table_len_13ee) := by
  refine fnR (nr := false) (k := 0) T.F_Table_len sc_Table_len rfl (by decide) (fun cdv Ar outer s H Hf E ds C hl => ?_)
  match ds, hl with
  | [a0], _ => exact ⟨b_Table_len_13ee a0, (dss_ret (de_callB oc_len (by rfl) T.z_len rfl (da_cons (de_fld ["Table"] (de_var 0) (fo_rows T)) da_nil))), rfl⟩
theorem ln_all (T : Txt K mg A) : ∀ q ∈ ([("Table", m_Table_len_13ee)] : List (Str × (List D → R D))), DunC P w K mg base 1 1 "__len__" q.1 q.2 := fun q hq => by
  simp only [List.mem_cons, List.not_mem_nil, or_false] at hq
  rcases hq with rfl
  · exact ⟨_, _, T.C_Table, T.ln_Table.1, T.ln_Table.2, ((g_Table_len T).pos T.b_Table_len).mono (by decide)⟩
theorem g_Table_eq (T : Txt K mg A) : FnG P w K mg base 1 A.a_Table_eq A.f_Table_eq ["self", "other"] (spR K mg false 2 m_Table_eq_abda) := by
  refine fnR (nr := false) (k := 0) T.F_Table_eq sc_Table_eq rfl (by decide) (fun cdv Ar outer s H Hf E ds C hl => ?_)
  match ds, hl with
  | [a0, a1], _ => exact ⟨b_Table_eq_abda a0 a1, (dss_ret (de_and (de_isT (.own _) T.is_Table (de_var 1) (pe_own T.C_Table.mg) (by rfl) T.z_isinstance) (de_one (de_cmp (od_eq C.rm.units) (de_fld ["Table"] (de_var 0) (fo_rows T)) (de_fld ["Table"] (de_var 1) (fo_rows T)) (by rfl))))), rfl⟩
theorem eq_all (T : Txt K mg A) : ∀ q ∈ ([("Table", m_Table_eq_abda)] : List (Str × (List D → R D))), EqC P w K mg base 1 (([("Table", m_Table_eq_abda)] : List (Str × (List D → R D))).map Prod.fst) q.1 q.2 := fun q hq => by
  simp only [List.mem_cons, List.not_mem_nil, or_false] at hq
  rcases hq with rfl
  · exact ⟨_, _, T.C_Table, T.eq_Table.1, T.eq_Table.2.1, ((g_Table_eq T).pos T.b_Table_eq).mono (by decide), T.eq_Table.2.2.1, T.eq_Table.2.2.2.1, T.eq_Table.2.2.2.2⟩
theorem g_is_path (T : Txt K mg A) : FnG P w K mg base 2 A.a_is_path A.f_is_path ["thing"] (spR K mg false 1 m_is_path_08e1) := by
  refine fnR (nr := false) (k := 1) T.F_is_path sc_is_path rfl (by decide) (fun cdv Ar outer s H Hf E ds C hl => ?_)
  match ds, hl with
  | [a0], _ => exact ⟨b_is_path_08e1 a0, (dss_if (exA := fun (q8 : Unit) => [.im a0, .un]) (dw_or (dt_not (dt_tru (de_isi "tuple" (de_var 0) (by rfl) T.z_isinstance (by rfl) T.z_tuple rfl))) (dw_or1 (dt_cmp (od_gt C.rm.units) (de_callB oc_len (by rfl) T.z_len rfl (da_cons (de_var 0) da_nil)) (de_globI (by rfl) T.c_MOST_LABELS) (by rfl)))).pt (dss_ret de_bl) (dss_nil (a := ()) (And.intro (Or.inl rfl) (And.intro (Or.inr rfl) (trivial)))) fun q8 => (dss_ret (de_not (de_frz (df_lc [("label", 1)] C (di_any (de_var 0)) (blkOk_by (N := N_is_path) (sc := defScope s_is_path) (by decide +kernel)) (fun s H A cl fp => (pgd_name (C.blk _ _ _ _ _) 1)) (fun s H A cl fp C11 c12 => (pts_test (dt_not (dt_tru (de_fn C11 (g_is_label T) T.m_is_label T.F_is_label.kp T.b_is_label (da_cons (de_var 1) da_nil) n_is_label_344b))))) (fun s H A cl fp C11 c12 => (de_var 1)) (by decide)))))), rfl⟩
theorem g_parsed_row (T : Txt K mg A) : FnG P w K mg base 2 A.a_parsed_row A.f_parsed_row ["row"] (spR K mg false 1 m_parsed_row_b892) := by
  refine fnR (nr := false) (k := 1) T.F_parsed_row sc_parsed_row rfl (by decide) (fun cdv Ar outer s H Hf E ds C hl => ?_)
  match ds, hl with
  | [a0], _ => exact ⟨b_parsed_row_b892 a0, (dss_if (exA := fun (q3 : Unit) => [.im a0, .un, .un, .un, .un, .un, .un]) (dt_not (dt_tru (de_isi "str" (de_var 0) (by rfl) T.z_isinstance (by rfl) T.z_str rfl))) (dss_ret de_non) (dss_nil (a := ()) (And.intro (Or.inl rfl) (And.intro (Or.inr rfl) (And.intro (Or.inr rfl) (And.intro (Or.inr rfl) (And.intro (Or.inr rfl) (And.intro (Or.inr rfl) (And.intro (Or.inr rfl) (trivial))))))))) fun q3 => (dss_unp (pgd_tupN C 4 (.cons 2 (.cons 3 (.cons 4 (.cons 5 .nil))))) (de_tup (da_cons (de_globI (by rfl) T.c_PLAIN) (da_cons (de_var 0) (da_cons de_int (da_cons (de_globI (by rfl) T.c_MOST_LABELS_OF_ROW) da_nil))))) fun c6 => (dss_if (exA := fun (q20 : D × D × D × D) => [.im a0, .un, .im q20.1, .im q20.2.1, .im q20.2.2.1, .im q20.2.2.2, .un]) (dt_tru (de_starts (de_var 0) (de_str [33]))) (dss_par3 C 2 3 4 (de_globI (by rfl) T.c_EXCEPTION) (de_sl (de_var 0) (do_some de_int) do_none) de_int fun v27 v28 v29 => (dss_nil (a := (v27, v28, v29, (c6.getD 3 .non))) (And.intro (Or.inl rfl) (And.intro (Or.inr rfl) (And.intro (Or.inl rfl) (And.intro (Or.inl rfl) (And.intro (Or.inl rfl) (And.intro (Or.inl rfl) (And.intro (Or.inr rfl) (trivial)))))))))) (dss_if (exA := fun (q33 : D × D × D) => [.im a0, .un, .im q33.1, .im q33.2.1, .im (c6.getD 2 .non), .im q33.2.2, .un]) (dt_tru (de_starts (de_var 0) (de_str [42, 46]))) (dss_par3 C 2 3 5 (de_globI (by rfl) T.c_WILD) (de_sl (de_var 0) (do_some de_int) do_none) (de_op od_sub (de_globI (by rfl) T.c_MOST_LABELS_OF_ROW) de_int) fun v42 v43 v44 => (dss_nil (a := (v42, v43, v44)) (And.intro (Or.inl rfl) (And.intro (Or.inr rfl) (And.intro (Or.inl rfl) (And.intro (Or.inl rfl) (And.intro (Or.inl rfl) (And.intro (Or.inl rfl) (And.intro (Or.inr rfl) (trivial)))))))))) (dss_nil (a := ((c6.getD 0 .non), (c6.getD 1 .non), (c6.getD 3 .non))) (And.intro (Or.inl rfl) (And.intro (Or.inr rfl) (And.intro (Or.inl rfl) (And.intro (Or.inl rfl) (And.intro (Or.inl rfl) (And.intro (Or.inl rfl) (And.intro (Or.inr rfl) (trivial))))))))) fun q33 => (dss_nil (a := (q33.1, q33.2.1, (c6.getD 2 .non), q33.2.2)) (And.intro (Or.inl rfl) (And.intro (Or.inr rfl) (And.intro (Or.inl rfl) (And.intro (Or.inl rfl) (And.intro (Or.inl rfl) (And.intro (Or.inl rfl) (And.intro (Or.inr rfl) (trivial)))))))))) fun q20 => (dss_asg C 1 (de_callTy oc_tuple (by rfl) T.z_tuple rfl (da_cons (de_frz (df_split (de_var 3) (de_str [46]))) da_nil)) fun v46 => (dss_if (exA := fun (q65 : Unit) => [.im a0, .im v46, .im q20.1, .im q20.2.1, .im q20.2.2.1, .im q20.2.2.2, .un]) (dw_or (dt_not (dt_chain (od_le C.rm.units) (od_le C.rm.units) (de_var 4) (de_callB oc_len (by rfl) T.z_len rfl (da_cons (de_var 1) da_nil)) (de_var 5))) (dw_or1 (dt_tru (de_frz (df_lc [("label", 6)] C (di_any (de_var 1)) (blkOk_by (N := N_parsed_row) (sc := defScope s_parsed_row) (by decide +kernel)) (fun s H A cl fp => (pgd_name (C.blk _ _ _ _ _) 6)) (fun s H A cl fp C57 c58 => (pts_test (dt_not (dt_tru (de_fn C57 (g_is_label T) T.m_is_label T.F_is_label.kp T.b_is_label (da_cons (de_var 6) da_nil) n_is_label_344b))))) (fun s H A cl fp C57 c58 => (de_var 6)) (by decide)))))).pt (dss_ret de_non) (dss_nil (a := ()) (And.intro (Or.inl rfl) (And.intro (Or.inl rfl) (And.intro (Or.inl rfl) (And.intro (Or.inl rfl) (And.intro (Or.inl rfl) (And.intro (Or.inl rfl) (And.intro (Or.inr rfl) (trivial))))))))) fun q65 => (dss_ret (de_tup (da_cons (de_var 2) (da_cons (de_var 1) da_nil))))))))), rfl⟩
theorem g_ending_size (T : Txt K mg A) : FnG P w K mg base 2 A.a_ending_size A.f_ending_size ["parsed", "host"] (spR K mg false 2 m_ending_size_5148) := by
  refine fnR (nr := false) (k := 1) T.F_ending_size sc_ending_size rfl (by decide) (fun cdv Ar outer s H Hf E ds C hl => ?_)
  match ds, hl with
  | [a0, a1], _ => exact ⟨b_ending_size_5148 a0 a1, (dss_unp (pgd_tup2 C 2 3) (de_tup (da_cons de_int (da_cons de_int da_nil))) fun c2 => (dss_for (exl := fun (q10 : D × D) => [.im a0, .im a1, .im q10.1, .im q10.2, .un, .un]) (c2.1, c2.2) C (di_any (de_var 0)) (pgd_tup2 C 4 5) (And.intro (Or.inl rfl) (And.intro (Or.inl rfl) (And.intro (Or.inl rfl) (And.intro (Or.inl rfl) (And.intro (Or.inr rfl) (And.intro (Or.inr rfl) (trivial))))))) (fun q10 c11 => (dss_if (exA := fun (q18 : Unit) => [.im a0, .im a1, .im q10.1, .im q10.2, .im c11.1, .im c11.2]) (dt_not (dt_tru (de_fn C (g_ends_with T) T.m_ends_with T.F_ends_with.kp T.b_ends_with (da_cons (de_var 1) (da_cons (de_var 5) da_nil)) n_ends_with_d715))) (dss_cont (b := (q10.1, q10.2)) (And.intro (Or.inl rfl) (And.intro (Or.inl rfl) (And.intro (Or.inl rfl) (And.intro (Or.inl rfl) (And.intro (Or.inr rfl) (And.intro (Or.inr rfl) (trivial)))))))) (dss_nil (a := ()) (And.intro (Or.inl rfl) (And.intro (Or.inl rfl) (And.intro (Or.inl rfl) (And.intro (Or.inl rfl) (And.intro (Or.inl rfl) (And.intro (Or.inl rfl) (trivial)))))))) fun q18 => (dss_if (exA := fun (q21 : D × D) => [.im a0, .im a1, .im q21.1, .im q21.2, .im c11.1, .im c11.2]) (dt_cmp (od_eq C.rm.units) (de_var 4) (de_globI (by rfl) T.c_EXCEPTION) (by rfl)) (dss_asg C 3 (de_callB (oc_max C.calm) (by rfl) T.z_max rfl (da_cons (de_var 3) (da_cons (de_callB oc_len (by rfl) T.z_len rfl (da_cons (de_var 5) da_nil)) da_nil))) fun v22 => (dss_nil (a := (q10.1, v22)) (And.intro (Or.inl rfl) (And.intro (Or.inl rfl) (And.intro (Or.inl rfl) (And.intro (Or.inl rfl) (And.intro (Or.inl rfl) (And.intro (Or.inl rfl) (trivial))))))))) (dss_if (exA := fun (q33 : D) => [.im a0, .im a1, .im q33, .im q10.2, .im c11.1, .im c11.2]) (dt_cmp (od_eq C.rm.units) (de_var 4) (de_globI (by rfl) T.c_PLAIN) (by rfl)) (dss_asg C 2 (de_callB (oc_max C.calm) (by rfl) T.z_max rfl (da_cons (de_var 2) (da_cons (de_callB oc_len (by rfl) T.z_len rfl (da_cons (de_var 5) da_nil)) da_nil))) fun v34 => (dss_nil (a := v34) (And.intro (Or.inl rfl) (And.intro (Or.inl rfl) (And.intro (Or.inl rfl) (And.intro (Or.inl rfl) (And.intro (Or.inl rfl) (And.intro (Or.inl rfl) (trivial))))))))) (dss_if (exA := fun (q51 : D) => [.im a0, .im a1, .im q51, .im q10.2, .im c11.1, .im c11.2]) (dt_cmp (od_gt C.rm.units) (de_callB oc_len (by rfl) T.z_len rfl (da_cons (de_var 1) da_nil)) (de_callB oc_len (by rfl) T.z_len rfl (da_cons (de_var 5) da_nil)) (by rfl)) (dss_asg C 2 (de_callB (oc_max C.calm) (by rfl) T.z_max rfl (da_cons (de_var 2) (da_cons (de_op od_add (de_callB oc_len (by rfl) T.z_len rfl (da_cons (de_var 5) da_nil)) de_int) da_nil))) fun v52 => (dss_nil (a := v52) (And.intro (Or.inl rfl) (And.intro (Or.inl rfl) (And.intro (Or.inl rfl) (And.intro (Or.inl rfl) (And.intro (Or.inl rfl) (And.intro (Or.inl rfl) (trivial))))))))) (dss_nil (a := q10.1) (And.intro (Or.inl rfl) (And.intro (Or.inl rfl) (And.intro (Or.inl rfl) (And.intro (Or.inl rfl) (And.intro (Or.inl rfl) (And.intro (Or.inl rfl) (trivial)))))))) fun q51 => (dss_nil (a := q51) (And.intro (Or.inl rfl) (And.intro (Or.inl rfl) (And.intro (Or.inl rfl) (And.intro (Or.inl rfl) (And.intro (Or.inl rfl) (And.intro (Or.inl rfl) (trivial))))))))) fun q33 => (dss_nil (a := (q33, q10.2)) (And.intro (Or.inl rfl) (And.intro (Or.inl rfl) (And.intro (Or.inl rfl) (And.intro (Or.inl rfl) (And.intro (Or.inl rfl) (And.intro (Or.inl rfl) (trivial))))))))) fun q21 => (dss_nil (a := (q21.1, q21.2)) (And.intro (Or.inl rfl) (And.intro (Or.inl rfl) (And.intro (Or.inl rfl) (And.intro (Or.inl rfl) (And.intro (Or.inr rfl) (And.intro (Or.inr rfl) (trivial))))))))))) fun q67 => (dss_ret (de_ifExp (dt_cmp (od_gt C.rm.units) (de_var 3) de_int (by rfl)) (de_op od_sub (de_var 3) de_int) (de_var 2))))), rfl⟩
theorem g__law_of (T : Txt K mg A) : FnG P w K mg base 2 A.a__law_of A.f__law_of ["_law_bag_here", "_law_some"] (spM K mg false (1 + 1) m__law_of_8ba0) := by
  refine fnM (nr := false) (k := 1) T.F__law_of sc__law_of rfl (by decide) (fun cdv Ar outer s H Hf bag E ds C hl => ?_)
  match ds, hl with
  | [a1], _ => exact ⟨b__law_of_8ba0 a1, (dss_ret (de_ix (de_var 1) (de_fnM C 0 (g__law_take T) T.m__law_take T.F__law_take.kp T.b__law_take (da_cons (de_callB oc_len (by rfl) T.z_len rfl (da_cons (de_var 1) da_nil)) da_nil) n__law_take_bb49))), rfl⟩
theorem g__law_label (T : Txt K mg A) : FnG P w K mg base 2 A.a__law_label A.f__law_label ["_law_bag_here", "_law_most"] (spM K mg false (1 + 1) m__law_label_b886) := by
  refine fnM (nr := false) (k := 1) T.F__law_label sc__law_label rfl (by decide) (fun cdv Ar outer s H Hf bag E ds C hl => ?_)
  match ds, hl with
  | [a1], _ => exact ⟨b__law_label_b886 a1, (dss_asg C 2 (de_str [48, 49, 50, 51, 52, 53, 54, 55, 56, 57, 97, 98, 99, 100, 101, 102, 103, 104, 105, 106, 107, 108, 109, 110, 111, 112, 113, 114, 115, 116, 117, 118, 119, 120, 121, 122]) fun v1 => (dss_ret (de_join (de_str []) (de_frz (df_lc [("_law_k", 3)] C (di_range1 (by rfl) T.z_range (da_cons (de_op od_add de_int (de_fnM C 0 (g__law_take T) T.m__law_take T.F__law_take.kp T.b__law_take (da_cons (de_var 1) da_nil) n__law_take_bb49)) da_nil)) (blkOk_by (N := N__law_label) (sc := defScope s__law_label) (by decide +kernel)) (fun s H A cl fp => (pgd_name (C.blk _ _ _ _ _) 3)) (fun s H A cl fp C10 c11 => pts_true) (fun s H A cl fp C10 c11 => (de_ix (de_var 2) (de_fnM C10 0 (g__law_take T) T.m__law_take T.F__law_take.kp T.b__law_take (da_cons de_int da_nil) n__law_take_bb49))) (by decide)))))), rfl⟩
theorem g__law_matching (T : Txt K mg A) : FnG P w K mg base 2 A.a__law_matching A.f__law_matching ["_law_rows_here", "_law_host_here"] (spR K mg false 2 m__law_matching_5140) := by
  refine fnR (nr := false) (k := 1) T.F__law_matching sc__law_matching rfl (by decide) (fun cdv Ar outer s H Hf E ds C hl => ?_)
  match ds, hl with
  | [a0, a1], _ => exact ⟨b__law_matching_5140 a0 a1, (dss_asgOw C 2 (df_list da_nil) fun v1 => (pss_k (l__law_matching_5140_2 _ _ _) (dss_for (exl := fun (q4 : List D) => [.im a0, .im a1, .ow q4, .un, .un]) v1 C (di_any (de_var 0)) (pgd_name C 3) (And.intro (Or.inl rfl) (And.intro (Or.inl rfl) (And.intro (Or.inl rfl) (And.intro (Or.inr rfl) (And.intro (Or.inr rfl) (trivial)))))) (fun q4 c5 => (dss_asg C 4 (de_callTy oc_tuple (by rfl) T.z_tuple rfl (da_cons (de_frz (df_split (de_lstrip (de_var 3) (de_str [33])) (de_str [46]))) da_nil)) fun v6 => (pss_k (l__law_matching_5140_1 _ _ _ _) (dss_if (exA := fun (q37 : List D) => [.im a0, .im a1, .ow q37, .im c5, .im v6]) (dw_and (dt_cmp (od_eq C.rm.units) (de_ix (de_var 3) de_int) (de_str [42]) (by rfl)) (dw_and (dt_cmp (od_ge C.rm.units) (de_callB oc_len (by rfl) T.z_len rfl (da_cons (de_var 1) da_nil)) (de_callB oc_len (by rfl) T.z_len rfl (da_cons (de_var 4) da_nil)) (by rfl)) (dw_and1 (dt_tru (de_fn C (g__law_ends T) T.m__law_ends T.F__law_ends.kp T.b__law_ends (da_cons (de_var 1) (da_cons (de_sl (de_var 4) (do_some de_int) do_none) da_nil)) n__law_ends_f9cd))))).pt (dss_append 2 (de_var 3) fun v39 => (dss_nil (a := v39) (And.intro (Or.inl rfl) (And.intro (Or.inl rfl) (And.intro (Or.inl rfl) (And.intro (Or.inl rfl) (And.intro (Or.inl rfl) (trivial)))))))) (dss_nil (a := q4) (And.intro (Or.inl rfl) (And.intro (Or.inl rfl) (And.intro (Or.inl rfl) (And.intro (Or.inl rfl) (And.intro (Or.inl rfl) (trivial))))))) fun q37 => (pss_k (l__law_matching_5140_0 _ _ _ _) (dss_if (exA := fun (q50 : List D) => [.im a0, .im a1, .ow q50, .im c5, .im v6]) (dw_and (dt_cmp (od_ne C.rm.units) (de_ix (de_var 3) de_int) (de_str [42]) (by rfl)) (dw_and1 (dt_tru (de_fn C (g__law_ends T) T.m__law_ends T.F__law_ends.kp T.b__law_ends (da_cons (de_var 1) (da_cons (de_var 4) da_nil)) n__law_ends_f9cd)))).pt (dss_append 2 (de_var 3) fun v52 => (dss_nil (a := v52) (And.intro (Or.inl rfl) (And.intro (Or.inl rfl) (And.intro (Or.inl rfl) (And.intro (Or.inl rfl) (And.intro (Or.inl rfl) (trivial)))))))) (dss_nil (a := q37) (And.intro (Or.inl rfl) (And.intro (Or.inl rfl) (And.intro (Or.inl rfl) (And.intro (Or.inl rfl) (And.intro (Or.inl rfl) (trivial))))))) fun q50 => (dss_nil (a := q50) (And.intro (Or.inl rfl) (And.intro (Or.inl rfl) (And.intro (Or.inl rfl) (And.intro (Or.inr rfl) (And.intro (Or.inr rfl) (trivial))))))))))))) fun q55 => (dss_frz 2 rfl (dss_ret (de_var 2)))))), rfl⟩
theorem g_is_host (T : Txt K mg A) : FnG P w K mg base 3 A.a_is_host A.f_is_host ["thing"] (spR K mg false 1 m_is_host_45ba) := by
  refine fnR (nr := false) (k := 2) T.F_is_host sc_is_host rfl (by decide) (fun cdv Ar outer s H Hf E ds C hl => ?_)
  match ds, hl with
  | [a0], _ => exact ⟨b_is_host_45ba a0, (dss_ret (de_and (de_fn C (g_is_path T) T.m_is_path T.F_is_path.kp T.b_is_path (da_cons (de_var 0) da_nil) n_is_path_08e1) (de_one (de_cmp (od_gt C.rm.units) (de_callB oc_len (by rfl) T.z_len rfl (da_cons (de_var 0) da_nil)) de_int (by rfl))))), rfl⟩
theorem g_site_by (T : Txt K mg A) : FnG P w K mg base 3 A.a_site_by A.f_site_by ["parsed", "host"] (spR K mg false 2 m_site_by_dd2e) := by
  refine fnR (nr := false) (k := 2) T.F_site_by sc_site_by rfl (by decide) (fun cdv Ar outer s H Hf E ds C hl => ?_)
  match ds, hl with
  | [a0, a1], _ => exact ⟨b_site_by_dd2e a0 a1, (dss_asg C 2 (de_callB (oc_min C.calm) (by rfl) T.z_min rfl (da_cons (de_callB oc_len (by rfl) T.z_len rfl (da_cons (de_var 1) da_nil)) (da_cons (de_op od_add (de_fn C (g_ending_size T) T.m_ending_size T.F_ending_size.kp T.b_ending_size (da_cons (de_var 0) (da_cons (de_var 1) da_nil)) n_ending_size_5148) de_int) da_nil))) fun v1 => (dss_ret (de_sl (de_var 1) (do_some (de_op od_sub (de_callB oc_len (by rfl) T.z_len rfl (da_cons (de_var 1) da_nil)) (de_var 2))) do_none))), rfl⟩
theorem g__law_pool (T : Txt K mg A) : FnG P w K mg base 3 A.a__law_pool A.f__law_pool ["_law_bag_here", "_law_longest"] (spM K mg false (1 + 1) m__law_pool_b280) := by
  refine fnM (nr := false) (k := 2) T.F__law_pool sc__law_pool rfl (by decide) (fun cdv Ar outer s H Hf bag E ds C hl => ?_)
  match ds, hl with
  | [a1], _ => exact ⟨b__law_pool_b280 a1, (dss_asg C 2 (de_ifExp (dt_cmp (od_eq C.rm.units) (de_fnM C 0 (g__law_take T) T.m__law_take T.F__law_take.kp T.b__law_take (da_cons de_int da_nil) n__law_take_bb49) de_int (by rfl)) (de_var 1) de_int) fun v1 => (dss_ret (de_frz (df_lc [("_law_k", 3)] C (di_range1 (by rfl) T.z_range (da_cons (de_op od_add de_int (de_fnM C 0 (g__law_take T) T.m__law_take T.F__law_take.kp T.b__law_take (da_cons de_int da_nil) n__law_take_bb49)) da_nil)) (blkOk_by (N := N__law_pool) (sc := defScope s__law_pool) (by decide +kernel)) (fun s H A cl fp => (pgd_name (C.blk _ _ _ _ _) 3)) (fun s H A cl fp C15 c16 => pts_true) (fun s H A cl fp C15 c16 => (de_fnM C15 0 (g__law_label T) T.m__law_label T.F__law_label.kp T.b__law_label (da_cons (de_var 2) da_nil) n__law_label_b886)) (by decide))))), rfl⟩
theorem g__law_host (T : Txt K mg A) : FnG P w K mg base 3 A.a__law_host A.f__law_host ["_law_bag_here", "_law_pool_here", "_law_most"] (spM K mg false (2 + 1) m__law_host_9bb9) := by
  refine fnM (nr := false) (k := 2) T.F__law_host sc__law_host rfl (by decide) (fun cdv Ar outer s H Hf bag E ds C hl => ?_)
  match ds, hl with
  | [a1, a2], _ => exact ⟨b__law_host_9bb9 a1 a2, (dss_asgOw C 3 (df_list da_nil) fun v1 => (dss_for (exl := fun (q11 : List D) => [.bg, .im a1, .im a2, .ow q11, .un]) v1 C (di_range1 (by rfl) T.z_range (da_cons (de_op od_add de_int (de_fnM C 0 (g__law_take T) T.m__law_take T.F__law_take.kp T.b__law_take (da_cons (de_var 2) da_nil) n__law_take_bb49)) da_nil)) (pgd_name C 4) (And.intro (Or.inl rfl) (And.intro (Or.inl rfl) (And.intro (Or.inl rfl) (And.intro (Or.inl rfl) (And.intro (Or.inr rfl) (trivial)))))) (fun q11 c12 => (dss_append 3 (de_ifExp (dt_cmp (od_eq C.rm.units) (de_fnM C 0 (g__law_take T) T.m__law_take T.F__law_take.kp T.b__law_take (da_cons de_int da_nil) n__law_take_bb49) de_int (by rfl)) (de_fnM C 0 (g__law_label T) T.m__law_label T.F__law_label.kp T.b__law_label (da_cons de_int da_nil) n__law_label_b886) (de_fnM C 0 (g__law_of T) T.m__law_of T.F__law_of.kp T.b__law_of (da_cons (de_var 1) da_nil) n__law_of_8ba0)) fun v14 => (dss_nil (a := v14) (And.intro (Or.inl rfl) (And.intro (Or.inl rfl) (And.intro (Or.inl rfl) (And.intro (Or.inl rfl) (And.intro (Or.inr rfl) (trivial))))))))) fun q26 => (dss_frz 3 rfl (dss_ret (de_callTy oc_tuple (by rfl) T.z_tuple rfl (da_cons (de_var 3) da_nil)))))), rfl⟩
theorem g__law_row (T : Txt K mg A) : FnG P w K mg base 3 A.a__law_row A.f__law_row ["_law_bag_here", "_law_pool_here"] (spM K mg false (1 + 1) m__law_row_f25d) := by
  refine fnM (nr := false) (k := 2) T.F__law_row sc__law_row rfl (by decide) (fun cdv Ar outer s H Hf bag E ds C hl => ?_)
  match ds, hl with
  | [a1], _ => exact ⟨b__law_row_f25d a1, (dss_asg C 2 (de_fnM C 0 (g__law_of T) T.m__law_of T.F__law_of.kp T.b__law_of (da_cons (de_frz (df_list (da_cons (de_str []) (da_cons (de_str []) (da_cons (de_str [42, 46]) (da_cons (de_str [33]) da_nil)))))) da_nil) n__law_of_8ba0) fun v1 => (dss_asg C 3 (de_fnM C 0 (g__law_of T) T.m__law_of T.F__law_of.kp T.b__law_of (da_cons (de_dget C (de_disp (.cons [] (de_frz (df_list (da_cons de_int (da_cons de_int (da_cons de_int da_nil))))) (.cons [42, 46] (de_frz (df_list (da_cons de_int (da_cons de_int da_nil)))) (.cons [33] (de_frz (df_list (da_cons de_int (da_cons de_int da_nil)))) .nil)))) (de_var 2)) da_nil) n__law_of_8ba0) fun v14 => (dss_ret (de_op od_add (de_var 2) (de_join (de_str [46]) (de_frz (df_lc [("_law_k", 4)] C (di_range1 (by rfl) T.z_range (da_cons (de_var 3) da_nil)) (blkOk_by (N := N__law_row) (sc := defScope s__law_row) (by decide +kernel)) (fun s H A cl fp => (pgd_name (C.blk _ _ _ _ _) 4)) (fun s H A cl fp C47 c48 => pts_true) (fun s H A cl fp C47 c48 => (de_fnM C47 0 (g__law_of T) T.m__law_of T.F__law_of.kp T.b__law_of (da_cons (de_var 1) da_nil) n__law_of_8ba0)) (by decide)))))))), rfl⟩
theorem g_Table_init (T : Txt K mg A) : FnP P w K mg base 3 A.a_Table_init [] (spI K mg ["rows", "parsed"] (fun _ => True) (starD 0 m_Table_init_e784)) := by
  refine fnI_star (ps := ["self"]) (pv := "rows") (k := 2) (n := 0) T.F_Table_init sc_Table_init rfl (by decide) T.bs_Table_init (fun cdv Ar outer s H Hf E o ds C hl => ?_)
  match ds, hl with
  | [a1], _ => exact ⟨b_Table_init_e784 a1, (dss_for (exl := fun (q2 : Unit) => [.ob [] [], .im a1, .un, .un]) () C (di_any (de_var 1)) (pgd_name C 2) (And.intro (Or.inl rfl) (And.intro (Or.inl rfl) (And.intro (Or.inr rfl) (And.intro (Or.inr rfl) (trivial))))) (fun q2 c3 => (dss_if (exA := fun (q9 : Unit) => [.ob [] [], .im a1, .im c3, .un]) (dt_cmp od_is (de_fn C (g_parsed_row T) T.m_parsed_row T.F_parsed_row.kp T.b_parsed_row (da_cons (de_var 2) da_nil) n_parsed_row_b892) de_non (by rfl)) (dss_raise C T.x_BadRow (de_var 2)) (dss_nil (a := ()) (And.intro (Or.inl rfl) (And.intro (Or.inl rfl) (And.intro (Or.inl rfl) (And.intro (Or.inr rfl) (trivial)))))) fun q9 => (dss_nil (a := ()) (And.intro (Or.inl rfl) (And.intro (Or.inl rfl) (And.intro (Or.inr rfl) (And.intro (Or.inr rfl) (trivial)))))))) fun q12 => (dss_for (exl := fun (q16 : Unit) => [.ob [] [], .im a1, .un, .un]) () C (di_enumT (by rfl) T.z_enumerate (da_cons (de_var 1) da_nil)) (pgd_tup2 C 3 2) (And.intro (Or.inl rfl) (And.intro (Or.inl rfl) (And.intro (Or.inr rfl) (And.intro (Or.inr rfl) (trivial))))) (fun q16 c17 => (dss_if (exA := fun (q25 : Unit) => [.ob [] [], .im a1, .im c17.2, .im c17.1]) (dt_cmp (od_in (hu65 C.rm)) (de_var 2) (de_sl (de_var 1) do_none (do_some (de_var 3))) (by rfl)) (dss_raise C T.x_Twice (de_var 2)) (dss_nil (a := ()) (And.intro (Or.inl rfl) (And.intro (Or.inl rfl) (And.intro (Or.inl rfl) (And.intro (Or.inl rfl) (trivial)))))) fun q25 => (dss_nil (a := ()) (And.intro (Or.inl rfl) (And.intro (Or.inl rfl) (And.intro (Or.inr rfl) (And.intro (Or.inr rfl) (trivial)))))))) fun q28 => (dss_if (exA := fun (q34 : Unit) => [.ob [] [], .im a1, .un, .un]) (dt_cmp (od_gt C.rm.units) (de_callB oc_len (by rfl) T.z_len rfl (da_cons (de_var 1) da_nil)) (de_globI (by rfl) T.c_MOST_ROWS) (by rfl)) dss_stuck (dss_nil (a := ()) (And.intro (Or.inl rfl) (And.intro (Or.inl rfl) (And.intro (Or.inr rfl) (And.intro (Or.inr rfl) (trivial)))))) fun q34 => (dss_fld (ns := []) (ds := []) (f := "rows") 0 (de_callTy oc_tuple (by rfl) T.z_tuple rfl (da_cons (de_var 1) da_nil)) (fun v35 => (dss_fld (ns := ["rows"]) (ds := [v35]) (f := "parsed") 0 (de_callTy oc_tuple (by rfl) T.z_tuple rfl (da_cons (de_frz (df_lc [("row", 2)] C (di_any (de_var 1)) (blkOk_by (N := N_Table_init) (sc := defScope s_Table_init) (by decide +kernel)) (fun s H A cl fp => (pgd_name (C.blk _ _ _ _ _) 2)) (fun s H A cl fp C41 c42 => pts_true) (fun s H A cl fp C41 c42 => (de_fn C41 (g_parsed_row T) T.m_parsed_row T.F_parsed_row.kp T.b_parsed_row (da_cons (de_var 2) da_nil) n_parsed_row_b892)) (by decide))) da_nil)) (fun v39 => (dss_nil (a := [v35, v39]) (And.intro (Or.inl rfl) (And.intro (Or.inr rfl) (And.intro (Or.inr rfl) (And.intro (Or.inr rfl) (trivial))))))) (hm := (by decide +kernel : ("parsed" : Str) ∈ (["rows", "parsed"] : List Str))))) (hm := (by decide +kernel : ("rows" : Str) ∈ (["rows", "parsed"] : List Str))))))), rfl⟩
theorem g__law_rows (T : Txt K mg A) : FnG P w K mg base 4 A.a__law_rows A.f__law_rows ["_law_bag_here", "_law_pool_here", "_law_most"] (spM K mg false (2 + 1) m__law_rows_7d64) := by
  refine fnM (nr := false) (k := 3) T.F__law_rows sc__law_rows rfl (by decide) (fun cdv Ar outer s H Hf bag E ds C hl => ?_)
  match ds, hl with
  | [a1, a2], _ => exact ⟨b__law_rows_7d64 a1 a2, (dss_asgOw C 3 (df_list da_nil) fun v1 => (dss_for (exl := fun (q11 : List D) => [.bg, .im a1, .im a2, .ow q11, .un, .un]) v1 C (di_range1 (by rfl) T.z_range (da_cons (de_fnM C 0 (g__law_take T) T.m__law_take T.F__law_take.kp T.b__law_take (da_cons (de_op od_add (de_var 2) de_int) da_nil) n__law_take_bb49) da_nil)) (pgd_name C 4) (And.intro (Or.inl rfl) (And.intro (Or.inl rfl) (And.intro (Or.inl rfl) (And.intro (Or.inl rfl) (And.intro (Or.inr rfl) (And.intro (Or.inr rfl) (trivial))))))) (fun q11 c12 => (dss_asg C 5 (de_fnM C 0 (g__law_row T) T.m__law_row T.F__law_row.kp T.b__law_row (da_cons (de_var 1) da_nil) n__law_row_f25d) fun v13 => (dss_if (exA := fun (q20 : List D) => [.bg, .im a1, .im a2, .ow q20, .im c12, .im v13]) (dt_thaw 3 (dt_cmp (od_notIn (hu65 C.rm)) (de_var 5) (de_var 3) (by rfl))) (dss_append 3 (de_var 5) fun v22 => (dss_nil (a := v22) (And.intro (Or.inl rfl) (And.intro (Or.inl rfl) (And.intro (Or.inl rfl) (And.intro (Or.inl rfl) (And.intro (Or.inl rfl) (And.intro (Or.inl rfl) (trivial))))))))) (dss_nil (a := q11) (And.intro (Or.inl rfl) (And.intro (Or.inl rfl) (And.intro (Or.inl rfl) (And.intro (Or.inl rfl) (And.intro (Or.inl rfl) (And.intro (Or.inl rfl) (trivial)))))))) fun q20 => (dss_nil (a := q20) (And.intro (Or.inl rfl) (And.intro (Or.inl rfl) (And.intro (Or.inl rfl) (And.intro (Or.inl rfl) (And.intro (Or.inr rfl) (And.intro (Or.inr rfl) (trivial))))))))))) fun q24 => (dss_frz 3 rfl (dss_ret (de_var 3))))), rfl⟩
theorem g_Table_ending (T : Txt K mg A) : FnG P w K mg base 4 A.a_Table_ending A.f_Table_ending ["self", "host"] (spR K mg false 2 m_Table_ending_9165) := by
  refine fnR (nr := false) (k := 3) T.F_Table_ending sc_Table_ending rfl (by decide) (fun cdv Ar outer s H Hf E ds C hl => ?_)
  match ds, hl with
  | [a0, a1], _ => exact ⟨b_Table_ending_9165 a0 a1, (dss_if (exA := fun (q5 : Unit) => [.im a0, .im a1]) (dt_not (dt_tru (de_fn C (g_is_host T) T.m_is_host T.F_is_host.kp T.b_is_host (da_cons (de_var 1) da_nil) n_is_host_45ba))) (dss_raise C T.x_BadHost (de_var 1)) (dss_nil (a := ()) (And.intro (Or.inl rfl) (And.intro (Or.inl rfl) (trivial)))) fun q5 => (dss_ret (de_sl (de_var 1) (do_some (de_op od_sub (de_callB oc_len (by rfl) T.z_len rfl (da_cons (de_var 1) da_nil)) (de_fn C (g_ending_size T) T.m_ending_size T.F_ending_size.kp T.b_ending_size (da_cons (de_fld ["Table"] (de_var 0) (fo_parsed T)) (da_cons (de_var 1) da_nil)) n_ending_size_5148))) do_none))), rfl⟩
theorem mt_ending (T : Txt K mg A) : ∀ q ∈ ([("Table", m_Table_ending_9165)] : List (Str × (List D → R D))), MethG P w K mg base 4 "ending" [] q.1 q.2 := fun q hq => by
  simp only [List.mem_cons, List.not_mem_nil, or_false] at hq
  rcases hq with rfl
  · exact ⟨_, _, 2, T.C_Table.mg, T.C_Table.cl, T.mt_Table_ending, ((g_Table_ending T).pos T.b_Table_ending).mono (by decide), n_Table_ending_9165⟩
theorem g_Table_site (T : Txt K mg A) : FnG P w K mg base 4 A.a_Table_site A.f_Table_site ["self", "host"] (spR K mg false 2 m_Table_site_ff2c) := by
  refine fnR (nr := false) (k := 3) T.F_Table_site sc_Table_site rfl (by decide) (fun cdv Ar outer s H Hf E ds C hl => ?_)
  match ds, hl with
  | [a0, a1], _ => exact ⟨b_Table_site_ff2c a0 a1, (dss_if (exA := fun (q5 : Unit) => [.im a0, .im a1]) (dt_not (dt_tru (de_fn C (g_is_host T) T.m_is_host T.F_is_host.kp T.b_is_host (da_cons (de_var 1) da_nil) n_is_host_45ba))) (dss_raise C T.x_BadHost (de_var 1)) (dss_nil (a := ()) (And.intro (Or.inl rfl) (And.intro (Or.inl rfl) (trivial)))) fun q5 => (dss_ret (de_fn C (g_site_by T) T.m_site_by T.F_site_by.kp T.b_site_by (da_cons (de_fld ["Table"] (de_var 0) (fo_parsed T)) (da_cons (de_var 1) da_nil)) n_site_by_dd2e))), rfl⟩
theorem mt_site (T : Txt K mg A) : ∀ q ∈ ([("Table", m_Table_site_ff2c)] : List (Str × (List D → R D))), MethG P w K mg base 4 "site" [] q.1 q.2 := fun q hq => by
  simp only [List.mem_cons, List.not_mem_nil, or_false] at hq
  rcases hq with rfl
  · exact ⟨_, _, 2, T.C_Table.mg, T.C_Table.cl, T.mt_Table_site, ((g_Table_site T).pos T.b_Table_site).mono (by decide), n_Table_site_ff2c⟩
theorem g__law_table (T : Txt K mg A) : FnG P w K mg base 5 A.a__law_table A.f__law_table ["_law_rows_here"] (spR K mg false 1 m__law_table_9456) := by
  refine fnR (nr := false) (k := 4) T.F__law_table sc__law_table rfl (by decide) (fun cdv Ar outer s H Hf E ds C hl => ?_)
  match ds, hl with
  | [a0], _ => exact ⟨b__law_table_9456 a0, (dss_if (exA := fun (q6 : Unit) => [.im a0]) (dt_cmp (od_lt C.rm.units) (de_callB oc_len (by rfl) T.z_len rfl (da_cons (de_var 0) da_nil)) de_int (by rfl)) (dss_ret (de_ifExp (dt_cmp (od_eq C.rm.units) (de_var 0) (de_frz (df_list da_nil)) (by rfl)) (de_make C T.C_Table T.na_Table T.M_Table (g_Table_init T) da_nil (fun _ _ => trivial)) (de_ifExp (dt_cmp (od_eq C.rm.units) (de_callB oc_len (by rfl) T.z_len rfl (da_cons (de_var 0) da_nil)) de_int (by rfl)) (de_make C T.C_Table T.na_Table T.M_Table (g_Table_init T) (da_cons (de_ix (de_var 0) de_int) da_nil) (fun _ _ => trivial)) (de_make C T.C_Table T.na_Table T.M_Table (g_Table_init T) (da_cons (de_ix (de_var 0) de_int) (da_cons (de_ix (de_var 0) de_int) da_nil)) (fun _ _ => trivial))))) (dss_nil (a := ()) (And.intro (Or.inl rfl) (trivial))) fun q6 => (dss_if (exA := fun (q39 : Unit) => [.im a0]) (dt_cmp (od_eq C.rm.units) (de_callB oc_len (by rfl) T.z_len rfl (da_cons (de_var 0) da_nil)) de_int (by rfl)) (dss_ret (de_make C T.C_Table T.na_Table T.M_Table (g_Table_init T) (da_cons (de_ix (de_var 0) de_int) (da_cons (de_ix (de_var 0) de_int) (da_cons (de_ix (de_var 0) de_int) da_nil))) (fun _ _ => trivial))) (dss_nil (a := ()) (And.intro (Or.inl rfl) (trivial))) fun q39 => (dss_if (exA := fun (q60 : Unit) => [.im a0]) (dt_cmp (od_eq C.rm.units) (de_callB oc_len (by rfl) T.z_len rfl (da_cons (de_var 0) da_nil)) de_int (by rfl)) (dss_ret (de_make C T.C_Table T.na_Table T.M_Table (g_Table_init T) (da_cons (de_ix (de_var 0) de_int) (da_cons (de_ix (de_var 0) de_int) (da_cons (de_ix (de_var 0) de_int) (da_cons (de_ix (de_var 0) de_int) da_nil)))) (fun _ _ => trivial))) (dss_nil (a := ()) (And.intro (Or.inl rfl) (trivial))) fun q60 => (dss_if (exA := fun (q85 : Unit) => [.im a0]) (dt_cmp (od_eq C.rm.units) (de_callB oc_len (by rfl) T.z_len rfl (da_cons (de_var 0) da_nil)) de_int (by rfl)) (dss_ret (de_make C T.C_Table T.na_Table T.M_Table (g_Table_init T) (da_cons (de_ix (de_var 0) de_int) (da_cons (de_ix (de_var 0) de_int) (da_cons (de_ix (de_var 0) de_int) (da_cons (de_ix (de_var 0) de_int) (da_cons (de_ix (de_var 0) de_int) da_nil))))) (fun _ _ => trivial))) (dss_nil (a := ()) (And.intro (Or.inl rfl) (trivial))) fun q85 => (dss_if (exA := fun (q114 : Unit) => [.im a0]) (dt_cmp (od_eq C.rm.units) (de_callB oc_len (by rfl) T.z_len rfl (da_cons (de_var 0) da_nil)) de_int (by rfl)) (dss_ret (de_make C T.C_Table T.na_Table T.M_Table (g_Table_init T) (da_cons (de_ix (de_var 0) de_int) (da_cons (de_ix (de_var 0) de_int) (da_cons (de_ix (de_var 0) de_int) (da_cons (de_ix (de_var 0) de_int) (da_cons (de_ix (de_var 0) de_int) (da_cons (de_ix (de_var 0) de_int) da_nil)))))) (fun _ _ => trivial))) (dss_nil (a := ()) (And.intro (Or.inl rfl) (trivial))) fun q114 => (dss_if (exA := fun (q147 : Unit) => [.im a0]) (dt_cmp (od_eq C.rm.units) (de_callB oc_len (by rfl) T.z_len rfl (da_cons (de_var 0) da_nil)) de_int (by rfl)) (dss_ret (de_make C T.C_Table T.na_Table T.M_Table (g_Table_init T) (da_cons (de_ix (de_var 0) de_int) (da_cons (de_ix (de_var 0) de_int) (da_cons (de_ix (de_var 0) de_int) (da_cons (de_ix (de_var 0) de_int) (da_cons (de_ix (de_var 0) de_int) (da_cons (de_ix (de_var 0) de_int) (da_cons (de_ix (de_var 0) de_int) da_nil))))))) (fun _ _ => trivial))) (dss_nil (a := ()) (And.intro (Or.inl rfl) (trivial))) fun q147 => (dss_if (exA := fun (q184 : Unit) => [.im a0]) (dt_cmp (od_eq C.rm.units) (de_callB oc_len (by rfl) T.z_len rfl (da_cons (de_var 0) da_nil)) de_int (by rfl)) (dss_ret (de_make C T.C_Table T.na_Table T.M_Table (g_Table_init T) (da_cons (de_ix (de_var 0) de_int) (da_cons (de_ix (de_var 0) de_int) (da_cons (de_ix (de_var 0) de_int) (da_cons (de_ix (de_var 0) de_int) (da_cons (de_ix (de_var 0) de_int) (da_cons (de_ix (de_var 0) de_int) (da_cons (de_ix (de_var 0) de_int) (da_cons (de_ix (de_var 0) de_int) da_nil)))))))) (fun _ _ => trivial))) (dss_nil (a := ()) (And.intro (Or.inl rfl) (trivial))) fun q184 => (dss_ret (de_make C T.C_Table T.na_Table T.M_Table (g_Table_init T) (da_cons (de_ix (de_var 0) de_int) (da_cons (de_ix (de_var 0) de_int) (da_cons (de_ix (de_var 0) de_int) (da_cons (de_ix (de_var 0) de_int) (da_cons (de_ix (de_var 0) de_int) (da_cons (de_ix (de_var 0) de_int) (da_cons (de_ix (de_var 0) de_int) (da_cons (de_ix (de_var 0) de_int) (da_cons (de_ix (de_var 0) de_int) da_nil))))))))) (fun _ _ => trivial)))))))))), rfl⟩
theorem g_Table_one_site (T : Txt K mg A) : FnG P w K mg base 5 A.a_Table_one_site A.f_Table_one_site ["self", "one", "other"] (spR K mg false 3 m_Table_one_site_ffed) := by
  refine fnR (nr := false) (k := 4) T.F_Table_one_site sc_Table_one_site rfl (by decide) (fun cdv Ar outer s H Hf E ds C hl => ?_)
  match ds, hl with
  | [a0, a1, a2], _ => exact ⟨b_Table_one_site_ffed a0 a1 a2, (dss_ret (de_cmp (od_eq C.rm.units) (de_meth (L := [("Table", m_Table_site_ff2c)]) C (de_var 0) (mt_site T) (da_cons (de_var 1) da_nil)) (de_meth (L := [("Table", m_Table_site_ff2c)]) C (de_var 0) (mt_site T) (da_cons (de_var 2) da_nil)) (by rfl))), rfl⟩
theorem mt_one_site (T : Txt K mg A) : ∀ q ∈ ([("Table", m_Table_one_site_ffed)] : List (Str × (List D → R D))), MethG P w K mg base 5 "one_site" [] q.1 q.2 := fun q hq => by
  simp only [List.mem_cons, List.not_mem_nil, or_false] at hq
  rcases hq with rfl
  · exact ⟨_, _, 3, T.C_Table.mg, T.C_Table.cl, T.mt_Table_one_site, ((g_Table_one_site T).pos T.b_Table_one_site).mono (by decide), n_Table_one_site_ffed⟩
theorem g__law_right (T : Txt K mg A) : FnG P w K mg base 6 A.a__law_right A.f__law_right ["_law_table_here", "_law_rows_here", "_law_host_here", "_law_label_here"] (spR K mg false 4 m__law_right_0e22) := by
  refine fnR (nr := false) (k := 5) T.F__law_right sc__law_right rfl (by decide) (fun cdv Ar outer s H Hf E ds C hl => ?_)
  match ds, hl with
  | [a0, a1, a2, a3], _ => exact ⟨b__law_right_0e22 a0 a1 a2 a3, (pss_k (l__law_right_0e22_6 _ _ _ _) (dss_parEE C 5 6 (de_meth (L := [("Table", m_Table_ending_9165)]) C (de_var 0) (mt_ending T) (da_cons (de_var 2) da_nil)) (de_meth (L := [("Table", m_Table_site_ff2c)]) C (de_var 0) (mt_site T) (da_cons (de_var 2) da_nil)) fun v1 v2 => (pss_k (l__law_right_0e22_5 _ _ _ _ _ _) (dss_if (exA := fun (q15 : Unit) => [.im a0, .im a1, .im a2, .im a3, .un, .im v1, .im v2]) (dw_or (dt_not (dt_tru (de_isi "tuple" (de_var 5) (by rfl) T.z_isinstance (by rfl) T.z_tuple rfl))) (dw_or1 (dt_not (dt_tru (de_isi "tuple" (de_var 6) (by rfl) T.z_isinstance (by rfl) T.z_tuple rfl))))).pt (dss_ret de_bl) (dss_nil (a := ()) (And.intro (Or.inl rfl) (And.intro (Or.inl rfl) (And.intro (Or.inl rfl) (And.intro (Or.inl rfl) (And.intro (Or.inr rfl) (And.intro (Or.inl rfl) (And.intro (Or.inl rfl) (trivial))))))))) fun q15 => (pss_k (l__law_right_0e22_4 _ _ _ _ _ _) (dss_if (exA := fun (q33 : Unit) => [.im a0, .im a1, .im a2, .im a3, .un, .im v1, .im v2]) (dw_or (dt_cmp (od_eqO (L := [("Table", m_Table_eq_abda)]) (eq_all T) C.gd (C.rm.mono (by decide)) (od_eq C.rm.units)) (de_var 5) (de_tup da_nil) (by rfl)) (dw_or (dt_not (dt_tru (de_fn C (g__law_ends T) T.m__law_ends T.F__law_ends.kp T.b__law_ends (da_cons (de_var 2) (da_cons (de_var 6) da_nil)) n__law_ends_f9cd))) (dw_or1 (dt_not (dt_tru (de_fn C (g__law_ends T) T.m__law_ends T.F__law_ends.kp T.b__law_ends (da_cons (de_var 6) (da_cons (de_var 5) da_nil)) n__law_ends_f9cd)))))).pt (dss_ret de_bl) (dss_nil (a := ()) (And.intro (Or.inl rfl) (And.intro (Or.inl rfl) (And.intro (Or.inl rfl) (And.intro (Or.inl rfl) (And.intro (Or.inr rfl) (And.intro (Or.inl rfl) (And.intro (Or.inl rfl) (trivial))))))))) fun q33 => (pss_k (l__law_right_0e22_3 _ _ _ _ _ _) (dss_if (exA := fun (q53 : Unit) => [.im a0, .im a1, .im a2, .im a3, .un, .im v1, .im v2]) (dt_cmp (od_ne C.rm.units) (de_callB (oc_lenO (L := [("Table", m_Table_len_13ee)]) (ln_all T) C.gd (C.rm.mono (by decide))) (by rfl) T.z_len rfl (da_cons (de_var 6) da_nil)) (de_callB (oc_min C.calm) (by rfl) T.z_min rfl (da_cons (de_callB oc_len (by rfl) T.z_len rfl (da_cons (de_var 2) da_nil)) (da_cons (de_op od_add (de_callB (oc_lenO (L := [("Table", m_Table_len_13ee)]) (ln_all T) C.gd (C.rm.mono (by decide))) (by rfl) T.z_len rfl (da_cons (de_var 5) da_nil)) de_int) da_nil))) (by rfl)) (dss_ret de_bl) (dss_nil (a := ()) (And.intro (Or.inl rfl) (And.intro (Or.inl rfl) (And.intro (Or.inl rfl) (And.intro (Or.inl rfl) (And.intro (Or.inr rfl) (And.intro (Or.inl rfl) (And.intro (Or.inl rfl) (trivial))))))))) fun q53 => (pss_k (l__law_right_0e22_2 _ _ _ _ _ _) (dss_if (exA := fun (q81 : Unit) => [.im a0, .im a1, .im a2, .im a3, .un, .im v1, .im v2]) (dw_or (dt_cmp (od_neO (L := [("Table", m_Table_eq_abda)]) (eq_all T) C.gd (C.rm.mono (by decide)) (od_ne C.rm.units)) (de_meth (L := [("Table", m_Table_site_ff2c)]) C (de_var 0) (mt_site T) (da_cons (de_var 6) da_nil)) (de_var 6) (by rfl)) (dw_or (dt_cmp od_isNot (de_meth (L := [("Table", m_Table_one_site_ffed)]) C (de_var 0) (mt_one_site T) (da_cons (de_var 2) (da_cons (de_var 6) da_nil))) de_bl (by rfl)) (dw_or1 (dt_cmp (od_neO (L := [("Table", m_Table_eq_abda)]) (eq_all T) C.gd (C.rm.mono (by decide)) (od_ne C.rm.units)) (de_meth (L := [("Table", m_Table_site_ff2c)]) C (de_var 0) (mt_site T) (da_cons (de_sl (de_var 2) (do_some (de_neg de_int)) do_none) da_nil)) (de_var 6) (by rfl))))).pt (dss_ret de_bl) (dss_nil (a := ()) (And.intro (Or.inl rfl) (And.intro (Or.inl rfl) (And.intro (Or.inl rfl) (And.intro (Or.inl rfl) (And.intro (Or.inr rfl) (And.intro (Or.inl rfl) (And.intro (Or.inl rfl) (trivial))))))))) fun q81 => (pss_k (l__law_right_0e22_1 _ _ _ _ _ _) (dss_if (exA := fun (q100 : Unit) => [.im a0, .im a1, .im a2, .im a3, .un, .im v1, .im v2]) (dw_and (dt_cmp (od_gt C.rm.units) (de_callB oc_len (by rfl) T.z_len rfl (da_cons (de_var 2) da_nil)) de_int (by rfl)) (dw_and1 (dt_cmp (od_neO (L := [("Table", m_Table_eq_abda)]) (eq_all T) C.gd (C.rm.mono (by decide)) (od_ne C.rm.units)) (de_meth (L := [("Table", m_Table_site_ff2c)]) C (de_var 0) (mt_site T) (da_cons (de_op od_add (de_tup (da_cons (de_var 3) da_nil)) (de_var 2)) da_nil)) (de_var 6) (by rfl)))).pt (dss_ret de_bl) (dss_nil (a := ()) (And.intro (Or.inl rfl) (And.intro (Or.inl rfl) (And.intro (Or.inl rfl) (And.intro (Or.inl rfl) (And.intro (Or.inr rfl) (And.intro (Or.inl rfl) (And.intro (Or.inl rfl) (trivial))))))))) fun q100 => (dss_asg C 4 (de_fn C (g__law_table T) T.m__law_table T.F__law_table.kp T.b__law_table (da_cons (de_fn C (g__law_matching T) T.m__law_matching T.F__law_matching.kp T.b__law_matching (da_cons (de_var 1) (da_cons (de_var 2) da_nil)) n__law_matching_5140) da_nil) n__law_table_9456) fun v102 => (pss_k (l__law_right_0e22_0 _ _ _) (dss_ret (de_and (de_cmp (od_eqO (L := [("Table", m_Table_eq_abda)]) (eq_all T) C.gd (C.rm.mono (by decide)) (od_eq C.rm.units)) (de_meth (L := [("Table", m_Table_ending_9165)]) C (de_var 4) (mt_ending T) (da_cons (de_var 2) da_nil)) (de_var 5) (by rfl)) (de_one (de_cmp (od_eq C.rm.units) (de_meth (L := [("Table", m_Table_ending_9165)]) C (de_make C T.C_Table T.na_Table T.M_Table (g_Table_init T) da_nil (fun _ _ => trivial)) (mt_ending T) (da_cons (de_var 2) da_nil)) (de_sl (de_var 2) (do_some (de_neg de_int)) do_none) (by rfl))))))))))))))))))), rfl⟩
theorem g_law (T : Txt K mg A) : FnG P w K mg base 7 A.a_law A.f_law ["_law_script"] (spR K mg false 1 m_law_8aba) := by
  refine fnR (nr := false) (k := 6) T.F_law sc_law rfl (by decide) (fun cdv Ar outer s H Hf E ds C hl => ?_)
  match ds, hl with
  | [a0], _ => exact ⟨b_law_8aba a0, (dss_bagW C 1 0 (g__law_bag T) T.m__law_bag T.F__law_bag.kp T.b__law_bag (fun L3 C4 => (pss_k (l_law_8aba_2) (dss_asg C4 2 (de_fnM C4 1 (g__law_pool T) T.m__law_pool T.F__law_pool.kp T.b__law_pool (da_cons de_int da_nil) n__law_pool_b280) fun v5 => (dss_asg C4 3 (de_fnM C4 1 (g__law_rows T) T.m__law_rows T.F__law_rows.kp T.b__law_rows (da_cons (de_var 2) (da_cons de_int da_nil)) n__law_rows_7d64) fun v9 => (dss_asg C4 4 (de_fn C4 (g__law_table T) T.m__law_table T.F__law_table.kp T.b__law_table (da_cons (de_var 3) da_nil) n__law_table_9456) fun v15 => (pss_k (l_law_8aba_1 _ _ _) (dss_for (exl := fun (q22 : Unit) => [.im a0, .bg, .im v5, .im v9, .im v15, .un, .un, .un]) () C4 (di_range1 (by rfl) T.z_range (da_cons de_int da_nil)) (pgd_name C4 5) (And.intro (Or.inl rfl) (And.intro (Or.inl rfl) (And.intro (Or.inl rfl) (And.intro (Or.inl rfl) (And.intro (Or.inl rfl) (And.intro (Or.inr rfl) (And.intro (Or.inr rfl) (And.intro (Or.inr rfl) (trivial))))))))) (fun q22 c23 => (dss_parEE C4 6 7 (de_fnM C4 1 (g__law_host T) T.m__law_host T.F__law_host.kp T.b__law_host (da_cons (de_var 2) (da_cons de_int da_nil)) n__law_host_9bb9) (de_fnM C4 1 (g__law_of T) T.m__law_of T.F__law_of.kp T.b__law_of (da_cons (de_var 2) da_nil) n__law_of_8ba0) fun v24 v25 => (pss_k (l_law_8aba_0 _ _ _ _) (dss_if (exA := fun (q44 : Unit) => [.im a0, .bg, .im v5, .im v9, .im v15, .im c23, .im v24, .im v25]) (dt_not (dt_tru (de_fn C4 (g__law_right T) T.m__law_right T.F__law_right.kp T.b__law_right (da_cons (de_var 4) (da_cons (de_var 3) (da_cons (de_var 6) (da_cons (de_var 7) da_nil)))) n__law_right_0e22))) (dss_ret de_bl) (dss_nil (a := ()) (And.intro (Or.inl rfl) (And.intro (Or.inl rfl) (And.intro (Or.inl rfl) (And.intro (Or.inl rfl) (And.intro (Or.inl rfl) (And.intro (Or.inl rfl) (And.intro (Or.inl rfl) (And.intro (Or.inl rfl) (trivial)))))))))) fun q44 => (dss_nil (a := ()) (And.intro (Or.inl rfl) (And.intro (Or.inl rfl) (And.intro (Or.inl rfl) (And.intro (Or.inl rfl) (And.intro (Or.inl rfl) (And.intro (Or.inr rfl) (And.intro (Or.inr rfl) (And.intro (Or.inr rfl) (trivial)))))))))))))) fun q47 => (dss_ret de_bl)))))))) (fun _ => rfl) (fun _ => by first | rfl | contradiction)), rfl⟩
end
theorem all_mk {l : PySem.W.OpenLaw} {w : World} {K : PySem.W.Frag} {h : Heap} {mg : Str → Option Value} {fa : Addr} (X : K.In h) (G : h.Ns mainGlobals mg) (hfa : mg "law" = some (.ref fa))
    {od0 an0 : Option Addr} {sl0 : Array (Option Value)} {oc0 kV0 dc0 pm0 cd0 ct0 : Value} {f0 : Addr}
    {od1 an1 : Option Addr} {sl1 : Array (Option Value)} {oc1 kV1 dc1 pm1 cd1 ct1 : Value} {f1 : Addr}
    {od2 an2 : Option Addr} {sl2 : Array (Option Value)} {oc2 kV2 dc2 pm2 cd2 ct2 : Value} {f2 : Addr}
    {od3 an3 : Option Addr} {sl3 : Array (Option Value)} {oc3 kV3 dc3 pm3 cd3 ct3 : Value} {f3 : Addr}
    {od4 an4 : Option Addr} {sl4 : Array (Option Value)} {oc4 kV4 dc4 pm4 cd4 ct4 : Value} {f4 : Addr}
    {od5 an5 : Option Addr} {sl5 : Array (Option Value)} {oc5 kV5 dc5 pm5 cd5 ct5 : Value} {f5 : Addr}
    {od6 an6 : Option Addr} {sl6 : Array (Option Value)} {oc6 kV6 dc6 pm6 cd6 ct6 : Value} {f6 : Addr}
    {od7 an7 : Option Addr} {sl7 : Array (Option Value)} {oc7 kV7 dc7 pm7 cd7 ct7 : Value} {f7 : Addr}
    {od8 an8 : Option Addr} {sl8 : Array (Option Value)} {oc8 kV8 dc8 pm8 cd8 ct8 : Value} {f8 : Addr}
    {od9 an9 : Option Addr} {sl9 : Array (Option Value)} {oc9 kV9 dc9 pm9 cd9 ct9 : Value} {f9 : Addr}
    {od10 an10 : Option Addr} {sl10 : Array (Option Value)} {oc10 kV10 dc10 pm10 cd10 ct10 : Value} {f10 : Addr}
    {od11 an11 : Option Addr} {sl11 : Array (Option Value)} {oc11 kV11 dc11 pm11 cd11 ct11 : Value} {f11 : Addr}
    {od12 an12 : Option Addr} {sl12 : Array (Option Value)} {oc12 kV12 dc12 pm12 cd12 ct12 : Value} {f12 : Addr}
    {od13 an13 : Option Addr} {sl13 : Array (Option Value)} {oc13 kV13 dc13 pm13 cd13 ct13 : Value} {f13 : Addr}
    {od14 an14 : Option Addr} {sl14 : Array (Option Value)} {oc14 kV14 dc14 pm14 cd14 ct14 : Value} {f14 : Addr}
    {od15 an15 : Option Addr} {sl15 : Array (Option Value)} {oc15 kV15 dc15 pm15 cd15 ct15 : Value} {f15 : Addr}
    {od16 an16 : Option Addr} {sl16 : Array (Option Value)} {oc16 kV16 dc16 pm16 cd16 ct16 : Value} {f16 : Addr}
    {od17 an17 : Option Addr} {sl17 : Array (Option Value)} {oc17 kV17 dc17 pm17 cd17 ct17 : Value} {f17 : Addr}
    {od18 an18 : Option Addr} {sl18 : Array (Option Value)} {oc18 kV18 dc18 pm18 cd18 ct18 : Value} {f18 : Addr}
    {od19 an19 : Option Addr} {sl19 : Array (Option Value)} {oc19 kV19 dc19 pm19 cd19 ct19 : Value} {f19 : Addr}
    {od20 an20 : Option Addr} {sl20 : Array (Option Value)} {oc20 kV20 dc20 pm20 cd20 ct20 : Value} {f20 : Addr}
    {od21 an21 : Option Addr} {sl21 : Array (Option Value)} {oc21 kV21 dc21 pm21 cd21 ct21 : Value} {f21 : Addr}
    {od22 an22 : Option Addr} {sl22 : Array (Option Value)} {oc22 kV22 dc22 pm22 cd22 ct22 : Value} {f22 : Addr}
    {od23 an23 : Option Addr} {sl23 : Array (Option Value)} {oc23 kV23 dc23 pm23 cd23 ct23 : Value} {f23 : Addr}
    {od24 an24 : Option Addr} {sl24 : Array (Option Value)} {oc24 kV24 dc24 pm24 cd24 ct24 : Value} {f24 : Addr}
    {od25 an25 : Option Addr} {sl25 : Array (Option Value)} {oc25 kV25 dc25 pm25 cd25 ct25 : Value} {f25 : Addr}
    {K_Table : Addr} (aC_Table : PySem.W.nsIn K mainGlobals "Table" = some (some (.ref K_Table))) (pg_Table : PySem.W.plainGet K K_Table Str.empty = true) (hd_Table : PySem.W.hasDictIn K K_Table = true) (po_Table : PySem.W.plainOver K K_Table = true) (sa_Table : PySem.W.findIn K (.ref K_Table) "__setattr__" = some (some (.builtin "object.__setattr__")))
    (ca_Table : PySem.W.findIn K (.ref K_Table) "__class__" = some (some (.builtin "object.__class__"))) (cn_Table : PySem.W.specialIn K (.builtin "object.__class__") "__get__" = some (some (.builtin "getset_descriptor.__get__"))) (ct_Table : PySem.W.takesIn K (.builtin "object.__class__") = some true) (cm_Table : PySem.W.mroIn K K_Table (.type "object") = some true)
    (nf_Table_rows : PySem.W.findIn K (.ref K_Table) "rows" = some none)
    (nf_Table_parsed : PySem.W.findIn K (.ref K_Table) "parsed" = some none)
    (mk_Table : PySem.W.makesIn K K_Table = true) (kc_Table : PySem.W.keepIn K (.ref K_Table) = true) (ai_Table : PySem.W.findIn K (.ref K_Table) "__init__" = some (some (.ref f18))) (fi_Table : PySem.W.isFn K (.ref f18) = true)
    (mt_Table_ending : PySem.W.findIn K (.ref K_Table) "ending" = some (some (.ref f20))) (mf_Table_ending : PySem.W.isFn K (.ref f20) = true)
    (mt_Table_one_site : PySem.W.findIn K (.ref K_Table) "one_site" = some (some (.ref f23))) (mf_Table_one_site : PySem.W.isFn K (.ref f23) = true)
    (mt_Table_site : PySem.W.findIn K (.ref K_Table) "site" = some (some (.ref f21))) (mf_Table_site : PySem.W.isFn K (.ref f21) = true)
    (nl_Table : PySem.W.findIn K (.ref K_Table) "__len__" = some (some (.ref f5))) (nm_Table_len : PySem.W.isFn K (.ref f5) = true)
    (qe_Table : PySem.W.findIn K (.ref K_Table) "__eq__" = some (some (.ref f6))) (qf_Table : PySem.W.isFn K (.ref f6) = true) (qn_Table : PySem.W.findIn K (.ref K_Table) "__ne__" = some (some (.builtin "object.__ne__")))
    (qb_Table_NoneType : PySem.W.notFirst K K_Table (.type "NoneType") = true)
    (qb_Table_bool : PySem.W.notFirst K K_Table (.type "bool") = true)
    (qb_Table_int : PySem.W.notFirst K K_Table (.type "int") = true)
    (qb_Table_str : PySem.W.notFirst K K_Table (.type "str") = true)
    (qb_Table_tuple : PySem.W.notFirst K K_Table (.type "tuple") = true)
    (qb_Table_list : PySem.W.notFirst K K_Table (.type "list") = true)
    (qb_Table_dict : PySem.W.notFirst K K_Table (.type "dict") = true)
    (qo_Table_Table : PySem.W.notFirst K K_Table (.ref K_Table) = true)
    (ic_Table : PySem.W.isClsIn K K_Table = true) (tc_Table : PySem.W.typeIn K (.ref K_Table) = some (.type "type"))
    (sC_Table_Table : PySem.W.subIn K (.ref K_Table) (.ref K_Table) = some true)
    (sb_Table_NoneType : PySem.W.subIn K (.type "NoneType") (.ref K_Table) = some false)
    (sb_Table_bool : PySem.W.subIn K (.type "bool") (.ref K_Table) = some false)
    (sb_Table_int : PySem.W.subIn K (.type "int") (.ref K_Table) = some false)
    (sb_Table_str : PySem.W.subIn K (.type "str") (.ref K_Table) = some false)
    (sb_Table_tuple : PySem.W.subIn K (.type "tuple") (.ref K_Table) = some false)
    (sb_Table_list : PySem.W.subIn K (.type "list") (.ref K_Table) = some false)
    (sb_Table_dict : PySem.W.subIn K (.type "dict") (.ref K_Table) = some false)
    (a0 : PySem.W.nsIn K mainGlobals "is_label" = some (some (.ref f0)))
    (l0 : K.lookup f0 = some ⟨oc0, od0, .func (PySem.W.fnOf "is_label" "is_label" (defArgs s_is_label) (defBody s_is_label) (defScope s_is_label) .none kV0 dc0 pm0 an0 cd0 ct0), sl0⟩) (c0 : PySem.W.codeIn K cd0 "is_label" = true) (k0 : PySem.W.keepIn K (.ref f0) = true)
    (a1 : PySem.W.nsIn K mainGlobals "ends_with" = some (some (.ref f1)))
    (l1 : K.lookup f1 = some ⟨oc1, od1, .func (PySem.W.fnOf "ends_with" "ends_with" (defArgs s_ends_with) (defBody s_ends_with) (defScope s_ends_with) .none kV1 dc1 pm1 an1 cd1 ct1), sl1⟩) (c1 : PySem.W.codeIn K cd1 "ends_with" = true) (k1 : PySem.W.keepIn K (.ref f1) = true)
    (a2 : PySem.W.nsIn K mainGlobals "_law_bag" = some (some (.ref f2)))
    (l2 : K.lookup f2 = some ⟨oc2, od2, .func (PySem.W.fnOf "_law_bag" "_law_bag" (defArgs s__law_bag) (defBody s__law_bag) (defScope s__law_bag) .none kV2 dc2 pm2 an2 cd2 ct2), sl2⟩) (c2 : PySem.W.codeIn K cd2 "_law_bag" = true) (k2 : PySem.W.keepIn K (.ref f2) = true)
    (a3 : PySem.W.nsIn K mainGlobals "_law_take" = some (some (.ref f3)))
    (l3 : K.lookup f3 = some ⟨oc3, od3, .func (PySem.W.fnOf "_law_take" "_law_take" (defArgs s__law_take) (defBody s__law_take) (defScope s__law_take) .none kV3 dc3 pm3 an3 cd3 ct3), sl3⟩) (c3 : PySem.W.codeIn K cd3 "_law_take" = true) (k3 : PySem.W.keepIn K (.ref f3) = true)
    (a4 : PySem.W.nsIn K mainGlobals "_law_ends" = some (some (.ref f4)))
    (l4 : K.lookup f4 = some ⟨oc4, od4, .func (PySem.W.fnOf "_law_ends" "_law_ends" (defArgs s__law_ends) (defBody s__law_ends) (defScope s__law_ends) .none kV4 dc4 pm4 an4 cd4 ct4), sl4⟩) (c4 : PySem.W.codeIn K cd4 "_law_ends" = true) (k4 : PySem.W.keepIn K (.ref f4) = true)
    (l5 : K.lookup f5 = some ⟨oc5, od5, .func (PySem.W.fnOf "__len__" "Table.__len__" (defArgs s_Table_len) (defBody s_Table_len) (defScope s_Table_len) .none kV5 dc5 pm5 an5 cd5 ct5), sl5⟩) (c5 : PySem.W.codeIn K cd5 "Table.__len__" = true) (k5 : PySem.W.keepIn K (.ref f5) = true)
    (l6 : K.lookup f6 = some ⟨oc6, od6, .func (PySem.W.fnOf "__eq__" "Table.__eq__" (defArgs s_Table_eq) (defBody s_Table_eq) (defScope s_Table_eq) .none kV6 dc6 pm6 an6 cd6 ct6), sl6⟩) (c6 : PySem.W.codeIn K cd6 "Table.__eq__" = true) (k6 : PySem.W.keepIn K (.ref f6) = true)
    (a7 : PySem.W.nsIn K mainGlobals "is_path" = some (some (.ref f7)))
    (l7 : K.lookup f7 = some ⟨oc7, od7, .func (PySem.W.fnOf "is_path" "is_path" (defArgs s_is_path) (defBody s_is_path) (defScope s_is_path) .none kV7 dc7 pm7 an7 cd7 ct7), sl7⟩) (c7 : PySem.W.codeIn K cd7 "is_path" = true) (k7 : PySem.W.keepIn K (.ref f7) = true)
    (a8 : PySem.W.nsIn K mainGlobals "parsed_row" = some (some (.ref f8)))
    (l8 : K.lookup f8 = some ⟨oc8, od8, .func (PySem.W.fnOf "parsed_row" "parsed_row" (defArgs s_parsed_row) (defBody s_parsed_row) (defScope s_parsed_row) .none kV8 dc8 pm8 an8 cd8 ct8), sl8⟩) (c8 : PySem.W.codeIn K cd8 "parsed_row" = true) (k8 : PySem.W.keepIn K (.ref f8) = true)
    (a9 : PySem.W.nsIn K mainGlobals "ending_size" = some (some (.ref f9)))
    (l9 : K.lookup f9 = some ⟨oc9, od9, .func (PySem.W.fnOf "ending_size" "ending_size" (defArgs s_ending_size) (defBody s_ending_size) (defScope s_ending_size) .none kV9 dc9 pm9 an9 cd9 ct9), sl9⟩) (c9 : PySem.W.codeIn K cd9 "ending_size" = true) (k9 : PySem.W.keepIn K (.ref f9) = true)
    (a10 : PySem.W.nsIn K mainGlobals "_law_of" = some (some (.ref f10)))
    (l10 : K.lookup f10 = some ⟨oc10, od10, .func (PySem.W.fnOf "_law_of" "_law_of" (defArgs s__law_of) (defBody s__law_of) (defScope s__law_of) .none kV10 dc10 pm10 an10 cd10 ct10), sl10⟩) (c10 : PySem.W.codeIn K cd10 "_law_of" = true) (k10 : PySem.W.keepIn K (.ref f10) = true)
    (a11 : PySem.W.nsIn K mainGlobals "_law_label" = some (some (.ref f11)))
    (l11 : K.lookup f11 = some ⟨oc11, od11, .func (PySem.W.fnOf "_law_label" "_law_label" (defArgs s__law_label) (defBody s__law_label) (defScope s__law_label) .none kV11 dc11 pm11 an11 cd11 ct11), sl11⟩) (c11 : PySem.W.codeIn K cd11 "_law_label" = true) (k11 : PySem.W.keepIn K (.ref f11) = true)
    (a12 : PySem.W.nsIn K mainGlobals "_law_matching" = some (some (.ref f12)))
    (l12 : K.lookup f12 = some ⟨oc12, od12, .func (PySem.W.fnOf "_law_matching" "_law_matching" (defArgs s__law_matching) (defBody s__law_matching) (defScope s__law_matching) .none kV12 dc12 pm12 an12 cd12 ct12), sl12⟩) (c12 : PySem.W.codeIn K cd12 "_law_matching" = true) (k12 : PySem.W.keepIn K (.ref f12) = true)
    (a13 : PySem.W.nsIn K mainGlobals "is_host" = some (some (.ref f13)))
    (l13 : K.lookup f13 = some ⟨oc13, od13, .func (PySem.W.fnOf "is_host" "is_host" (defArgs s_is_host) (defBody s_is_host) (defScope s_is_host) .none kV13 dc13 pm13 an13 cd13 ct13), sl13⟩) (c13 : PySem.W.codeIn K cd13 "is_host" = true) (k13 : PySem.W.keepIn K (.ref f13) = true)
    (a14 : PySem.W.nsIn K mainGlobals "site_by" = some (some (.ref f14)))
    (l14 : K.lookup f14 = some ⟨oc14, od14, .func (PySem.W.fnOf "site_by" "site_by" (defArgs s_site_by) (defBody s_site_by) (defScope s_site_by) .none kV14 dc14 pm14 an14 cd14 ct14), sl14⟩) (c14 : PySem.W.codeIn K cd14 "site_by" = true) (k14 : PySem.W.keepIn K (.ref f14) = true)
    (a15 : PySem.W.nsIn K mainGlobals "_law_pool" = some (some (.ref f15)))
    (l15 : K.lookup f15 = some ⟨oc15, od15, .func (PySem.W.fnOf "_law_pool" "_law_pool" (defArgs s__law_pool) (defBody s__law_pool) (defScope s__law_pool) .none kV15 dc15 pm15 an15 cd15 ct15), sl15⟩) (c15 : PySem.W.codeIn K cd15 "_law_pool" = true) (k15 : PySem.W.keepIn K (.ref f15) = true)
    (a16 : PySem.W.nsIn K mainGlobals "_law_host" = some (some (.ref f16)))
    (l16 : K.lookup f16 = some ⟨oc16, od16, .func (PySem.W.fnOf "_law_host" "_law_host" (defArgs s__law_host) (defBody s__law_host) (defScope s__law_host) .none kV16 dc16 pm16 an16 cd16 ct16), sl16⟩) (c16 : PySem.W.codeIn K cd16 "_law_host" = true) (k16 : PySem.W.keepIn K (.ref f16) = true)
    (a17 : PySem.W.nsIn K mainGlobals "_law_row" = some (some (.ref f17)))
    (l17 : K.lookup f17 = some ⟨oc17, od17, .func (PySem.W.fnOf "_law_row" "_law_row" (defArgs s__law_row) (defBody s__law_row) (defScope s__law_row) .none kV17 dc17 pm17 an17 cd17 ct17), sl17⟩) (c17 : PySem.W.codeIn K cd17 "_law_row" = true) (k17 : PySem.W.keepIn K (.ref f17) = true)
    (l18 : K.lookup f18 = some ⟨oc18, od18, .func (PySem.W.fnOf "__init__" "Table.__init__" (defArgs s_Table_init) (defBody s_Table_init) (defScope s_Table_init) .none kV18 dc18 pm18 an18 cd18 ct18), sl18⟩) (c18 : PySem.W.codeIn K cd18 "Table.__init__" = true) (k18 : PySem.W.keepIn K (.ref f18) = true)
    (a19 : PySem.W.nsIn K mainGlobals "_law_rows" = some (some (.ref f19)))
    (l19 : K.lookup f19 = some ⟨oc19, od19, .func (PySem.W.fnOf "_law_rows" "_law_rows" (defArgs s__law_rows) (defBody s__law_rows) (defScope s__law_rows) .none kV19 dc19 pm19 an19 cd19 ct19), sl19⟩) (c19 : PySem.W.codeIn K cd19 "_law_rows" = true) (k19 : PySem.W.keepIn K (.ref f19) = true)
    (l20 : K.lookup f20 = some ⟨oc20, od20, .func (PySem.W.fnOf "ending" "Table.ending" (defArgs s_Table_ending) (defBody s_Table_ending) (defScope s_Table_ending) .none kV20 dc20 pm20 an20 cd20 ct20), sl20⟩) (c20 : PySem.W.codeIn K cd20 "Table.ending" = true) (k20 : PySem.W.keepIn K (.ref f20) = true)
    (l21 : K.lookup f21 = some ⟨oc21, od21, .func (PySem.W.fnOf "site" "Table.site" (defArgs s_Table_site) (defBody s_Table_site) (defScope s_Table_site) .none kV21 dc21 pm21 an21 cd21 ct21), sl21⟩) (c21 : PySem.W.codeIn K cd21 "Table.site" = true) (k21 : PySem.W.keepIn K (.ref f21) = true)
    (a22 : PySem.W.nsIn K mainGlobals "_law_table" = some (some (.ref f22)))
    (l22 : K.lookup f22 = some ⟨oc22, od22, .func (PySem.W.fnOf "_law_table" "_law_table" (defArgs s__law_table) (defBody s__law_table) (defScope s__law_table) .none kV22 dc22 pm22 an22 cd22 ct22), sl22⟩) (c22 : PySem.W.codeIn K cd22 "_law_table" = true) (k22 : PySem.W.keepIn K (.ref f22) = true)
    (l23 : K.lookup f23 = some ⟨oc23, od23, .func (PySem.W.fnOf "one_site" "Table.one_site" (defArgs s_Table_one_site) (defBody s_Table_one_site) (defScope s_Table_one_site) .none kV23 dc23 pm23 an23 cd23 ct23), sl23⟩) (c23 : PySem.W.codeIn K cd23 "Table.one_site" = true) (k23 : PySem.W.keepIn K (.ref f23) = true)
    (a24 : PySem.W.nsIn K mainGlobals "_law_right" = some (some (.ref f24)))
    (l24 : K.lookup f24 = some ⟨oc24, od24, .func (PySem.W.fnOf "_law_right" "_law_right" (defArgs s__law_right) (defBody s__law_right) (defScope s__law_right) .none kV24 dc24 pm24 an24 cd24 ct24), sl24⟩) (c24 : PySem.W.codeIn K cd24 "_law_right" = true) (k24 : PySem.W.keepIn K (.ref f24) = true)
    (a25 : PySem.W.nsIn K mainGlobals "law" = some (some (.ref f25)))
    (l25 : K.lookup f25 = some ⟨oc25, od25, .func (PySem.W.fnOf "law" "law" (defArgs s_law) (defBody s_law) (defScope s_law) .none kV25 dc25 pm25 an25 cd25 ct25), sl25⟩) (c25 : PySem.W.codeIn K cd25 "law" = true) (k25 : PySem.W.keepIn K (.ref f25) = true)
    {Cx_BadHost fx_BadHost Nx_BadHost : Addr} {nm_BadHost q_BadHost : Str} {bs_BadHost sub_BadHost : List Value} {sn_BadHost : List Str} {ab_BadHost : Bool} {col_BadHost : Option Bool} {dd_BadHost odx_BadHost anx_BadHost : Option Addr} {m0_BadHost m1_BadHost m2_BadHost m3_BadHost m5_BadHost : Option Value} {slx_BadHost : Array (Option Value)} {ocx_BadHost dcx_BadHost pmx_BadHost cdx_BadHost ctx_BadHost : Value}
    (aC_BadHost : PySem.W.nsIn K mainGlobals "BadHost" = some (some (.ref Cx_BadHost))) (xL_BadHost : K.lookup Cx_BadHost = some (excClassObj nm_BadHost q_BadHost Cx_BadHost Nx_BadHost bs_BadHost [.type "ValueError", .type "Exception", .type "BaseException", .type "object"] true sn_BadHost sub_BadHost ab_BadHost col_BadHost dd_BadHost m0_BadHost m1_BadHost m2_BadHost m3_BadHost m5_BadHost "ValueError.__new__"))
    (sa_BadHost : PySem.W.findIn K (.ref Cx_BadHost) "__setattr__" = some (some (.builtin "object.__setattr__"))) (ga_BadHost : PySem.W.findIn K (.ref Cx_BadHost) "__getattribute__" = some (some (.builtin "BaseException.__getattribute__"))) (gg_BadHost : PySem.W.findIn K (.ref Cx_BadHost) "__getattr__" = some none) (nb_BadHost : PySem.W.findIn K (.ref Cx_BadHost) "host" = some none)
    (ai_BadHost : PySem.W.findIn K (.ref Cx_BadHost) "__init__" = some (some (.ref fx_BadHost))) (ti_BadHost : PySem.W.typeIn K (.ref fx_BadHost) = some (.type "function"))
    (li_BadHost : K.lookup fx_BadHost = some ⟨ocx_BadHost, odx_BadHost, .func (PySem.W.fnOf "__init__" "BadHost.__init__" (PySem.OwnX.iA "host" ⟨7, 17, 7, 21⟩ ⟨7, 23, 7, 27⟩) (PySem.OwnX.iB "host" ⟨8, 8, 8, 12⟩ ⟨8, 8, 8, 17⟩ ⟨8, 20, 8, 24⟩ ⟨8, 8, 8, 24⟩) (PySem.OwnX.iS "host") .none .none dcx_BadHost pmx_BadHost anx_BadHost cdx_BadHost ctx_BadHost), slx_BadHost⟩) (ci_BadHost : PySem.W.codeIn K cdx_BadHost "BadHost.__init__" = true)
    (kC_BadHost : PySem.W.keepIn K (.ref Cx_BadHost) = true) (eC_BadHost : PySem.W.subIn K (.ref Cx_BadHost) (.type "BaseException") = some true) (tC_BadHost : PySem.W.typeIn K (.ref Cx_BadHost) = some (.type "type")) (hC_BadHost : PySem.W.hasDictIn K Cx_BadHost = true) (iC_BadHost : PySem.W.isClsIn K Cx_BadHost = true) (sC_BadHost : PySem.W.subIn K (.ref Cx_BadHost) (.ref Cx_BadHost) = some true)
    {Cx_BadRow fx_BadRow Nx_BadRow : Addr} {nm_BadRow q_BadRow : Str} {bs_BadRow sub_BadRow : List Value} {sn_BadRow : List Str} {ab_BadRow : Bool} {col_BadRow : Option Bool} {dd_BadRow odx_BadRow anx_BadRow : Option Addr} {m0_BadRow m1_BadRow m2_BadRow m3_BadRow m5_BadRow : Option Value} {slx_BadRow : Array (Option Value)} {ocx_BadRow dcx_BadRow pmx_BadRow cdx_BadRow ctx_BadRow : Value}
    (aC_BadRow : PySem.W.nsIn K mainGlobals "BadRow" = some (some (.ref Cx_BadRow))) (xL_BadRow : K.lookup Cx_BadRow = some (excClassObj nm_BadRow q_BadRow Cx_BadRow Nx_BadRow bs_BadRow [.type "ValueError", .type "Exception", .type "BaseException", .type "object"] true sn_BadRow sub_BadRow ab_BadRow col_BadRow dd_BadRow m0_BadRow m1_BadRow m2_BadRow m3_BadRow m5_BadRow "ValueError.__new__"))
    (sa_BadRow : PySem.W.findIn K (.ref Cx_BadRow) "__setattr__" = some (some (.builtin "object.__setattr__"))) (ga_BadRow : PySem.W.findIn K (.ref Cx_BadRow) "__getattribute__" = some (some (.builtin "BaseException.__getattribute__"))) (gg_BadRow : PySem.W.findIn K (.ref Cx_BadRow) "__getattr__" = some none) (nb_BadRow : PySem.W.findIn K (.ref Cx_BadRow) "row" = some none)
    (ai_BadRow : PySem.W.findIn K (.ref Cx_BadRow) "__init__" = some (some (.ref fx_BadRow))) (ti_BadRow : PySem.W.typeIn K (.ref fx_BadRow) = some (.type "function"))
    (li_BadRow : K.lookup fx_BadRow = some ⟨ocx_BadRow, odx_BadRow, .func (PySem.W.fnOf "__init__" "BadRow.__init__" (PySem.OwnX.iA "row" ⟨11, 17, 11, 21⟩ ⟨11, 23, 11, 26⟩) (PySem.OwnX.iB "row" ⟨12, 8, 12, 12⟩ ⟨12, 8, 12, 16⟩ ⟨12, 19, 12, 22⟩ ⟨12, 8, 12, 22⟩) (PySem.OwnX.iS "row") .none .none dcx_BadRow pmx_BadRow anx_BadRow cdx_BadRow ctx_BadRow), slx_BadRow⟩) (ci_BadRow : PySem.W.codeIn K cdx_BadRow "BadRow.__init__" = true)
    (kC_BadRow : PySem.W.keepIn K (.ref Cx_BadRow) = true) (eC_BadRow : PySem.W.subIn K (.ref Cx_BadRow) (.type "BaseException") = some true) (tC_BadRow : PySem.W.typeIn K (.ref Cx_BadRow) = some (.type "type")) (hC_BadRow : PySem.W.hasDictIn K Cx_BadRow = true) (iC_BadRow : PySem.W.isClsIn K Cx_BadRow = true) (sC_BadRow : PySem.W.subIn K (.ref Cx_BadRow) (.ref Cx_BadRow) = some true)
    {Cx_Twice fx_Twice Nx_Twice : Addr} {nm_Twice q_Twice : Str} {bs_Twice sub_Twice : List Value} {sn_Twice : List Str} {ab_Twice : Bool} {col_Twice : Option Bool} {dd_Twice odx_Twice anx_Twice : Option Addr} {m0_Twice m1_Twice m2_Twice m3_Twice m5_Twice : Option Value} {slx_Twice : Array (Option Value)} {ocx_Twice dcx_Twice pmx_Twice cdx_Twice ctx_Twice : Value}
    (aC_Twice : PySem.W.nsIn K mainGlobals "Twice" = some (some (.ref Cx_Twice))) (xL_Twice : K.lookup Cx_Twice = some (excClassObj nm_Twice q_Twice Cx_Twice Nx_Twice bs_Twice [.type "ValueError", .type "Exception", .type "BaseException", .type "object"] true sn_Twice sub_Twice ab_Twice col_Twice dd_Twice m0_Twice m1_Twice m2_Twice m3_Twice m5_Twice "ValueError.__new__"))
    (sa_Twice : PySem.W.findIn K (.ref Cx_Twice) "__setattr__" = some (some (.builtin "object.__setattr__"))) (ga_Twice : PySem.W.findIn K (.ref Cx_Twice) "__getattribute__" = some (some (.builtin "BaseException.__getattribute__"))) (gg_Twice : PySem.W.findIn K (.ref Cx_Twice) "__getattr__" = some none) (nb_Twice : PySem.W.findIn K (.ref Cx_Twice) "name" = some none)
    (ai_Twice : PySem.W.findIn K (.ref Cx_Twice) "__init__" = some (some (.ref fx_Twice))) (ti_Twice : PySem.W.typeIn K (.ref fx_Twice) = some (.type "function"))
    (li_Twice : K.lookup fx_Twice = some ⟨ocx_Twice, odx_Twice, .func (PySem.W.fnOf "__init__" "Twice.__init__" (PySem.OwnX.iA "name" ⟨15, 17, 15, 21⟩ ⟨15, 23, 15, 27⟩) (PySem.OwnX.iB "name" ⟨16, 8, 16, 12⟩ ⟨16, 8, 16, 17⟩ ⟨16, 20, 16, 24⟩ ⟨16, 8, 16, 24⟩) (PySem.OwnX.iS "name") .none .none dcx_Twice pmx_Twice anx_Twice cdx_Twice ctx_Twice), slx_Twice⟩) (ci_Twice : PySem.W.codeIn K cdx_Twice "Twice.__init__" = true)
    (kC_Twice : PySem.W.keepIn K (.ref Cx_Twice) = true) (eC_Twice : PySem.W.subIn K (.ref Cx_Twice) (.type "BaseException") = some true) (tC_Twice : PySem.W.typeIn K (.ref Cx_Twice) = some (.type "type")) (hC_Twice : PySem.W.hasDictIn K Cx_Twice = true) (iC_Twice : PySem.W.isClsIn K Cx_Twice = true) (sC_Twice : PySem.W.subIn K (.ref Cx_Twice) (.ref Cx_Twice) = some true)
    (z_abs : PySem.W.nsIn K mainGlobals "abs" = some none)
    (z_enumerate : PySem.W.nsIn K mainGlobals "enumerate" = some none)
    (z_int : PySem.W.nsIn K mainGlobals "int" = some none)
    (z_isinstance : PySem.W.nsIn K mainGlobals "isinstance" = some none)
    (z_len : PySem.W.nsIn K mainGlobals "len" = some none)
    (z_max : PySem.W.nsIn K mainGlobals "max" = some none)
    (z_min : PySem.W.nsIn K mainGlobals "min" = some none)
    (z_range : PySem.W.nsIn K mainGlobals "range" = some none)
    (z_str : PySem.W.nsIn K mainGlobals "str" = some none)
    (z_tuple : PySem.W.nsIn K mainGlobals "tuple" = some none)
    {t_CHARACTERS : Tok} (g_CHARACTERS : PySem.W.nsIn K mainGlobals "CHARACTERS" = some (some (.str "0123456789abcdefghijklmnopqrstuvwxyz" t_CHARACTERS)))
    {t_EXCEPTION : Tok} (g_EXCEPTION : PySem.W.nsIn K mainGlobals "EXCEPTION" = some (some (.str "exception" t_EXCEPTION)))
    {t_LONGEST_LABEL : Tok} (g_LONGEST_LABEL : PySem.W.nsIn K mainGlobals "LONGEST_LABEL" = some (some (.int 20 t_LONGEST_LABEL)))
    {t_MOST_LABELS : Tok} (g_MOST_LABELS : PySem.W.nsIn K mainGlobals "MOST_LABELS" = some (some (.int 20 t_MOST_LABELS)))
    {t_MOST_LABELS_OF_ROW : Tok} (g_MOST_LABELS_OF_ROW : PySem.W.nsIn K mainGlobals "MOST_LABELS_OF_ROW" = some (some (.int 3 t_MOST_LABELS_OF_ROW)))
    {t_MOST_ROWS : Tok} (g_MOST_ROWS : PySem.W.nsIn K mainGlobals "MOST_ROWS" = some (some (.int 8 t_MOST_ROWS)))
    {t_PLAIN : Tok} (g_PLAIN : PySem.W.nsIn K mainGlobals "PLAIN" = some (some (.str "plain" t_PLAIN)))
    {t_WILD : Tok} (g_WILD : PySem.W.nsIn K mainGlobals "WILD" = some (some (.str "open" t_WILD)))
    : ∃ fd : FuncData, (∀ (s : Shared) (v : Value), BindsTo s fd ⟨[v], []⟩ [("_law_script", v)]) ∧ ∀ base : Heap, K.In base → base.Ns mainGlobals mg → FnG l.prog w K mg base 7 fa fd ["_law_script"] (spR K mg false 1 m_law_8aba) := by
  have e := hfa.symm.trans (PySem.W.mg_of X G a25)
  cases e
  have F0 := fun_mk (st := s_is_label) l0 c0 k0
  have b0 := F0.binds (ps := ["thing"]) fun _ _ _ _ _ _ us hl => match us, hl with | [_], _ => rfl
  have F1 := fun_mk (st := s_ends_with) l1 c1 k1
  have b1 := F1.binds (ps := ["host", "labels"]) fun _ _ _ _ _ _ us hl => match us, hl with | [_, _], _ => rfl
  have F2 := fun_mk (st := s__law_bag) l2 c2 k2
  have b2 := F2.binds (ps := ["_law_script"]) fun _ _ _ _ _ _ us hl => match us, hl with | [_], _ => rfl
  have F3 := fun_mk (st := s__law_take) l3 c3 k3
  have b3 := F3.binds (ps := ["_law_bag_here", "_law_many"]) fun _ _ _ _ _ _ us hl => match us, hl with | [_, _], _ => rfl
  have F4 := fun_mk (st := s__law_ends) l4 c4 k4
  have b4 := F4.binds (ps := ["_law_host_here", "_law_labels"]) fun _ _ _ _ _ _ us hl => match us, hl with | [_, _], _ => rfl
  have F5 := fun_mk (st := s_Table_len) l5 c5 k5
  have b5 := F5.binds (ps := ["self"]) fun _ _ _ _ _ _ us hl => match us, hl with | [_], _ => rfl
  have F6 := fun_mk (st := s_Table_eq) l6 c6 k6
  have b6 := F6.binds (ps := ["self", "other"]) fun _ _ _ _ _ _ us hl => match us, hl with | [_, _], _ => rfl
  have F7 := fun_mk (st := s_is_path) l7 c7 k7
  have b7 := F7.binds (ps := ["thing"]) fun _ _ _ _ _ _ us hl => match us, hl with | [_], _ => rfl
  have F8 := fun_mk (st := s_parsed_row) l8 c8 k8
  have b8 := F8.binds (ps := ["row"]) fun _ _ _ _ _ _ us hl => match us, hl with | [_], _ => rfl
  have F9 := fun_mk (st := s_ending_size) l9 c9 k9
  have b9 := F9.binds (ps := ["parsed", "host"]) fun _ _ _ _ _ _ us hl => match us, hl with | [_, _], _ => rfl
  have F10 := fun_mk (st := s__law_of) l10 c10 k10
  have b10 := F10.binds (ps := ["_law_bag_here", "_law_some"]) fun _ _ _ _ _ _ us hl => match us, hl with | [_, _], _ => rfl
  have F11 := fun_mk (st := s__law_label) l11 c11 k11
  have b11 := F11.binds (ps := ["_law_bag_here", "_law_most"]) fun _ _ _ _ _ _ us hl => match us, hl with | [_, _], _ => rfl
  have F12 := fun_mk (st := s__law_matching) l12 c12 k12
  have b12 := F12.binds (ps := ["_law_rows_here", "_law_host_here"]) fun _ _ _ _ _ _ us hl => match us, hl with | [_, _], _ => rfl
  have F13 := fun_mk (st := s_is_host) l13 c13 k13
  have b13 := F13.binds (ps := ["thing"]) fun _ _ _ _ _ _ us hl => match us, hl with | [_], _ => rfl
  have F14 := fun_mk (st := s_site_by) l14 c14 k14
  have b14 := F14.binds (ps := ["parsed", "host"]) fun _ _ _ _ _ _ us hl => match us, hl with | [_, _], _ => rfl
  have F15 := fun_mk (st := s__law_pool) l15 c15 k15
  have b15 := F15.binds (ps := ["_law_bag_here", "_law_longest"]) fun _ _ _ _ _ _ us hl => match us, hl with | [_, _], _ => rfl
  have F16 := fun_mk (st := s__law_host) l16 c16 k16
  have b16 := F16.binds (ps := ["_law_bag_here", "_law_pool_here", "_law_most"]) fun _ _ _ _ _ _ us hl => match us, hl with | [_, _, _], _ => rfl
  have F17 := fun_mk (st := s__law_row) l17 c17 k17
  have b17 := F17.binds (ps := ["_law_bag_here", "_law_pool_here"]) fun _ _ _ _ _ _ us hl => match us, hl with | [_, _], _ => rfl
  have F18 := fun_mk (st := s_Table_init) l18 c18 k18
  have F19 := fun_mk (st := s__law_rows) l19 c19 k19
  have b19 := F19.binds (ps := ["_law_bag_here", "_law_pool_here", "_law_most"]) fun _ _ _ _ _ _ us hl => match us, hl with | [_, _, _], _ => rfl
  have F20 := fun_mk (st := s_Table_ending) l20 c20 k20
  have b20 := F20.binds (ps := ["self", "host"]) fun _ _ _ _ _ _ us hl => match us, hl with | [_, _], _ => rfl
  have F21 := fun_mk (st := s_Table_site) l21 c21 k21
  have b21 := F21.binds (ps := ["self", "host"]) fun _ _ _ _ _ _ us hl => match us, hl with | [_, _], _ => rfl
  have F22 := fun_mk (st := s__law_table) l22 c22 k22
  have b22 := F22.binds (ps := ["_law_rows_here"]) fun _ _ _ _ _ _ us hl => match us, hl with | [_], _ => rfl
  have F23 := fun_mk (st := s_Table_one_site) l23 c23 k23
  have b23 := F23.binds (ps := ["self", "one", "other"]) fun _ _ _ _ _ _ us hl => match us, hl with | [_, _, _], _ => rfl
  have F24 := fun_mk (st := s__law_right) l24 c24 k24
  have b24 := F24.binds (ps := ["_law_table_here", "_law_rows_here", "_law_host_here", "_law_label_here"]) fun _ _ _ _ _ _ us hl => match us, hl with | [_, _, _, _], _ => rfl
  have F25 := fun_mk (st := s_law) l25 c25 k25
  have b25 := F25.binds (ps := ["_law_script"]) fun _ _ _ _ _ _ us hl => match us, hl with | [_], _ => rfl
  have T : Txt K mg ⟨_, _, _, _, _, _, _, _, _, _, _, _, _, _, _, _, _, _, _, _, _, _, _, _, _, _, _, _, _, _, _, _, _, _, _, _, _, _, _, _, _, _, _, _, _, _, _, _, _, _, _, _, _, _, _, _, _, _, _⟩ := ⟨PySem.W.mg_of X G a0, F0, b0, PySem.W.mg_of X G a1, F1, b1, PySem.W.mg_of X G a2, F2, b2, PySem.W.mg_of X G a3, F3, b3, PySem.W.mg_of X G a4, F4, b4, F5, b5, F6, b6, PySem.W.mg_of X G a7, F7, b7, PySem.W.mg_of X G a8, F8, b8, PySem.W.mg_of X G a9, F9, b9, PySem.W.mg_of X G a10, F10, b10, PySem.W.mg_of X G a11, F11, b11, PySem.W.mg_of X G a12, F12, b12, PySem.W.mg_of X G a13, F13, b13, PySem.W.mg_of X G a14, F14, b14, PySem.W.mg_of X G a15, F15, b15, PySem.W.mg_of X G a16, F16, b16, PySem.W.mg_of X G a17, F17, b17, F18, (StX.bind_star1 (B := fun xs => bindArgs _ ⟨xs, []⟩) (fun _ => rfl) (fun _ _ _ => rfl)), PySem.W.mg_of X G a19, F19, b19, F20, b20, F21, b21, PySem.W.mg_of X G a22, F22, b22, F23, b23, PySem.W.mg_of X G a24, F24, b24, PySem.W.mg_of X G a25, F25, b25, ⟨PySem.W.mg_of X G aC_Table, ⟨pg_Table, hd_Table, po_Table, sa_Table⟩, ca_Table, cn_Table, ct_Table, cm_Table⟩, (fun f hf => by
      simp only [List.mem_cons, List.not_mem_nil, or_false] at hf
      rcases hf with rfl | rfl
      · exact nf_Table_rows
      · exact nf_Table_parsed), ⟨mk_Table, ai_Table, fi_Table, kc_Table⟩, ⟨mt_Table_ending, mf_Table_ending, k20⟩, ⟨mt_Table_one_site, mf_Table_one_site, k23⟩, ⟨mt_Table_site, mf_Table_site, k21⟩, ⟨nl_Table, nm_Table_len⟩, ⟨qe_Table, qf_Table, (fun T hT => by
      simp only [baseTys, List.mem_cons, List.not_mem_nil, or_false] at hT
      rcases hT with rfl | rfl | rfl | rfl | rfl | rfl | rfl
      · exact qb_Table_NoneType
      · exact qb_Table_bool
      · exact qb_Table_int
      · exact qb_Table_str
      · exact qb_Table_tuple
      · exact qb_Table_list
      · exact qb_Table_dict), (fun q hq C1 hC1 => by
      simp only [List.mem_cons, List.not_mem_nil, or_false] at hq
      rcases hq with rfl
      · cases (PySem.W.mg_of X G aC_Table).symm.trans hC1; exact qo_Table_Table), qn_Table⟩, ⟨(fun q hq => by
      simp only [List.mem_cons, List.not_mem_nil, or_false] at hq
      rcases hq with rfl
      · exact ⟨_, ⟨PySem.W.mg_of X G aC_Table, ⟨pg_Table, hd_Table, po_Table, sa_Table⟩, ca_Table, cn_Table, ct_Table, cm_Table⟩, kit_subO ic_Table tc_Table sC_Table_Table sC_Table_Table⟩), (fun q hq => by
      simp only [noneOfB, List.mem_cons, List.not_mem_nil, or_false] at hq
      rcases hq with rfl | rfl | rfl | rfl | rfl | rfl | rfl
      · exact kit_subO ic_Table tc_Table sC_Table_Table sb_Table_NoneType
      · exact kit_subO ic_Table tc_Table sC_Table_Table sb_Table_bool
      · exact kit_subO ic_Table tc_Table sC_Table_Table sb_Table_int
      · exact kit_subO ic_Table tc_Table sC_Table_Table sb_Table_str
      · exact kit_subO ic_Table tc_Table sC_Table_Table sb_Table_tuple
      · exact kit_subO ic_Table tc_Table sC_Table_Table sb_Table_list
      · exact kit_subO ic_Table tc_Table sC_Table_Table sb_Table_dict)⟩, { fs := by decide, fb := by decide, bind := fun _ _ _ _ _ _ _ _ _ _ _ _ _ => rfl, gC := PySem.W.mg_of X G aC_BadHost, cls := ⟨nm_BadHost, q_BadHost, Nx_BadHost, bs_BadHost, _, sn_BadHost, sub_BadHost, ab_BadHost, col_BadHost, dd_BadHost, m0_BadHost, m1_BadHost, m2_BadHost, m3_BadHost, m5_BadHost, xL_BadHost, by decide +kernel⟩, sa := sa_BadHost, ga := ga_BadHost, gg := gg_BadHost, noN := nb_BadHost, iC := ai_BadHost, tC := ti_BadHost, kC := kC_BadHost, exC := eC_BadHost, tyC := tC_BadHost, hdC := hC_BadHost, te := exm_self eC_BadHost iC_BadHost tC_BadHost sC_BadHost, fn := ⟨_, _, _, _, _, _, _, _, _, _, _, _, _, _, li_BadHost, ci_BadHost⟩ }, { fs := by decide, fb := by decide, bind := fun _ _ _ _ _ _ _ _ _ _ _ _ _ => rfl, gC := PySem.W.mg_of X G aC_BadRow, cls := ⟨nm_BadRow, q_BadRow, Nx_BadRow, bs_BadRow, _, sn_BadRow, sub_BadRow, ab_BadRow, col_BadRow, dd_BadRow, m0_BadRow, m1_BadRow, m2_BadRow, m3_BadRow, m5_BadRow, xL_BadRow, by decide +kernel⟩, sa := sa_BadRow, ga := ga_BadRow, gg := gg_BadRow, noN := nb_BadRow, iC := ai_BadRow, tC := ti_BadRow, kC := kC_BadRow, exC := eC_BadRow, tyC := tC_BadRow, hdC := hC_BadRow, te := exm_self eC_BadRow iC_BadRow tC_BadRow sC_BadRow, fn := ⟨_, _, _, _, _, _, _, _, _, _, _, _, _, _, li_BadRow, ci_BadRow⟩ }, { fs := by decide, fb := by decide, bind := fun _ _ _ _ _ _ _ _ _ _ _ _ _ => rfl, gC := PySem.W.mg_of X G aC_Twice, cls := ⟨nm_Twice, q_Twice, Nx_Twice, bs_Twice, _, sn_Twice, sub_Twice, ab_Twice, col_Twice, dd_Twice, m0_Twice, m1_Twice, m2_Twice, m3_Twice, m5_Twice, xL_Twice, by decide +kernel⟩, sa := sa_Twice, ga := ga_Twice, gg := gg_Twice, noN := nb_Twice, iC := ai_Twice, tC := ti_Twice, kC := kC_Twice, exC := eC_Twice, tyC := tC_Twice, hdC := hC_Twice, te := exm_self eC_Twice iC_Twice tC_Twice sC_Twice, fn := ⟨_, _, _, _, _, _, _, _, _, _, _, _, _, _, li_Twice, ci_Twice⟩ }, PySem.W.mg_none_of X G z_abs, PySem.W.mg_none_of X G z_enumerate, PySem.W.mg_none_of X G z_int, PySem.W.mg_none_of X G z_isinstance, PySem.W.mg_none_of X G z_len, PySem.W.mg_none_of X G z_max, PySem.W.mg_none_of X G z_min, PySem.W.mg_none_of X G z_range, PySem.W.mg_none_of X G z_str, PySem.W.mg_none_of X G z_tuple, globS (PySem.W.mg_of X G g_CHARACTERS) (by decide +kernel) (by decide), globS (PySem.W.mg_of X G g_EXCEPTION) (by decide +kernel) (by decide), globI (PySem.W.mg_of X G g_LONGEST_LABEL), globI (PySem.W.mg_of X G g_MOST_LABELS), globI (PySem.W.mg_of X G g_MOST_LABELS_OF_ROW), globI (PySem.W.mg_of X G g_MOST_ROWS), globS (PySem.W.mg_of X G g_PLAIN) (by decide +kernel) (by decide), globS (PySem.W.mg_of X G g_WILD) (by decide +kernel) (by decide)⟩
  exact ⟨_, fun s v => .of_eq rfl, fun base _ _ => g_law T⟩
end K66
open PySem PySem.W PyProof.Rows in
set_option maxRecDepth 100000 in
set_option maxHeartbeats 0 in
theorem PySem.Challenge.cw_offeredentry_k66_whole_sites_holds : PySem.Challenge.rw_offeredentry_k66_whole_sites.Holds := by
  w_on; o_law; k_head; (case hw => w_witness2)
  k_fill
  refine DL.walk_g (l := PySem.Challenge.rw_offeredentry_k66_whole_sites) (n := 63) (k := 7) (x := "_law_script") (g := FN.m_law_8aba) rfl (by decide) rfl ⟨rfl, by decide, by decide⟩ (fun w h Y => PySem.W.kIn_of Y) ?F FN.law_8aba_true
  case F =>
    intro w mg fa h KX G hmg
    refine' K66.all_mk KX G hmg ?aC_Table ?pg_Table ?hd_Table ?po_Table ?sa_Table ?ca_Table ?cn_Table ?ct_Table ?cm_Table ?nf_Table_rows ?nf_Table_parsed ?mk_Table ?kc_Table ?ai_Table ?fi_Table ?mt_Table_ending ?mf_Table_ending ?mt_Table_one_site ?mf_Table_one_site ?mt_Table_site ?mf_Table_site ?nl_Table ?nm_Table_len ?qe_Table ?qf_Table ?qn_Table ?qb_Table_NoneType ?qb_Table_bool ?qb_Table_int ?qb_Table_str ?qb_Table_tuple ?qb_Table_list ?qb_Table_dict ?qo_Table_Table ?ic_Table ?tc_Table ?sC_Table_Table ?sb_Table_NoneType ?sb_Table_bool ?sb_Table_int ?sb_Table_str ?sb_Table_tuple ?sb_Table_list ?sb_Table_dict ?a0 ?l0 ?c0 ?k0 ?a1 ?l1 ?c1 ?k1 ?a2 ?l2 ?c2 ?k2 ?a3 ?l3 ?c3 ?k3 ?a4 ?l4 ?c4 ?k4 ?l5 ?c5 ?k5 ?l6 ?c6 ?k6 ?a7 ?l7 ?c7 ?k7 ?a8 ?l8 ?c8 ?k8 ?a9 ?l9 ?c9 ?k9 ?a10 ?l10 ?c10 ?k10 ?a11 ?l11 ?c11 ?k11 ?a12 ?l12 ?c12 ?k12 ?a13 ?l13 ?c13 ?k13 ?a14 ?l14 ?c14 ?k14 ?a15 ?l15 ?c15 ?k15 ?a16 ?l16 ?c16 ?k16 ?a17 ?l17 ?c17 ?k17 ?l18 ?c18 ?k18 ?a19 ?l19 ?c19 ?k19 ?l20 ?c20 ?k20 ?l21 ?c21 ?k21 ?a22 ?l22 ?c22 ?k22 ?l23 ?c23 ?k23 ?a24 ?l24 ?c24 ?k24 ?a25 ?l25 ?c25 ?k25 ?aC_BadHost ?xL_BadHost ?sa_BadHost ?ga_BadHost ?gg_BadHost ?nb_BadHost ?ai_BadHost ?ti_BadHost ?li_BadHost ?ci_BadHost ?kC_BadHost ?eC_BadHost ?tC_BadHost ?hC_BadHost ?iC_BadHost ?sC_BadHost ?aC_BadRow ?xL_BadRow ?sa_BadRow ?ga_BadRow ?gg_BadRow ?nb_BadRow ?ai_BadRow ?ti_BadRow ?li_BadRow ?ci_BadRow ?kC_BadRow ?eC_BadRow ?tC_BadRow ?hC_BadRow ?iC_BadRow ?sC_BadRow ?aC_Twice ?xL_Twice ?sa_Twice ?ga_Twice ?gg_Twice ?nb_Twice ?ai_Twice ?ti_Twice ?li_Twice ?ci_Twice ?kC_Twice ?eC_Twice ?tC_Twice ?hC_Twice ?iC_Twice ?sC_Twice ?z_abs ?z_enumerate ?z_int ?z_isinstance ?z_len ?z_max ?z_min ?z_range ?z_str ?z_tuple ?g_CHARACTERS ?g_EXCEPTION ?g_LONGEST_LABEL ?g_MOST_LABELS ?g_MOST_LABELS_OF_ROW ?g_MOST_ROWS ?g_PLAIN ?g_WILD
    (case aC_Table => k_is)
    (case pg_Table => k_is)
    (case hd_Table => k_is)
    (case po_Table => k_is)
    (case sa_Table => k_is)
    (case ca_Table => k_is)
    (case cn_Table => k_is)
    (case ct_Table => k_is)
    (case cm_Table => k_is)
    (case nf_Table_rows => k_is)
    (case nf_Table_parsed => k_is)
    (case mk_Table => k_is)
    (case kc_Table => k_is)
    (case ai_Table => k_is)
    (case fi_Table => k_is)
    (case mt_Table_ending => k_is)
    (case mf_Table_ending => k_is)
    (case mt_Table_one_site => k_is)
    (case mf_Table_one_site => k_is)
    (case mt_Table_site => k_is)
    (case mf_Table_site => k_is)
    (case nl_Table => k_is)
    (case nm_Table_len => k_is)
    (case qe_Table => k_is)
    (case qf_Table => k_is)
    (case qn_Table => k_is)
    (case qb_Table_NoneType => k_is)
    (case qb_Table_bool => k_is)
    (case qb_Table_int => k_is)
    (case qb_Table_str => k_is)
    (case qb_Table_tuple => k_is)
    (case qb_Table_list => k_is)
    (case qb_Table_dict => k_is)
    (case qo_Table_Table => k_is)
    (case ic_Table => k_is)
    (case tc_Table => k_is)
    (case sC_Table_Table => first | rfl | k_is)
    (case sb_Table_NoneType => k_is)
    (case sb_Table_bool => k_is)
    (case sb_Table_int => k_is)
    (case sb_Table_str => k_is)
    (case sb_Table_tuple => k_is)
    (case sb_Table_list => k_is)
    (case sb_Table_dict => k_is)
    (case a0 => k_is)
    (case l0 => k_is)
    (case c0 => k_is)
    (case k0 => k_is)
    (case a1 => k_is)
    (case l1 => k_is)
    (case c1 => k_is)
    (case k1 => k_is)
    (case a2 => k_is)
    (case l2 => k_is)
    (case c2 => k_is)
    (case k2 => k_is)
    (case a3 => k_is)
    (case l3 => k_is)
    (case c3 => k_is)
    (case k3 => k_is)
    (case a4 => k_is)
    (case l4 => k_is)
    (case c4 => k_is)
    (case k4 => k_is)
    (case l5 => k_is)
    (case c5 => k_is)
    (case k5 => k_is)
    (case l6 => k_is)
    (case c6 => k_is)
    (case k6 => k_is)
    (case a7 => k_is)
    (case l7 => k_is)
    (case c7 => k_is)
    (case k7 => k_is)
    (case a8 => k_is)
    (case l8 => k_is)
    (case c8 => k_is)
    (case k8 => k_is)
    (case a9 => k_is)
    (case l9 => k_is)
    (case c9 => k_is)
    (case k9 => k_is)
    (case a10 => k_is)
    (case l10 => k_is)
    (case c10 => k_is)
    (case k10 => k_is)
    (case a11 => k_is)
    (case l11 => k_is)
    (case c11 => k_is)
    (case k11 => k_is)
    (case a12 => k_is)
    (case l12 => k_is)
    (case c12 => k_is)
    (case k12 => k_is)
    (case a13 => k_is)
    (case l13 => k_is)
    (case c13 => k_is)
    (case k13 => k_is)
    (case a14 => k_is)
    (case l14 => k_is)
    (case c14 => k_is)
    (case k14 => k_is)
    (case a15 => k_is)
    (case l15 => k_is)
    (case c15 => k_is)
    (case k15 => k_is)
    (case a16 => k_is)
    (case l16 => k_is)
    (case c16 => k_is)
    (case k16 => k_is)
    (case a17 => k_is)
    (case l17 => k_is)
    (case c17 => k_is)
    (case k17 => k_is)
    (case l18 => k_is)
    (case c18 => k_is)
    (case k18 => k_is)
    (case a19 => k_is)
    (case l19 => k_is)
    (case c19 => k_is)
    (case k19 => k_is)
    (case l20 => k_is)
    (case c20 => k_is)
    (case k20 => k_is)
    (case l21 => k_is)
    (case c21 => k_is)
    (case k21 => k_is)
    (case a22 => k_is)
    (case l22 => k_is)
    (case c22 => k_is)
    (case k22 => k_is)
    (case l23 => k_is)
    (case c23 => k_is)
    (case k23 => k_is)
    (case a24 => k_is)
    (case l24 => k_is)
    (case c24 => k_is)
    (case k24 => k_is)
    (case a25 => k_is)
    (case l25 => k_is)
    (case c25 => k_is)
    (case k25 => k_is)
    (case aC_BadHost => k_is)
    (case xL_BadHost => k_is)
    (case sa_BadHost => k_is)
    (case ga_BadHost => k_is)
    (case gg_BadHost => k_is)
    (case nb_BadHost => k_is)
    (case ai_BadHost => k_is)
    (case ti_BadHost => k_is)
    (case li_BadHost => k_is)
    (case ci_BadHost => k_is)
    (case kC_BadHost => k_is)
    (case eC_BadHost => k_is)
    (case tC_BadHost => k_is)
    (case hC_BadHost => k_is)
    (case iC_BadHost => k_is)
    (case sC_BadHost => first | rfl | k_is)
    (case aC_BadRow => k_is)
    (case xL_BadRow => k_is)
    (case sa_BadRow => k_is)
    (case ga_BadRow => k_is)
    (case gg_BadRow => k_is)
    (case nb_BadRow => k_is)
    (case ai_BadRow => k_is)
    (case ti_BadRow => k_is)
    (case li_BadRow => k_is)
    (case ci_BadRow => k_is)
    (case kC_BadRow => k_is)
    (case eC_BadRow => k_is)
    (case tC_BadRow => k_is)
    (case hC_BadRow => k_is)
    (case iC_BadRow => k_is)
    (case sC_BadRow => first | rfl | k_is)
    (case aC_Twice => k_is)
    (case xL_Twice => k_is)
    (case sa_Twice => k_is)
    (case ga_Twice => k_is)
    (case gg_Twice => k_is)
    (case nb_Twice => k_is)
    (case ai_Twice => k_is)
    (case ti_Twice => k_is)
    (case li_Twice => k_is)
    (case ci_Twice => k_is)
    (case kC_Twice => k_is)
    (case eC_Twice => k_is)
    (case tC_Twice => k_is)
    (case hC_Twice => k_is)
    (case iC_Twice => k_is)
    (case sC_Twice => first | rfl | k_is)
    (case z_abs => k_is)
    (case z_enumerate => k_is)
    (case z_int => k_is)
    (case z_isinstance => k_is)
    (case z_len => k_is)
    (case z_max => k_is)
    (case z_min => k_is)
    (case z_range => k_is)
    (case z_str => k_is)
    (case z_tuple => k_is)
    (case g_CHARACTERS => k_is)
    (case g_EXCEPTION => k_is)
    (case g_LONGEST_LABEL => k_is)
    (case g_MOST_LABELS => k_is)
    (case g_MOST_LABELS_OF_ROW => k_is)
    (case g_MOST_ROWS => k_is)
    (case g_PLAIN => k_is)
    (case g_WILD => k_is)
