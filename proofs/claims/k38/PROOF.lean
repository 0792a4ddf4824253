import PyProof.Rows.All
import Wide.All
import OpenK.AllK
import Wide.FinOn
import HandS.ForMost
import HandS.ForExc
import HandS.Flow
import HandS.Wide
import HandS.TupAny
import HandS.Deep
import HandS.Style
import HandS.IsInst
import KE.DataCmp
import HandS.Conv
import HandS.Ends
import HandS.TryOnly
import HandS.TryMany
import HandS.More
import HandS.Zip
import KE.KExcIs
import HandS.ExcIs
import HandS.Property
import HandS.MakeKwOnly
import HandS.Star
import HandS.SlotsOwn
import PyProof.InstEq
import HandS.RaiseMore
import HandS.FStr
import HandS.Codes
import HandS.ClsMeth
import HandS.Replace
import PyProof.AssignAttr
import PyProof.ReprLen
import HandS.Text
import HandS.ReplaceLit
import HandS.ReplaceDef
import HandS.ReplaceList
import HandS.Nested
import KE.KSuper
import KE.KDictZip
import KE.KDictItemsList
import HandS.Zip0
import HandS.ListItems
import HandS.StrMore
import HandS.Iter
import PyProof.ListNew
import PySem.Challenge.RW_offeredentry_k38_rules_read
set_option Elab.async false
set_option linter.all false
set_option maxRecDepth 100000
set_option maxHeartbeats 4000000
namespace DL
open PySem L2
/-! ### data -/
inductive D where
  | non
  | bl (b : Bool)
  | int (i : Int)
  | str (s : List Nat)
  | tup (ds : List D)
  | lst (ds : List D)
  | dic (ks vs : List D)
  | ins (c : Str) (ns : List Str) (ds : List D)
  | scr (is : List Int)
  /-- a caught error: its object, its dict, its field -/
  | xc (a dd : Addr) (f : Str) (d : D)
instance : Inhabited D := ⟨.non⟩
structure Exn where
  c : Str
  f : Str
  d : D
/-! ### two monads -/
inductive R (α : Type) where
  | ok (a : α)
  | ex (e : Exn)
  | stuck
@[simp] def R.bd {α β : Type} : R α → (α → R β) → R β
  | .ok a, f => f a
  | .ex e, _ => .ex e
  | .stuck, _ => .stuck
instance : Monad R where
  pure := .ok
  bind := R.bd
@[simp] theorem R.pure_eq {α : Type} (a : α) : (pure a : R α) = .ok a := rfl
@[simp] theorem R.bind_eq {α β : Type} (x : R α) (f : α → R β) : (x >>= f) = x.bd f := rfl
/-- the bag's content -/
structure S where
  x : Int
  y : Int
  z : Int
  l : List Int
  w : Bool
inductive MO (α : Type) where
  | ok (a : α) (s : S)
  | ex (e : Exn) (s : S)
  | stuck
def M (α : Type) : Type := S → MO α
@[simp] def MO.bd {α β : Type} : MO α → (α → M β) → MO β
  | .ok a s, f => f a s
  | .ex e s, _ => .ex e s
  | .stuck, _ => .stuck
instance : Monad M where
  pure := fun a s => .ok a s
  bind := fun x f s => (x s).bd f
class Mo (m : Type → Type) extends Monad m where
  lift : {α : Type} → R α → m α
  wp : {α : Type} → m α → S → (α → S → Prop) → (Exn → S → Prop) → Prop
  wp_mono : ∀ {α : Type} {x : m α} {s : S} {Q Q' : α → S → Prop} {E E' : Exn → S → Prop}, wp x s Q E → (∀ a s, Q a s → Q' a s) → (∀ e s, E e s → E' e s) → wp x s Q' E'
  wp_pure : ∀ {α : Type} {a : α} {s : S} {Q : α → S → Prop} {E : Exn → S → Prop}, wp (pure a) s Q E → Q a s
  wp_bind : ∀ {α β : Type} {x : m α} {f : α → m β} {s : S} {Q : β → S → Prop} {E : Exn → S → Prop}, wp (x >>= f) s Q E → wp x s (fun a s' => wp (f a) s' Q E) E
  tryC : {α : Type} → m α → (Exn → m α) → m α
  wp_try : ∀ {α : Type} {x : m α} {h : Exn → m α} {s : S} {Q : α → S → Prop} {E : Exn → S → Prop}, wp (tryC x h) s Q E → wp x s Q (fun e s' => wp (h e) s' Q E)
  noex : {α : Type} → m α → m α
  wp_noex : ∀ {α : Type} {x : m α} {s : S} {Q : α → S → Prop} {E : Exn → S → Prop}, wp (noex x) s Q E → wp x s Q (fun _ _ => False)
  wp_lift : ∀ {α : Type} {r : R α} {s : S} {Q : α → S → Prop} {E : Exn → S → Prop}, wp (lift r) s Q E → (match r with | .ok a => Q a s | .ex e => E e s | .stuck => False)
def R.wp {α : Type} (x : R α) (s : S) (Q : α → S → Prop) (E : Exn → S → Prop) : Prop := match x with
  | .ok a => Q a s
  | .ex e => E e s
  | .stuck => False
def MO.wp {α : Type} (x : MO α) (Q : α → S → Prop) (E : Exn → S → Prop) : Prop := match x with
  | .ok a s => Q a s
  | .ex e s => E e s
  | .stuck => False
/-- an exception is none here -/
@[simp] def R.nx {α : Type} : R α → R α
  | .ok a => .ok a
  | .ex _ => .stuck
  | .stuck => .stuck
@[simp] def MO.nx {α : Type} : MO α → MO α
  | .ok a s => .ok a s
  | .ex _ _ => .stuck
  | .stuck => .stuck
def M.nx {α : Type} (x : M α) : M α := fun s => (x s).nx
@[simp] def R.tr {α : Type} : R α → (Exn → R α) → R α
  | .ok a, _ => .ok a
  | .ex e, h => h e
  | .stuck, _ => .stuck
@[simp] def MO.tr {α : Type} : MO α → (Exn → M α) → MO α
  | .ok a s, _ => .ok a s
  | .ex e s, h => h e s
  | .stuck, _ => .stuck
def M.tr {α : Type} (x : M α) (h : Exn → M α) : M α := fun s => (x s).tr h
instance : Mo R where
  tryC := R.tr
  wp_try := fun {α x h s Q E} w => by
    cases x with
    | ok a => exact w
    | ex e => exact w
    | stuck => exact w
  noex := R.nx
  wp_noex := fun {α x s Q E} h => by
    cases x with
    | ok a => exact h
    | ex e => exact h
    | stuck => exact h
  lift := fun x => x
  wp := R.wp
  wp_mono := fun {α x s Q Q' E E'} h hq he => by
    cases x with
    | ok a => exact hq _ _ h
    | ex e => exact he _ _ h
    | stuck => exact h
  wp_pure := fun h => h
  wp_bind := fun {α β x f s Q E} h => by
    cases x with
    | ok a => exact h
    | ex e => exact h
    | stuck => exact h
  wp_lift := fun {α r s Q E} h => by cases r <;> exact h
def liftM' {α : Type} (r : R α) : M α := fun s => match r with
  | .ok a => .ok a s
  | .ex e => .ex e s
  | .stuck => .stuck
instance : Mo M where
  tryC := M.tr
  wp_try := fun {α x h s Q E} w => by
    have w' : ((x s).tr h).wp Q E := w
    show (x s).wp _ _
    cases e : x s with
    | ok a s' => rw [e] at w'; exact w'
    | ex ee s' => rw [e] at w'; exact w'
    | stuck => rw [e] at w'; exact w'
  noex := M.nx
  wp_noex := fun {α x s Q E} h => by
    have h' : ((x s).nx).wp Q E := h
    show (x s).wp _ _
    cases e : x s with
    | ok a s' => rw [e] at h'; exact h'
    | ex ee s' => rw [e] at h'; exact h'
    | stuck => rw [e] at h'; exact h'
  lift := liftM'
  wp := fun x s Q E => (x s).wp Q E
  wp_mono := fun {α x s Q Q' E E'} h hq he => by
    show (x s).wp Q' E'
    have h' : (x s).wp Q E := h
    cases e : x s with
    | ok a s' => rw [e] at h'; exact hq _ _ h'
    | ex ee s' => rw [e] at h'; exact he _ _ h'
    | stuck => rw [e] at h'; exact h'
  wp_pure := fun h => h
  wp_bind := fun {α β x f s Q E} h => by
    have h' : ((x s).bd f).wp Q E := h
    show (x s).wp _ _
    cases e : x s with
    | ok a s' => rw [e] at h'; exact h'
    | ex ee s' => rw [e] at h'; exact h'
    | stuck => rw [e] at h'; exact h'
  wp_lift := fun {α r s Q E} h => by cases r <;> exact h
end DL
namespace DL
open PySem L2
/-! ### a datum stands at a value -/
def Sub (H H' : Hp) : Prop := ∀ a o, H a = some o → H' a = some o
theorem Sub.refl (H : Hp) : Sub H H := fun _ _ h => h
theorem Sub.trans {H H1 H2 : Hp} (a : Sub H H1) (b : Sub H1 H2) : Sub H H2 := fun x o h => b x o (a x o h)
theorem Sub.rd {H H' : Hp} {a : Addr} {u : HO} (e : Sub H H') (h : Rd H a u) : Rd H' a u := by
  rcases h with h | ⟨o, h⟩
  · exact .inl (e a _ h)
  · exact .inr ⟨o, e a _ h⟩
theorem Sub.sql {K : PySem.W.Frag} {H H' : Hp} {a : Addr} {xs : List V} (e : Sub H H') (h : SqL K H a xs) : SqL K H' a xs := by
  rcases h with h | h
  · exact .inl (e.rd h)
  · exact .inr h
theorem Sub.sqt {K : PySem.W.Frag} {H H' : Hp} {a : Addr} {xs : List V} (e : Sub H H') (h : SqT K H a xs) : SqT K H' a xs := by
  rcases h with h | h
  · exact .inl (e.rd h)
  · exact .inr h
section
variable (K : PySem.W.Frag) (mg : Str → Option Value)
mutual
def Is (H : Hp) : D → V → Prop
  | .non, v => v = .non
  | .bl b, v => v = .bl b
  | .int i, v => v = .int i
  | .str s, v => v = .str ⟨s.toArray⟩ ∧ s.length ≤ sizeLine
  | .tup ds, v => ds.length ≤ sizeLine ∧ ∃ a vs, v = .ref a ∧ SqT K H a vs ∧ IsL H ds vs
  | .lst ds, v => ds.length ≤ sizeLine ∧ ∃ a vs, v = .ref a ∧ H a = some (.lst vs) ∧ IsL H ds vs
  | .dic ks ds, v => ∃ a kvs, v = .ref a ∧ Rd H a (.dK kvs) ∧ IsL H ks (kvs.map fun p => kV p.1) ∧ IsL H ds (kvs.map fun p => p.2)
  | .ins c ns ds, v => ∃ a C dx vs, v = .ref a ∧ mg c = some (.ref C) ∧ H a = some (.ins C dx (ns.zip vs)) ∧ ns.length = vs.length ∧ IsL H ds vs
  | .scr is, v => is.length ≤ sizeLine ∧ ∃ a, v = .ref a ∧ SqL K H a (is.map V.int)
  | .xc a dd f d, v => v = .ref a ∧ ∃ u, H dd = some (.xd [(f, u)]) ∧ Is H d u
def IsL (H : Hp) : List D → List V → Prop
  | [], vs => vs = []
  | d :: ds, vs => ∃ v r, vs = v :: r ∧ Is H d v ∧ IsL H ds r
end
end
section
variable {K : PySem.W.Frag} {mg : Str → Option Value}
mutual
theorem Is.mono {H H' : Hp} (s : Sub H H') : ∀ {d : D} {v : V}, Is K mg H d v → Is K mg H' d v
  | .non, _, h => h
  | .bl _, _, h => h
  | .int _, _, h => h
  | .str _, _, h => h
  | .tup ds, _, h => by
    obtain ⟨z, a, vs, e, t, l⟩ := h
    exact ⟨z, a, vs, e, s.sqt t, IsL.mono s l⟩
  | .lst ds, _, h => by
    obtain ⟨z, a, vs, e, t, l⟩ := h
    exact ⟨z, a, vs, e, s _ _ t, IsL.mono s l⟩
  | .dic ks ds, _, h => by
    obtain ⟨a, kvs, e, t, l, l'⟩ := h
    exact ⟨a, kvs, e, s.rd t, IsL.mono s l, IsL.mono s l'⟩
  | .ins c ns ds, _, h => by
    obtain ⟨a, C, dx, vs, e, m, t, n, l⟩ := h
    exact ⟨a, C, dx, vs, e, m, s _ _ t, n, IsL.mono s l⟩
  | .scr is, _, h => by
    obtain ⟨z, a, e, t⟩ := h
    exact ⟨z, a, e, s.sql t⟩
  | .xc a dd f d, _, h => by
    obtain ⟨e, u, q, i⟩ := h
    exact ⟨e, u, s _ _ q, Is.mono s i⟩
theorem IsL.mono {H H' : Hp} (s : Sub H H') : ∀ {ds : List D} {vs : List V}, IsL K mg H ds vs → IsL K mg H' ds vs
  | [], _, h => h
  | d :: ds, _, h => by
    obtain ⟨v, r, e, i, l⟩ := h
    exact ⟨v, r, e, Is.mono s i, IsL.mono s l⟩
end
theorem IsL.nil {H : Hp} : IsL K mg H [] [] := rfl
theorem IsL.cons {H : Hp} {d : D} {ds : List D} {v : V} {vs : List V} (h : Is K mg H d v) (l : IsL K mg H ds vs) : IsL K mg H (d :: ds) (v :: vs) := ⟨v, vs, rfl, h, l⟩
theorem IsL.len {H : Hp} : ∀ {ds : List D} {vs : List V}, IsL K mg H ds vs → ds.length = vs.length
  | [], _, h => by cases h; rfl
  | d :: ds, _, h => by
    obtain ⟨v, r, rfl, _, l⟩ := h
    simp [IsL.len l]
theorem IsL.app {H : Hp} : ∀ {ds es : List D} {vs ws : List V}, IsL K mg H ds vs → IsL K mg H es ws → IsL K mg H (ds ++ es) (vs ++ ws)
  | [], _, _, _, h, l => by cases h; exact l
  | d :: ds, _, _, _, h, l => by
    obtain ⟨v, r, rfl, i, t⟩ := h
    exact ⟨v, r ++ _, rfl, i, IsL.app t l⟩
theorem IsL.get {H : Hp} : ∀ {ds : List D} {vs : List V} {i : Nat} {d : D}, IsL K mg H ds vs → ds[i]? = some d → ∃ v, vs[i]? = some v ∧ Is K mg H d v
  | [], _, _, _, h, e => by simp at e
  | d :: ds, _, 0, _, h, e => by
    obtain ⟨v, r, rfl, i, t⟩ := h
    simp at e; subst e
    exact ⟨v, rfl, i⟩
  | d :: ds, _, i + 1, _, h, e => by
    obtain ⟨v, r, rfl, _, t⟩ := h
    simpa using IsL.get (i := i) t (by simpa using e)
theorem IsL.drop {H : Hp} : ∀ {ds : List D} {vs : List V} (n : Nat), IsL K mg H ds vs → IsL K mg H (ds.drop n) (vs.drop n)
  | _, _, 0, h => h
  | [], _, n + 1, h => by cases h; exact rfl
  | d :: ds, _, n + 1, h => by
    obtain ⟨v, r, rfl, _, t⟩ := h
    exact IsL.drop n t
theorem IsL.take {H : Hp} : ∀ {ds : List D} {vs : List V} (n : Nat), IsL K mg H ds vs → IsL K mg H (ds.take n) (vs.take n)
  | _, _, 0, h => rfl
  | [], _, n + 1, h => by cases h; exact rfl
  | d :: ds, _, n + 1, h => by
    obtain ⟨v, r, rfl, i, t⟩ := h
    exact ⟨v, _, rfl, i, IsL.take n t⟩
theorem IsL.set {H : Hp} {d' : D} {v' : V} (h' : Is K mg H d' v') : ∀ {ds : List D} {vs : List V} (n : Nat), IsL K mg H ds vs → IsL K mg H (ds.set n d') (vs.set n v')
  | [], _, _, h => by cases h; exact rfl
  | d :: ds, _, 0, h => by
    obtain ⟨v, r, rfl, _, t⟩ := h
    exact ⟨v', r, rfl, h', t⟩
  | d :: ds, _, n + 1, h => by
    obtain ⟨v, r, rfl, i, t⟩ := h
    exact ⟨v, _, rfl, i, IsL.set h' n t⟩
theorem IsL.eraseIdx {H : Hp} : ∀ {ds : List D} {vs : List V} (n : Nat), IsL K mg H ds vs → IsL K mg H (ds.eraseIdx n) (vs.eraseIdx n)
  | [], _, _, h => by cases h; exact rfl
  | d :: ds, _, 0, h => by
    obtain ⟨v, r, rfl, _, t⟩ := h
    exact t
  | d :: ds, _, n + 1, h => by
    obtain ⟨v, r, rfl, i, t⟩ := h
    exact ⟨v, _, rfl, i, IsL.eraseIdx n t⟩
theorem IsL.reverse {H : Hp} : ∀ {ds : List D} {vs : List V}, IsL K mg H ds vs → IsL K mg H ds.reverse vs.reverse
  | [], _, h => by cases h; exact rfl
  | d :: ds, _, h => by
    obtain ⟨v, r, rfl, i, t⟩ := h
    rw [List.reverse_cons, List.reverse_cons]
    exact (IsL.reverse t).app (.cons i .nil)
end
/-! ### the state -/
/-- the bag's content stands -/
def BagAt (bag : List Addr) (H : Hp) (s : S) : Prop := match bag with
  | [] => True
  | [b] => s.w = false ∧ H b = some (.lst [.int s.x, .int s.y])
  | b :: c :: _ => s.w = true ∧ b ≠ c ∧ H b = some (.lst [.ref c, .int s.y, .int s.z]) ∧ H c = some (.lst (s.l.map V.int))
structure Ste (bag : List Addr) (Hf H Hf' H' : Hp) : Prop where
  sub : Sub Hf Hf'
  top : Sub Hf' H'
  keep : ∀ a o, H a = some o → a ∉ bag → H' a = some o
  dom : ∀ a, H a ≠ none → H' a ≠ none
  fresh : ∀ a o, Hf' a = some o → Hf a = some o ∨ H a = none
theorem Ste.refl {bag : List Addr} {Hf H : Hp} (h : Sub Hf H) : Ste bag Hf H Hf H := ⟨.refl _, h, fun _ _ e _ => e, fun _ e => e, fun _ _ e => .inl e⟩
theorem Ste.trans {bag : List Addr} {Hf H Hf1 H1 Hf2 H2 : Hp} (a : Ste bag Hf H Hf1 H1) (b : Ste bag Hf1 H1 Hf2 H2) : Ste bag Hf H Hf2 H2 :=
  ⟨a.sub.trans b.sub, b.top, fun x o e n => b.keep x o (a.keep x o e n) n, fun x e => b.dom x (a.dom x e), fun x o e => by
    rcases b.fresh x o e with h | h
    · exact a.fresh x o h
    · refine .inr ?_
      cases q : H x with
      | none => rfl
      | some u => exact absurd h (a.dom x (by rw [q]; simp))⟩
theorem Ste.wide {bag : List Addr} {Hf H Hf' H' : Hp} (a : Ste [] Hf H Hf' H') : Ste bag Hf H Hf' H' :=
  ⟨a.sub, a.top, fun x o e _ => a.keep x o e (by simp), a.dom, a.fresh⟩
theorem Ste.bag {bag : List Addr} {Hf H Hf' H' : Hp} {s : S} (a : Ste [] Hf H Hf' H') (h : BagAt bag H s) : BagAt bag H' s := by
  match bag, h with
  | [], _ => trivial
  | [b], ⟨hw, h⟩ => exact ⟨hw, a.keep _ _ h (by simp)⟩
  | b :: c :: _, ⟨hw, h0, h1, h2⟩ => exact ⟨hw, h0, a.keep _ _ h1 (by simp), a.keep _ _ h2 (by simp)⟩
/-- a new object, frozen at once -/
theorem Ste.new {bag : List Addr} {Hf H : Hp} {p : Addr} {o : HO} (h : Sub Hf H) (hp : H p = none) : Ste bag Hf H (upd Hf p o) (upd H p o) := by
  have hf : Hf p = none := by
    cases q : Hf p with
    | none => rfl
    | some u => rw [h _ _ q] at hp; cases hp
  refine ⟨fun a u e => ?_, fun a u e => ?_, fun a u e _ => ?_, fun a e => ?_, fun a u e => ?_⟩
  · rw [upd_ne (ne_of_none e hf)]; exact e
  · by_cases q : a = p
    · subst q; rw [upd_same] at e ⊢; exact e
    · rw [upd_ne q] at e ⊢; exact h _ _ e
  · rw [upd_ne (ne_of_none e hp)]; exact e
  · by_cases q : a = p
    · subst q; exact absurd hp e
    · rw [upd_ne q]; exact e
  · by_cases q : a = p
    · subst q; exact .inr hp
    · rw [upd_ne q] at e; exact .inl e
/-- a new object, not frozen -/
theorem Ste.new' {bag : List Addr} {Hf H : Hp} {p : Addr} {o : HO} (h : Sub Hf H) (hp : H p = none) : Ste bag Hf H Hf (upd H p o) := by
  refine ⟨.refl _, fun a u e => ?_, fun a u e _ => ?_, fun a e => ?_, fun a u e => .inl e⟩
  · have : H a = some u := h _ _ e
    rw [upd_ne (ne_of_none this hp)]; exact this
  · rw [upd_ne (ne_of_none e hp)]; exact e
  · by_cases q : a = p
    · subst q; exact absurd hp e
    · rw [upd_ne q]; exact e
theorem Sub.none {Hf H : Hp} (h : Sub Hf H) {p : Addr} (hp : H p = none) : Hf p = none := by
  cases q : Hf p with
  | none => rfl
  | some u => rw [h _ _ q] at hp; cases hp
/-- a slot: forgotten, a datum, a list of the frame's own, the bag -/
inductive Sl where
  | un
  | im (d : D)
  | ow (ds : List D)
  | bg
  /-- a dict of the frame's own -/
  | od (ks ds : List D)
  /-- the object that is being made -/
  | ob (ns : List Str) (ds : List D)
structure Fx where
  bag : List Addr
  H0 : Hp
  Hf0 : Hp
  W : WX
  /-- what stands of the slots where an exception leaves -/
  gx : Option (List Sl)
  /-- the def's answers are new lists -/
  nr : Bool
  /-- the object that is being made -/
  me : List Addr
  /-- its attributes' names -/
  nas : List Str
section
variable (K : PySem.W.Frag) (mg : Str → Option Value)
def SlOk (fx : Fx) (Hf H : Hp) (o : Option (Option V)) : Sl → Prop
  | .un => True
  | .im d => ∃ v, o = some (some v) ∧ Is K mg Hf d v
  | .ow ds => ∃ p vs, o = some (some (.ref p)) ∧ H p = some (.lst vs) ∧ Hf p = none ∧ fx.H0 p = none ∧ p ∉ fx.bag ∧ IsL K mg Hf ds vs ∧ ds.length ≤ sizeLine
  | .bg => ∃ b r, fx.bag = b :: r ∧ o = some (some (.ref b))
  | .od ks ds => ∃ p kvs, o = some (some (.ref p)) ∧ H p = some (.dK kvs) ∧ Hf p = none ∧ fx.H0 p = none ∧ p ∉ fx.bag ∧ IsL K mg Hf ks (kvs.map fun p => kV p.1) ∧ IsL K mg Hf ds (kvs.map fun p => p.2) ∧ ks.length ≤ sizeLine
  | .ob ns ds => ∃ p C dx vs, o = some (some (.ref p)) ∧ H p = some (.ins C dx (ns.zip vs)) ∧ Hf p = none ∧ (p ∈ fx.me ∧ ∃ f0, fx.H0 p = some (.ins C dx f0)) ∧ p ∉ fx.bag ∧ (Cls K C ∧ ∀ f ∈ fx.nas, NoAttr K C f) ∧ ns.length = vs.length ∧ IsL K mg Hf ds vs
/-- how a def's answer stands: a datum, or a new list of its own -/
def RtOk : Bool → Hp → Hp → Hp → D → V → Prop
  | false, _, Hf', _, d, v => Is K mg Hf' d v
  | true, H0, Hf', H', d, v => ∃ p vs ds, d = .lst ds ∧ v = .ref p ∧ H' p = some (.lst vs) ∧ Hf' p = none ∧ H0 p = none ∧ IsL K mg Hf' ds vs ∧ ds.length ≤ sizeLine
def isOw : Sl → Bool
  | .ow _ => true
  | .od _ _ => true
  | .ob _ _ => true
  | _ => false
structure StS (fx : Fx) (Hf H : Hp) (σ : L2.St) (G : List Sl) (s : S) : Prop where
  ste : Ste (fx.me ++ fx.bag) fx.Hf0 fx.H0 Hf H
  bag : BagAt fx.bag H s
  bagg : ∀ b ∈ fx.me ++ fx.bag, Hf b = none ∧ H b ≠ none ∧ (b ∈ fx.me → fx.H0 b ≠ none)
  len : σ.length = G.length
  sl : ∀ (i : Nat) (x : Sl), G[i]? = some x → SlOk K mg fx Hf H σ[i]? x
  dis : ∀ (i j : Nat) (x y : Sl) (p : Addr), i ≠ j → G[i]? = some x → G[j]? = some y → isOw x = true → isOw y = true → σ[i]? = some (some (.ref p)) → σ[j]? = some (some (.ref p)) → False
end
section
variable {K : PySem.W.Frag} {mg : Str → Option Value} {fx : Fx} {Hf H Hf' H' : Hp} {σ : L2.St} {G G' : List Sl} {s s' : S}
theorem StS.bagf (st : StS K mg fx Hf H σ G s) : ∀ b ∈ fx.bag, Hf b = none ∧ H b ≠ none := fun b m => ⟨(st.bagg b (List.mem_append_right _ m)).1, (st.bagg b (List.mem_append_right _ m)).2.1⟩
/-- an own place is not of the bag, nor the object's that is made -/
theorem StS.owNb (st : StS K mg fx Hf H σ G s) {p : Addr} (h0 : fx.H0 p = none) (nb : p ∉ fx.bag) : p ∉ fx.me ++ fx.bag := fun m => by
  rcases List.mem_append.mp m with q | q
  · exact (st.bagg p m).2.2 q h0
  · exact nb q
theorem Ste.wider {bag bag' : List Addr} {Hf H Hf' H' : Hp} (a : Ste bag Hf H Hf' H') : Ste (bag' ++ bag) Hf H Hf' H' :=
  ⟨a.sub, a.top, fun x o e n => a.keep x o e fun z => n (List.mem_append_right _ z), a.dom, a.fresh⟩
theorem StS.top (st : StS K mg fx Hf H σ G s) : Sub Hf H := st.ste.top
theorem Ste.stayNone {bag : List Addr} {Hf H Hf' H' : Hp} (a : Ste bag Hf H Hf' H') {p : Addr} (hf : Hf p = none) (h : H p ≠ none) : Hf' p = none := by
  cases q : Hf' p with
  | none => rfl
  | some u =>
    rcases a.fresh _ _ q with z | z
    · rw [hf] at z; cases z
    · exact absurd z h
theorem SlOk.step {o : Option (Option V)} (a : Ste fx.bag Hf H Hf' H') : ∀ {x : Sl}, SlOk K mg fx Hf H o x → SlOk K mg fx Hf' H' o x
  | .un, _ => trivial
  | .im d, ⟨v, e, i⟩ => ⟨v, e, i.mono a.sub⟩
  | .ow ds, ⟨p, vs, e, h, hf, h0, nb, l, z⟩ => ⟨p, vs, e, a.keep _ _ h nb, a.stayNone hf (by rw [h]; simp), h0, nb, l.mono a.sub, z⟩
  | .bg, h => h
  | .od ks ds, ⟨p, vs, e, h, hf, h0, nb, l, l', z⟩ => ⟨p, vs, e, a.keep _ _ h nb, a.stayNone hf (by rw [h]; simp), h0, nb, l.mono a.sub, l'.mono a.sub, z⟩
  | .ob ns ds, ⟨p, C, dx, vs, e, h, hf, h0, nb, c, hn, l⟩ => ⟨p, C, dx, vs, e, a.keep _ _ h nb, a.stayNone hf (by rw [h]; simp), h0, nb, c, hn, l.mono a.sub⟩
theorem StS.step (st : StS K mg fx Hf H σ G s) (a : Ste fx.bag Hf H Hf' H') (hb : BagAt fx.bag H' s') : StS K mg fx Hf' H' σ G s' :=
  ⟨st.ste.trans a.wider, hb, fun b m => ⟨a.stayNone (st.bagg b m).1 (st.bagg b m).2.1, a.dom _ (st.bagg b m).2.1, (st.bagg b m).2.2⟩, st.len, fun i x e => (st.sl i x e).step a, st.dis⟩
/-- weaker slots -/
def Wk : List Sl → List Sl → Prop
  | [], [] => True
  | x :: xs, y :: ys => (x = y ∨ y = .un) ∧ Wk xs ys
  | _, _ => False
theorem Wk.len : ∀ {G G' : List Sl}, Wk G G' → G.length = G'.length
  | [], [], _ => rfl
  | _ :: _, _ :: _, h => by simp [Wk.len h.2]
  | [], _ :: _, h => h.elim
  | _ :: _, [], h => h.elim
theorem Wk.get : ∀ {G G' : List Sl} {i : Nat} {y : Sl}, Wk G G' → G'[i]? = some y → ∃ x, G[i]? = some x ∧ (x = y ∨ y = .un)
  | [], [], _, _, _, e => by simp at e
  | x :: _, y :: _, 0, _, h, e => by simp at e; subst e; exact ⟨x, rfl, h.1⟩
  | _ :: _, _ :: _, i + 1, _, h, e => by simpa using Wk.get (i := i) h.2 (by simpa using e)
  | [], _ :: _, _, _, h, _ => h.elim
  | _ :: _, [], _, _, h, _ => h.elim
theorem Wk.refl : ∀ (G : List Sl), Wk G G
  | [] => trivial
  | x :: xs => ⟨.inl rfl, Wk.refl xs⟩
theorem StS.weak (st : StS K mg fx Hf H σ G s) (w : Wk G G') : StS K mg fx Hf H σ G' s :=
  ⟨st.ste, st.bag, st.bagg, st.len.trans w.len, fun i y e => by
    obtain ⟨x, ex, h⟩ := w.get e
    rcases h with rfl | rfl
    · exact st.sl i x ex
    · trivial, fun i j x y p hij ex ey ox oy => by
    obtain ⟨x', ex', hx⟩ := w.get ex
    obtain ⟨y', ey', hy⟩ := w.get ey
    rcases hx with rfl | rfl
    · rcases hy with rfl | rfl
      · exact st.dis i j _ _ p hij ex' ey' ox oy
      · cases oy
    · cases ox⟩
/-- a datum is stored -/
theorem StS.set {i : Nat} {d : D} {v : V} (st : StS K mg fx Hf H σ G s) (h : Is K mg Hf d v) : StS K mg fx Hf H (σ.set i (some v)) (G.set i (.im d)) s := by
  refine ⟨st.ste, st.bag, st.bagg, by simpa using st.len, fun j x e => ?_, fun j k x y p hjk ex ey ox oy e1 e2 => ?_⟩
  · by_cases q : i = j
    · subst q
      have hi : i < G.length := by
        have := (List.getElem?_eq_some_iff.mp e).1
        simpa using this
      rw [List.getElem?_set_self hi] at e
      cases e
      exact ⟨v, List.getElem?_set_self (by rw [st.len]; exact hi), h⟩
    · rw [List.getElem?_set_ne q] at e
      rw [List.getElem?_set_ne q]
      exact st.sl j x e
  · have nj : i ≠ j := by
      rintro rfl
      have hi : i < G.length := by
        have := (List.getElem?_eq_some_iff.mp ex).1
        simpa using this
      rw [List.getElem?_set_self hi] at ex
      cases ex; cases ox
    have nk : i ≠ k := by
      rintro rfl
      have hi : i < G.length := by
        have := (List.getElem?_eq_some_iff.mp ey).1
        simpa using this
      rw [List.getElem?_set_self hi] at ey
      cases ey; cases oy
    rw [List.getElem?_set_ne nj] at ex e1
    rw [List.getElem?_set_ne nk] at ey e2
    exact st.dis j k x y p hjk ex ey ox oy e1 e2
/-- a new list of one's own is stored -/
theorem StS.setOw {i : Nat} {ds : List D} {p : Addr} {vs : List V} (st : StS K mg fx Hf H σ G s) (hn : ∀ (j : Nat) (q : Addr), σ[j]? = some (some (.ref q)) → (∀ x, G[j]? = some x → isOw x = true → q ≠ p)) (h : H p = some (.lst vs)) (hf : Hf p = none) (h0 : fx.H0 p = none) (nb : p ∉ fx.bag) (l : IsL K mg Hf ds vs) (hz : ds.length ≤ sizeLine) :
    StS K mg fx Hf H (σ.set i (some (.ref p))) (G.set i (.ow ds)) s := by
  refine ⟨st.ste, st.bag, st.bagg, by simpa using st.len, fun j x e => ?_, fun j k x y q hjk ex ey ox oy e1 e2 => ?_⟩
  · by_cases q : i = j
    · subst q
      have hi : i < G.length := by
        have := (List.getElem?_eq_some_iff.mp e).1
        simpa using this
      rw [List.getElem?_set_self hi] at e
      cases e
      exact ⟨p, vs, List.getElem?_set_self (by rw [st.len]; exact hi), h, hf, h0, nb, l, hz⟩
    · rw [List.getElem?_set_ne q] at e
      rw [List.getElem?_set_ne q]
      exact st.sl j x e
  · have hi : ∀ {z : Sl}, (G.set i (.ow ds))[i]? = some z → i < σ.length := fun e => by
      have := (List.getElem?_eq_some_iff.mp e).1
      rw [st.len]
      simpa using this
    by_cases a : i = j
    · subst a
      rw [List.getElem?_set_self (hi ex)] at e1
      have hk : i ≠ k := hjk
      rw [List.getElem?_set_ne hk] at ey e2
      cases e1
      exact hn k p e2 y ey oy rfl
    · rw [List.getElem?_set_ne a] at ex e1
      by_cases b : i = k
      · subst b
        rw [List.getElem?_set_self (hi ey)] at e2
        cases e2
        exact hn j p e1 x ex ox rfl
      · rw [List.getElem?_set_ne b] at ey e2
        exact st.dis j k x y q hjk ex ey ox oy e1 e2
end
theorem BagAt.upd {bag : List Addr} {H : Hp} {s : S} {p : Addr} {o : HO} (h : BagAt bag H s) (nb : p ∉ bag) : BagAt bag (L2.upd H p o) s := by
  match bag, h, nb with
  | [], _, _ => trivial
  | [b], h, nb =>
    have e : H b = some (.lst [.int s.x, .int s.y]) := h.2
    refine ⟨h.1, ?_⟩
    rw [upd_ne (fun z => nb (by simp [z]))]
    exact e
  | b :: c :: r, ⟨hw, h0, h1, h2⟩, nb =>
    refine ⟨hw, h0, ?_, ?_⟩
    · rw [upd_ne (fun z => nb (by simp [z]))]; exact h1
    · rw [upd_ne (fun z => nb (by simp [z]))]; exact h2
section
variable {K : PySem.W.Frag} {mg : Str → Option Value} {fx : Fx} {Hf H : Hp} {σ : L2.St} {G : List Sl} {s : S}
theorem SlOk.ref {o : Option (Option V)} : ∀ {x : Sl}, isOw x = true → SlOk K mg fx Hf H o x → ∃ p, o = some (some (.ref p)) ∧ H p ≠ none ∧ Hf p = none ∧ p ∉ fx.bag ∧ (fx.H0 p = none ∨ p ∈ fx.me)
  | .un, h, _ => by cases h
  | .im d, h, _ => by cases h
  | .bg, h, _ => by cases h
  | .ow ds, _, ⟨p, vs, e, h, hf, h0, nb, l, z⟩ => ⟨p, e, by rw [h]; simp, hf, nb, .inl h0⟩
  | .od ks ds, _, ⟨p, vs, e, h, hf, h0, nb, l, l', z⟩ => ⟨p, e, by rw [h]; simp, hf, nb, .inl h0⟩
  | .ob ns ds, _, ⟨p, C, dx, vs, e, h, hf, h0, nb, c, hn, l⟩ => ⟨p, e, by rw [h]; simp, hf, nb, .inr h0.1⟩
theorem SlOk.upd {o : Option (Option V)} {p : Addr} {u : HO} : ∀ {x : Sl}, (∀ q, isOw x = true → o = some (some (.ref q)) → q ≠ p) → SlOk K mg fx Hf H o x → SlOk K mg fx Hf (L2.upd H p u) o x
  | .un, _, _ => trivial
  | .im d, _, h => h
  | .bg, _, h => h
  | .ow ds, w, ⟨q, vs, e, h, hf, h0, nb, l, z⟩ => ⟨q, vs, e, by rw [upd_ne (w q rfl e)]; exact h, hf, h0, nb, l, z⟩
  | .od ks ds, w, ⟨q, vs, e, h, hf, h0, nb, l, l', z⟩ => ⟨q, vs, e, by rw [upd_ne (w q rfl e)]; exact h, hf, h0, nb, l, l', z⟩
  | .ob ns ds, w, ⟨q, C, dx, vs, e, h, hf, h0, nb, c, hn, l⟩ => ⟨q, C, dx, vs, e, by rw [upd_ne (w q rfl e)]; exact h, hf, h0, nb, c, hn, l⟩
theorem SlOk.frz {o : Option (Option V)} {p : Addr} {u : HO} (sb : Sub Hf (L2.upd Hf p u)) : ∀ {x : Sl}, (∀ q, isOw x = true → o = some (some (.ref q)) → q ≠ p) → SlOk K mg fx Hf H o x → SlOk K mg fx (L2.upd Hf p u) H o x
  | .un, _, _ => trivial
  | .im d, _, ⟨v, a, b⟩ => ⟨v, a, b.mono sb⟩
  | .bg, _, h => h
  | .ow ds, w, ⟨q, vs, e, h, hf, h0, nb, l, z⟩ => ⟨q, vs, e, h, by rw [upd_ne (w q rfl e)]; exact hf, h0, nb, l.mono sb, z⟩
  | .od ks ds, w, ⟨q, vs, e, h, hf, h0, nb, l, l', z⟩ => ⟨q, vs, e, h, by rw [upd_ne (w q rfl e)]; exact hf, h0, nb, l.mono sb, l'.mono sb, z⟩
  | .ob ns ds, w, ⟨q, C, dx, vs, e, h, hf, h0, nb, c, hn, l⟩ => ⟨q, C, dx, vs, e, h, by rw [upd_ne (w q rfl e)]; exact hf, h0, nb, c, hn, l.mono sb⟩
/-- the own thing of slot i is changed -/
theorem StS.updAt {i : Nat} {x x' : Sl} {p : Addr} {u : HO} (st : StS K mg fx Hf H σ G s) (hG : G[i]? = some x) (ox : isOw x = true) (hp : σ[i]? = some (some (.ref p))) (ox' : isOw x' = true) (new : SlOk K mg fx Hf (upd H p u) (some (some (.ref p))) x') :
    StS K mg fx Hf (upd H p u) σ (G.set i x') s := by
  obtain ⟨q, e, h, hf, nb, h0⟩ := (st.sl i _ hG).ref ox
  have eq : q = p := by rw [hp] at e; cases e; rfl
  subst eq
  have hi : i < G.length := (List.getElem?_eq_some_iff.mp hG).1
  clear e
  refine ⟨⟨st.ste.sub, fun a o e => ?_, fun a o e n => ?_, fun a n => ?_, st.ste.fresh⟩, st.bag.upd nb, fun b m => ⟨(st.bagg b m).1, ?_, (st.bagg b m).2.2⟩, by simpa using st.len, fun j x ex => ?_, fun j k x y r hjk ex ey ox oy e1 e2 => ?_⟩
  · have ne : a ≠ q := fun z => by rw [z, hf] at e; cases e
    rw [upd_ne ne]
    exact st.top a o e
  · have ne : a ≠ q := fun z => by
      rcases h0 with y | y
      · rw [z, y] at e; cases e
      · exact n (List.mem_append_left _ (z ▸ y))
    rw [upd_ne ne]
    exact st.ste.keep a o e n
  · by_cases ne : a = q
    · rw [ne, upd_same]; simp
    · rw [upd_ne ne]; exact st.ste.dom a n
  · by_cases ne : b = q
    · rw [ne, upd_same]; simp
    · rw [upd_ne ne]
      exact (st.bagg b m).2.1
  · by_cases c : i = j
    · subst c
      rw [List.getElem?_set_self hi] at ex
      cases ex
      rw [hp]
      exact new
    · rw [List.getElem?_set_ne c] at ex
      exact (st.sl j x ex).upd fun q2 o2 e2 z => st.dis i j _ _ q c hG ex ox o2 hp (by rw [e2, z])
  · have get : ∀ {n : Nat} {z : Sl}, (G.set i x')[n]? = some z → isOw z = true → ∃ z', G[n]? = some z' ∧ isOw z' = true := fun {n z} e o => by
      by_cases c : i = n
      · subst c; exact ⟨_, hG, by assumption⟩
      · rw [List.getElem?_set_ne c] at e; exact ⟨z, e, o⟩
    obtain ⟨x1, ex', ox1⟩ := get ex ox
    obtain ⟨y1, ey', oy1⟩ := get ey oy
    exact st.dis j k x1 y1 r hjk ex' ey' ox1 oy1 e1 e2
/-- the own list of slot i is changed -/
theorem StS.updOw {i : Nat} {ds ds' : List D} {p : Addr} {vs' : List V} (st : StS K mg fx Hf H σ G s) (hG : G[i]? = some (.ow ds)) (hp : σ[i]? = some (some (.ref p))) (l : IsL K mg Hf ds' vs') (hz : ds'.length ≤ sizeLine) :
    StS K mg fx Hf (upd H p (.lst vs')) σ (G.set i (.ow ds')) s := by
  obtain ⟨q, vs, e, h, hf, h0, nb, l0, z0⟩ := st.sl i _ hG
  have eq : q = p := by rw [hp] at e; cases e; rfl
  subst eq
  exact st.updAt hG rfl hp rfl ⟨q, vs', rfl, upd_same, hf, h0, nb, l, hz⟩
/-- a slot's own thing becomes a datum -/
theorem StS.freezeAt {i : Nat} {x : Sl} {d : D} {p : Addr} {u : HO} (st : StS K mg fx Hf H σ G s) (hG : G[i]? = some x) (ox : isOw x = true) (hp : σ[i]? = some (some (.ref p))) (hu : H p = some u) (h0 : fx.H0 p = none) (is : ∀ Hf', Sub Hf Hf' → Hf' p = some u → Is K mg Hf' d (.ref p)) :
    ∃ Hf', (Sub Hf Hf' ∧ ∀ a o, Hf' a = some o → Hf a = some o ∨ o = u) ∧ StS K mg fx Hf' H σ (G.set i (.im d)) s := by
  obtain ⟨q, e, h, hf, nb, _⟩ := (st.sl i _ hG).ref ox
  have eq : q = p := by rw [hp] at e; cases e; rfl
  subst eq
  have hi : i < G.length := (List.getElem?_eq_some_iff.mp hG).1
  have sb : Sub Hf (upd Hf q u) := fun a o z => by
    have ne : a ≠ q := fun y => by rw [y, hf] at z; cases z
    rw [upd_ne ne]; exact z
  refine ⟨upd Hf q u, ⟨sb, fun a o z => by
    by_cases c : a = q
    · subst c; rw [upd_same] at z; cases z; exact .inr rfl
    · rw [upd_ne c] at z; exact .inl z⟩, ⟨st.ste.sub.trans sb, fun a o z => ?_, st.ste.keep, st.ste.dom, fun a o z => ?_⟩, st.bag, fun b m => ⟨?_, (st.bagg b m).2⟩, by simpa using st.len, fun j x ex => ?_, fun j k x y r hjk ex ey ox oy e1 e2 => ?_⟩
  · by_cases c : a = q
    · subst c; rw [upd_same] at z; cases z; exact hu
    · rw [upd_ne c] at z; exact st.top a o z
  · by_cases c : a = q
    · subst c; exact .inr h0
    · rw [upd_ne c] at z; exact st.ste.fresh a o z
  · have ne : b ≠ q := fun z => st.owNb h0 nb (z ▸ m)
    rw [upd_ne ne]; exact (st.bagg b m).1
  · by_cases c : i = j
    · subst c
      rw [List.getElem?_set_self hi] at ex
      cases ex
      exact ⟨_, e, is _ sb upd_same⟩
    · rw [List.getElem?_set_ne c] at ex
      exact (st.sl j x ex).frz sb fun q2 o2 e2 z => st.dis i j _ _ q c hG ex ox o2 hp (by rw [e2, z])
  · have nx : i ≠ j := fun z => by subst z; rw [List.getElem?_set_self hi] at ex; cases ex; cases ox
    have ny : i ≠ k := fun z => by subst z; rw [List.getElem?_set_self hi] at ey; cases ey; cases oy
    rw [List.getElem?_set_ne nx] at ex
    rw [List.getElem?_set_ne ny] at ey
    exact st.dis j k x y r hjk ex ey ox oy e1 e2
/-- a slot's own list becomes a datum -/
theorem StS.freeze {i : Nat} {ds : List D} (st : StS K mg fx Hf H σ G s) (hG : G[i]? = some (.ow ds)) : ∃ Hf', Sub Hf Hf' ∧ StS K mg fx Hf' H σ (G.set i (.im (.lst ds))) s := by
  obtain ⟨p, vs, e, h, hf, h0, nb, l0, z0⟩ := st.sl i _ hG
  obtain ⟨Hf', ⟨sb, _⟩, st'⟩ := st.freezeAt (d := .lst ds) hG rfl e h h0 fun Hf' sb z => ⟨z0, p, vs, rfl, z, l0.mono sb⟩
  exact ⟨Hf', sb, st'⟩
/-- the same, and what is new is a list -/
theorem StS.freeze2 {i : Nat} {ds : List D} (st : StS K mg fx Hf H σ G s) (hG : G[i]? = some (.ow ds)) : ∃ Hf', Sub Hf Hf' ∧ (∀ a o, Hf' a = some o → Hf a = some o ∨ ∃ vs, o = .lst vs) ∧ StS K mg fx Hf' H σ (G.set i (.im (.lst ds))) s := by
  obtain ⟨p, vs, e, h, hf, h0, nb, l0, z0⟩ := st.sl i _ hG
  obtain ⟨Hf', ⟨sb, nw⟩, st'⟩ := st.freezeAt (d := .lst ds) hG rfl e h h0 fun Hf' sb z => ⟨z0, p, vs, rfl, z, l0.mono sb⟩
  exact ⟨Hf', sb, fun a o z => (nw a o z).imp id fun e => ⟨_, e⟩, st'⟩
/-- an address that the heap does not know is not of the entry, nor the bag's -/
theorem StS.new0 (st : StS K mg fx Hf H σ G s) {p : Addr} (h : H p = none) : fx.H0 p = none ∧ p ∉ fx.bag ∧ Hf p = none := by
  refine ⟨?_, fun m => (st.bagf p m).2 h, st.top.none h⟩
  cases q : fx.H0 p with
  | none => rfl
  | some o => exact absurd h (st.ste.dom p (by rw [q]; simp))
theorem StS.owNe (st : StS K mg fx Hf H σ G s) {p : Addr} (h : H p = none) : ∀ (j : Nat) (q : Addr), σ[j]? = some (some (.ref q)) → (∀ x, G[j]? = some x → isOw x = true → q ≠ p) := fun j q e x ex ox z => by
  obtain ⟨q2, e2, h2, _⟩ := (st.sl j _ ex).ref ox
  rw [e] at e2
  cases e2
  rw [z] at h2
  exact h2 h
end
end DL
namespace DL
open PySem L2
/-! ### judgements -/
section
variable (K : PySem.W.Frag) (mg : Str → Option Value) (fx : Fx)
def ExIs (Hf H : Hp) (e : Exn) (cls : Value) (dd : Option Addr) : Prop :=
  ∃ C a v, mg e.c = some (.ref C) ∧ cls = .ref C ∧ dd = some a ∧ Hf a = some (.xd [(e.f, v)]) ∧ Is K mg Hf e.d v
/-- what is wanted of an exception -/
def EX (G : List Sl) (σ : L2.St) : Exn → S → Prop := fun e s' => ∀ cls dd Hf' H', StS K mg fx Hf' H' σ G s' → ExIs K mg Hf' H' e cls dd → fx.W cls dd σ H'
variable {m : Type → Type} [Mo m] {α β : Type}
def tX (G : List Sl) (rl : Hp → α → β → Prop) (x : m α) (Hf : Hp) (s : S) (σ : L2.St) (H : Hp) (Q : β → Hp → Prop) : Prop :=
  StS K mg fx Hf H σ G s ∧ Mo.wp x s (fun a s' => ∀ b Hf' H', Ste fx.bag Hf H Hf' H' → BagAt fx.bag H' s' → rl Hf' a b → Q b H') (EX K mg fx G σ)
def tG (G : List Sl) (rl : Hp → α → β → Prop) (x : m α) : L2.St → Hp → (β → Hp → Prop) → Prop := fun σ H Q => ∃ Hf s, tX K mg fx G rl x Hf s σ H Q
abbrev tE (G : List Sl) (x : m D) : TE := tG K mg fx G (fun H d v => Is K mg H d v) x
abbrev tT (G : List Sl) (x : m Bool) : TT := tG K mg fx G (fun _ a b => b = a) x
abbrev tA (G : List Sl) (x : m (List D)) : TA := tG K mg fx G (fun H d v => IsL K mg H d v) x
end
section
variable {K : PySem.W.Frag} {mg : Str → Option Value} {fx : Fx} {m : Type → Type} [Mo m] {α β γ δ : Type} {G : List Sl} {rl : Hp → α → β → Prop} {rm : Hp → γ → δ → Prop}
theorem tX.mono {x : m α} {Hf : Hp} {s : S} {σ : L2.St} {H : Hp} {Q Q' : β → Hp → Prop} (h : tX K mg fx G rl x Hf s σ H Q) (q : ∀ b H', Q b H' → Q' b H') : tX K mg fx G rl x Hf s σ H Q' :=
  ⟨h.1, Mo.wp_mono h.2 (fun a s' k b Hf' H' e bg r => q b H' (k b Hf' H' e bg r)) fun e s' k => k⟩
theorem tX.bind {x : m α} {k : α → m γ} {Hf : Hp} {s : S} {σ : L2.St} {H : Hp} {Q : δ → Hp → Prop} (h : tX K mg fx G rm (x >>= k) Hf s σ H Q) :
    tX K mg fx G rl x Hf s σ H (fun b H1 => ∃ a Hf1 s1, Sub Hf Hf1 ∧ rl Hf1 a b ∧ tX K mg fx G rm (k a) Hf1 s1 σ H1 Q) :=
  ⟨h.1, Mo.wp_mono (Mo.wp_bind h.2) (fun a s1 h1 b Hf1 H1 ste bag r => ⟨a, Hf1, s1, ste.sub, r, h.1.step ste bag,
      Mo.wp_mono h1 (fun c s2 h2 d Hf2 H2 ste2 bag2 r2 => h2 d Hf2 H2 (ste.trans ste2) bag2 r2) fun e s2 h2 => h2⟩)
    fun e s' k => k⟩
theorem tX.pure {a : α} {Hf : Hp} {s : S} {σ : L2.St} {H : Hp} {Q : β → Hp → Prop} (h : tX K mg fx G rl (Pure.pure a : m α) Hf s σ H Q) {b : β} (r : rl Hf a b) : Q b H :=
  (Mo.wp_pure h.2) b Hf H (.refl h.1.top) h.1.bag r
theorem tX.to {x : m α} {Hf : Hp} {s : S} {σ : L2.St} {H : Hp} {Q : β → Hp → Prop} (h : tX K mg fx G rl x Hf s σ H Q) : tG K mg fx G rl x σ H Q := ⟨Hf, s, h⟩
end
/-- a question with an answer or none -/
def ask {m : Type → Type} [Mo m] {α : Type} (o : Option α) : m α := Mo.lift (match o with | some a => .ok a | none => .stuck)
@[simp] theorem ask_some {α : Type} (a : α) : (ask (some a) : R α) = .ok a := rfl
@[simp] theorem ask_none {α : Type} : (ask (none : Option α) : R α) = .stuck := rfl
@[simp] theorem askM_some {α : Type} (a : α) (s : S) : (ask (some a) : M α) s = .ok a s := rfl
@[simp] theorem askM_none {α : Type} (s : S) : (ask (none : Option α) : M α) s = .stuck := rfl
section
variable {K : PySem.W.Frag} {mg : Str → Option Value} {fx : Fx} {m : Type → Type} [Mo m] {α β : Type} {G : List Sl} {rl : Hp → α → β → Prop}
/-- what follows from an answer -/
theorem tX.ask {o : Option α} {Hf : Hp} {s : S} {σ : L2.St} {H : Hp} {Q : β → Hp → Prop} (h : tX K mg fx G rl (DL.ask o : m α) Hf s σ H Q) :
    ∃ a, o = some a ∧ ∀ b Hf' H', Ste [] Hf H Hf' H' → rl Hf' a b → Q b H' := by
  have h2 := Mo.wp_lift h.2
  cases o with
  | none => exact h2.elim
  | some a => exact ⟨a, rfl, fun b Hf' H' e r => h2 b Hf' H' e.wide (e.bag h.1.bag) r⟩
end
section
variable {X : Cx}
theorem peI {e : Expr} {t t' : TE} (h : PE X e t) (w : ∀ σ H Q, t' σ H Q → t σ H Q) : PE X e t' := ⟨fun pins s σ H Q I q => h.run pins s σ H Q I (w _ _ _ q)⟩
theorem ptI {e : Expr} {t t' : TT} (h : PT X e t) (w : ∀ σ H Q, t' σ H Q → t σ H Q) : PT X e t' := ⟨fun pins s σ H Q I q => h.run pins s σ H Q I (w _ _ _ q)⟩
theorem pwI {e : Expr} {t t' : TT} (h : PW X e t) (w : ∀ σ H Q, t' σ H Q → t σ H Q) : PW X e t' := ⟨fun wh pins s σ H Q I q => h.run wh pins s σ H Q I (w _ _ _ q)⟩
theorem paI {e : List Expr} {t t' : TA} (h : PA X e t) (w : ∀ σ H Q, t' σ H Q → t σ H Q) : PA X e t' := ⟨fun pos pins s σ H Q I q => h.run pos pins s σ H Q I (w _ _ _ q)⟩
theorem pssI {e : List Stmt} {t t' : TS} (h : PSs X e t) (w : ∀ D σ H, t' D σ H → t D σ H) : PSs X e t' := ⟨fun pins s σ H D I q => h.run pins s σ H D I (w _ _ _ q)⟩
theorem psI {e : Stmt} {t t' : TS} (h : PS X e t) (w : ∀ D σ H, t' D σ H → t D σ H) : PS X e t' := ⟨fun pins s σ H D I q => h.run pins s σ H D I (w _ _ _ q)⟩
end
/-! ### operators by data -/
section
variable (K : PySem.W.Frag) (mg : Str → Option Value)
/-- a function of data, of two values -/
def rD2 (f : D → D → Option D) : R2 := fun x y H Q => ∃ Hf dx dy d, Sub Hf H ∧ Is K mg Hf dx x ∧ Is K mg Hf dy y ∧ f dx dy = some d ∧ ∀ u Hf' H', Ste [] Hf H Hf' H' → Is K mg Hf' d u → Q u H'
def rDs (f : List D → Option D) : List V → Hp → VK → Prop := fun xs H Q => ∃ Hf ds d, Sub Hf H ∧ IsL K mg Hf ds xs ∧ f ds = some d ∧ ∀ u Hf' H', Ste [] Hf H Hf' H' → Is K mg Hf' d u → Q u H'
end
section
variable {X : Cx} {fx : Fx} {m : Type → Type} [Mo m] {G : List Sl} {a b c : Expr} {es : List Expr} {pos : Pos} {x y z : m D} {ys : m (List D)} {f : D → D → Option D}
theorem de_op {op : Operator} (ho : OpR X (binaryOp op) (rD2 X.K X.mg f)) (ha : PE X a (tE X.K X.mg fx G x)) (hb : PE X b (tE X.K X.mg fx G y)) :
    PE X (.BinOp a op b pos) (tE X.K X.mg fx G (do let u ← x; let v ← y; ask (f u v))) := peI (pe_op ho ha hb) fun σ H Q ⟨Hf, s, h⟩ =>
  (h.bind.mono fun v1 H1 ⟨d1, Hf1, s1, sb1, r1, h1⟩ => (h1.bind.mono fun v2 H2 ⟨d2, Hf2, s2, sb2, r2, h2⟩ => by
    obtain ⟨d, e, q⟩ := h2.ask
    exact ⟨Hf2, d1, d2, d, h2.1.top, r1.mono sb2, r2, e, q⟩).to).to
theorem de_cmp {op : CmpOp} (ho : OpR X (compareOp op) (rD2 X.K X.mg f)) (ha : PE X a (tE X.K X.mg fx G x)) (hb : PE X b (tE X.K X.mg fx G y)) (hm : behindInMarks op b = false) :
    PE X (.Compare a [op] [b] pos) (tE X.K X.mg fx G (do let u ← x; let v ← y; ask (f u v))) := peI (pe_cmpR ho ha hb hm) fun σ H Q ⟨Hf, s, h⟩ =>
  (h.bind.mono fun v1 H1 ⟨d1, Hf1, s1, sb1, r1, h1⟩ => (h1.bind.mono fun v2 H2 ⟨d2, Hf2, s2, sb2, r2, h2⟩ => by
    obtain ⟨d, e, q⟩ := h2.ask
    exact ⟨Hf2, d1, d2, d, h2.1.top, r1.mono sb2, r2, e, q⟩).to).to
/-- a truth value as a test -/
def bOf : D → Option Bool
  | .bl b => some b
  | _ => none
theorem dt_cmp {op : CmpOp} (ho : OpR X (compareOp op) (rD2 X.K X.mg f)) (ha : PE X a (tE X.K X.mg fx G x)) (hb : PE X b (tE X.K X.mg fx G y)) (hm : behindInMarks op b = false) :
    PT X (.Compare a [op] [b] pos) (tT X.K X.mg fx G (do let u ← x; let v ← y; ask ((f u v).bind bOf))) := ptI (pt_cmpR ho ha hb hm) fun σ H Q ⟨Hf, s, h⟩ =>
  (h.bind.mono fun v1 H1 ⟨d1, Hf1, s1, sb1, r1, h1⟩ => (h1.bind.mono fun v2 H2 ⟨d2, Hf2, s2, sb2, r2, h2⟩ => by
    obtain ⟨k, e, q⟩ := h2.ask
    cases e' : f d1 d2 with
    | none => rw [e'] at e; cases e
    | some d =>
      rw [e'] at e
      cases d with
      | bl b' =>
        have : b' = k := Option.some.inj e
        subst this
        exact ⟨Hf2, d1, d2, _, h2.1.top, r1.mono sb2, r2, e', fun u Hf' H' st i => ⟨b', i, q b' Hf' H' st rfl⟩⟩
      | _ => cases e).to).to
theorem da_nil : PA X [] (tA X.K X.mg fx G (pure [] : m (List D))) := paI pa_nil fun σ H Q ⟨Hf, s, h⟩ => h.pure rfl
theorem da_cons (ha : PE X a (tE X.K X.mg fx G x)) (hr : PA X es (tA X.K X.mg fx G ys)) (hs : starEach (a :: es) X.env = (false, eval a X.env) :: starEach es X.env := by rfl) :
    PA X (a :: es) (tA X.K X.mg fx G (do let d ← x; let ds ← ys; pure (d :: ds))) := paI (pa_cons ha hr hs) fun σ H Q ⟨Hf, s, h⟩ =>
  (h.bind.mono fun v1 H1 ⟨d1, Hf1, s1, sb1, r1, h1⟩ => (h1.bind.mono fun v2 H2 ⟨d2, Hf2, s2, sb2, r2, h2⟩ => h2.pure (IsL.cons (r1.mono sb2) r2)).to).to
theorem de_callB {g : List D → Option D} {id : String} {n : Str} {p : Pos} {e : Expr} (hc : CallR X (.builtin id) (rDs X.K X.mg g)) (hg : Gl X n) (hm : X.mg n = none) (hv : bootBuiltins n = some (.builtin id)) (ha : PA X (e :: es) (tA X.K X.mg fx G ys))
    (hn : n ≠ "__name__" := by decide) (hdb : (n == ("__debug__" : Str)) = false := by decide) (he : starEach (e :: es) X.env = (false, eval e X.env) :: starEach es X.env := by rfl) (hpl : (backTo pos (starEach es X.env)).any (·.1) = false := by rfl) :
    PE X (.Call (.Name n p) (e :: es) [] pos) (tE X.K X.mg fx G (do let ds ← ys; ask (g ds))) := peI (pe_callB hc hg hm hv ha hn hdb he hpl) fun σ H Q ⟨Hf, s, h⟩ =>
  (h.bind.mono fun v1 H1 ⟨d1, Hf1, s1, sb1, r1, h1⟩ => by
    obtain ⟨d, e, q⟩ := h1.ask
    exact ⟨Hf1, d1, d, h1.1.top, r1, e, q⟩).to
theorem de_callTy {g : List D → Option D} {T : String} {n : Str} {p : Pos} {e : Expr} (hc : CallR X (.type T) (rDs X.K X.mg g)) (hg : Gl X n) (hm : X.mg n = none) (hv : bootBuiltins n = some (.type T)) (ha : PA X (e :: es) (tA X.K X.mg fx G ys))
    (hn : n ≠ "__name__" := by decide) (hdb : (n == ("__debug__" : Str)) = false := by decide) (he : starEach (e :: es) X.env = (false, eval e X.env) :: starEach es X.env := by rfl) (hpl : (backTo pos (starEach es X.env)).any (·.1) = false := by rfl) :
    PE X (.Call (.Name n p) (e :: es) [] pos) (tE X.K X.mg fx G (do let ds ← ys; ask (g ds))) := peI (pe_callTy hc hg hm hv ha hn hdb he hpl) fun σ H Q ⟨Hf, s, h⟩ =>
  (h.bind.mono fun v1 H1 ⟨d1, Hf1, s1, sb1, r1, h1⟩ => by
    obtain ⟨d, e, q⟩ := h1.ask
    exact ⟨Hf1, d1, d, h1.1.top, r1, e, q⟩).to
theorem de_var (i : Nat) {d : D} {n : Str} (hG : G[i]? = some (.im d) := by rfl) (hN : X.N[i]? = some n := by rfl) (hv : Vis X.env.scope n := by first | exact Or.inl rfl | exact Or.inr (Or.inl rfl) | exact Or.inr (Or.inr rfl))
    (hd : (n == ("__debug__" : Str)) = false := by decide) (hcd : (n == ("__classdict__" : Str)) = false := by decide) : PE X (.Name n pos) (tE X.K X.mg fx G (pure d : m D)) :=
  peI (pe_var hN hv hd hcd) fun σ H Q ⟨Hf, s, h⟩ => by
    obtain ⟨v, e, i⟩ := h.1.sl i _ hG
    exact ⟨v, e, h.pure i⟩
theorem de_int {j : Nat} {i : Int} : PE X (.Constant (.int i) j pos) (tE X.K X.mg fx G (pure (.int i) : m D)) := peI pe_int fun σ H Q ⟨Hf, s, h⟩ => h.pure (by rw [Is])
theorem de_bl {j : Nat} {i : Bool} : PE X (.Constant (.bool i) j pos) (tE X.K X.mg fx G (pure (.bl i) : m D)) := peI pe_bl fun σ H Q ⟨Hf, s, h⟩ => h.pure (by rw [Is])
theorem de_non {j : Nat} : PE X (.Constant .none j pos) (tE X.K X.mg fx G (pure .non : m D)) := peI pe_non fun σ H Q ⟨Hf, s, h⟩ => h.pure (by rw [Is])
theorem de_str {j : Nat} {t : Str} (l : List Nat) (ht : t = ⟨l.toArray⟩ := by first | rfl | decide +kernel) (hl : l.length ≤ 1000 := by decide) : PE X (.Constant (.str t) j pos) (tE X.K X.mg fx G (pure (.str l) : m D)) :=
  peI pe_str fun σ H Q ⟨Hf, s, h⟩ => h.pure (by rw [Is, ht]; exact ⟨rfl, Nat.le_of_lt (small1000 hl)⟩)
/-- a global constant -/
theorem de_glob {n : Str} {u : Value} {v : V} {d : D} (hg : Gl X n) (hm : X.mg n = some u) (r : RelV v u) (hi : Is X.K X.mg (fun _ => none) d v) (hd : (n == ("__debug__" : Str)) = false := by decide) : PE X (.Name n pos) (tE X.K X.mg fx G (pure d : m D)) :=
  peI (pe_glob hg hm r hd) fun σ H Q ⟨Hf, s, h⟩ => h.pure (hi.mono fun a o e => by cases e)
end
end DL
namespace DL
open PySem L2
/-! ### statements -/
inductive Fl (α β : Type) where
  | nx (a : α)
  | rt (d : D)
  | bk (b : β)
  | ct (b : β)
section
variable {m : Type → Type} [Mo m] {α β γ : Type}
def seqF (x : m (Fl α β)) (k : α → m (Fl γ β)) : m (Fl γ β) := do
  match ← x with
  | .nx a => k a
  | .rt d => pure (.rt d)
  | .bk b => pure (.bk b)
  | .ct b => pure (.ct b)
def forF (u : D → Option γ) (xb : α → γ → m (Fl α α)) : List D → α → m (Fl α β)
  | [], a => pure (.nx a)
  | d :: ds, a => do
    let c ← ask (u d)
    match ← xb a c with
    | .nx a' => forF u xb ds a'
    | .ct a' => forF u xb ds a'
    | .bk a' => pure (.nx a')
    | .rt d => pure (.rt d)
end
section
variable (K : PySem.W.Frag) (mg : Str → Option Value) (fx : Fx)
def GxOk (G : List Sl) : Prop := match fx.gx with
  | none => True
  | some g => Wk G g
/-- where an exception leaves a statement -/
def XSt (Hf H : Hp) (σ : L2.St) (s : S) : Prop := match fx.gx with
  | none => Ste (fx.me ++ fx.bag) fx.Hf0 fx.H0 Hf H ∧ BagAt fx.bag H s
  | some g => StS K mg fx Hf H σ g s
def EXS : Exn → S → Prop := fun e s' => ∀ cls dd σ' Hf' H', XSt K mg fx Hf' H' σ' s' → ExIs K mg Hf' H' e cls dd → fx.W cls dd σ' H'
variable {α β : Type}
def FP (Hf : Hp) (ex : α → List Sl) (exb : β → List Sl) (De : Ends) : Fl α β → S → Prop := fun f s' => match f with
  | .nx a => ∀ Hf' H' σ', Sub Hf Hf' → StS K mg fx Hf' H' σ' (ex a) s' → De.nx σ' H'
  | .rt d => ∀ v Hf' H', Ste (fx.me ++ fx.bag) fx.Hf0 fx.H0 Hf' H' → BagAt fx.bag H' s' → RtOk K mg fx.nr fx.H0 Hf' H' d v → De.rt v H'
  | .bk b => ∀ Hf' H' σ', Sub Hf Hf' → StS K mg fx Hf' H' σ' (exb b) s' → De.bk σ' H'
  | .ct b => ∀ Hf' H' σ', Sub Hf Hf' → StS K mg fx Hf' H' σ' (exb b) s' → De.ct σ' H'
variable {m : Type → Type} [Mo m]
def tSX (G : List Sl) (ex : α → List Sl) (exb : β → List Sl) (x : m (Fl α β)) (Hf : Hp) (s : S) (De : Ends) (σ : L2.St) (H : Hp) : Prop :=
  StS K mg fx Hf H σ G s ∧ Mo.wp x s (FP K mg fx Hf ex exb De) (EXS K mg fx)
def tS (G : List Sl) (ex : α → List Sl) (exb : β → List Sl) (x : m (Fl α β)) : TS := fun De σ H => ∃ Hf s, tSX K mg fx G ex exb x Hf s De σ H
end
section
variable {K : PySem.W.Frag} {mg : Str → Option Value} {fx : Fx} {m : Type → Type} [Mo m] {α β γ δ ε : Type} {G G' : List Sl} {ex : α → List Sl} {exb : β → List Sl} {rm : Hp → γ → δ → Prop}
theorem exs_ex {σ : L2.St} {e : Exn} {s : S} (hx : GxOk fx G) (h : EXS K mg fx e s) : EX K mg fx G σ e s := fun cls dd Hf' H' st xi => by
  refine h cls dd σ Hf' H' ?_ xi
  unfold XSt
  unfold GxOk at hx
  cases q : fx.gx with
  | none => exact ⟨st.ste, st.bag⟩
  | some g =>
    rw [q] at hx
    exact st.weak hx
theorem FP.up {Hf Hf1 : Hp} {De : Ends} {f : Fl α β} {s : S} (sb : Sub Hf Hf1) (h : FP K mg fx Hf ex exb De f s) : FP K mg fx Hf1 ex exb De f s := by
  cases f with
  | nx a => exact fun Hf' H' σ' sb' => h Hf' H' σ' (sb.trans sb')
  | rt d => exact h
  | bk b => exact fun Hf' H' σ' sb' => h Hf' H' σ' (sb.trans sb')
  | ct b => exact fun Hf' H' σ' sb' => h Hf' H' σ' (sb.trans sb')
theorem tSX.to {x : m (Fl α β)} {Hf : Hp} {s : S} {σ : L2.St} {H : Hp} {De : Ends} (h : tSX K mg fx G ex exb x Hf s De σ H) : tS K mg fx G ex exb x De σ H := ⟨Hf, s, h⟩
theorem tSX.bind {x : m γ} {k : γ → m (Fl α β)} {Hf : Hp} {s : S} {σ : L2.St} {H : Hp} {De : Ends} (h : tSX K mg fx G ex exb (x >>= k) Hf s De σ H) (hx : GxOk fx G) :
    tX K mg fx G rm x Hf s σ H (fun b H1 => ∃ a Hf1 s1, Sub Hf Hf1 ∧ rm Hf1 a b ∧ tSX K mg fx G ex exb (k a) Hf1 s1 De σ H1) :=
  ⟨h.1, Mo.wp_mono (Mo.wp_bind h.2) (fun a s1 h1 b Hf1 H1 ste bag r => ⟨a, Hf1, s1, ste.sub, r, h.1.step ste bag, Mo.wp_mono h1 (fun f s2 h2 => h2.up ste.sub) fun e s' k => k⟩) fun e s' k => exs_ex hx k⟩
theorem tSX.weak {x : m (Fl α β)} {Hf : Hp} {s : S} {σ : L2.St} {H : Hp} {De : Ends} (h : tSX K mg fx G ex exb x Hf s De σ H) (w : Wk G G') : tSX K mg fx G' ex exb x Hf s De σ H := ⟨h.1.weak w, h.2⟩
theorem tSX.seq {exA : ε → List Sl} {x : m (Fl ε β)} {k : ε → m (Fl α β)} {Hf : Hp} {s : S} {σ : L2.St} {H : Hp} {De : Ends} (h : tSX K mg fx G ex exb (seqF x k) Hf s De σ H) :
    tSX K mg fx G exA exb x Hf s { De with nx := fun σ' H' => ∃ a, tS K mg fx (exA a) ex exb (k a) De σ' H' } σ H :=
  ⟨h.1, Mo.wp_mono (Mo.wp_bind h.2) (fun f s1 h1 => by
    cases f with
    | nx a => exact fun Hf' H' σ' sb st => ⟨a, Hf', s1, st, Mo.wp_mono h1 (fun f s2 h2 => h2.up sb) fun e s' k => k⟩
    | rt d => have z := Mo.wp_pure h1; exact z
    | bk b => have z := Mo.wp_pure h1; exact z
    | ct b => have z := Mo.wp_pure h1; exact z) fun e s' k => k⟩
end
section
variable {X : Cx}
theorem pss_ex {ι : Type} {sts : List Stmt} {t : ι → TS} (h : ∀ i, PSs X sts (t i)) : PSs X sts (fun D σ H => ∃ i, t i D σ H) := ⟨fun pins s σ H D I ⟨i, q⟩ => (h i).run pins s σ H D I q⟩
/-- what a context bears -/
structure Cok (X : Cx) (fx : Fx) (k : Nat) : Prop where
  calm : X.calm = true
  hp : PassesOwn (model X.prog X.w) X.A X.env X.xe
  tk : Takes X fx.W
  rm : Room k X.A
  nd : X.N.Nodup
  gd : X.A.guards = some []
end
section
variable {X : Cx} {fx : Fx} {m : Type → Type} [Mo m] {α β γ δ ε : Type} {G G' : List Sl} {ex : α → List Sl} {exb : β → List Sl} {exA : ε → List Sl} {rest A B : List Stmt} {pos : Pos} {kk : Nat} {x : m D} {k : D → m (Fl α β)} {e : Expr} {i : Nat}
theorem dss_nil {a : α} (w : Wk G (ex a)) : PSs X [] (tS X.K X.mg fx G ex exb (pure (.nx a) : m (Fl α β))) := pssI pss_nil fun D σ H ⟨Hf, s, h⟩ =>
  (Mo.wp_pure h.2) Hf H σ (.refl _) (h.1.weak w)
/-- x = e -/
theorem dss_asg (C : Cok X fx kk) {n : Str} {pos' : Pos} (i : Nat) (he : PE X e (tE X.K X.mg fx G x)) (hr : ∀ d, PSs X rest (tS X.K X.mg fx (G.set i (.im d)) ex exb (k d))) (hi : X.N[i]? = some n := by rfl) (hx : Loc X.env.scope n := by first | exact Or.inl rfl | exact Or.inr rfl)
    (hs : swapsWith e (some (.Name n pos')) pos.line X.env = pure false := by rfl) (hf : X.fn n = true ∨ X.env.scope.names.lookup n = some .local := by first | exact .inl rfl | exact .inr rfl) (hg : GxOk fx G := by first | trivial | repeat' (first | exact True.intro | exact Or.inl rfl | exact Or.inr rfl | refine And.intro ?_ ?_)) :
    PSs X (.Assign [.Name n pos'] e pos :: rest) (tS X.K X.mg fx G ex exb (x >>= k)) := pssI (pss_cons (ps_set C.nd hi hx he hs hf) (pss_ex hr)) fun D σ H ⟨Hf, s, h⟩ =>
  ((h.bind hg).mono fun v H1 ⟨d, Hf1, s1, sb, r, h1⟩ => ⟨d, Hf1, s1, h1.1.set r, h1.2⟩).to
/-- return e -/
theorem dss_ret (he : PE X e (tE X.K X.mg fx G x)) (hnr : fx.nr = false := by rfl) (hg : GxOk fx G := by first | trivial | repeat' (first | exact True.intro | exact Or.inl rfl | exact Or.inr rfl | refine And.intro ?_ ?_)) : PSs X (.Return (some e) pos :: rest) (tS X.K X.mg fx G ex exb (do let d ← x; pure (.rt d))) := pssI (pss_cons (ps_ret he) pss_never) fun D σ H ⟨Hf, s, h⟩ =>
  ((h.bind hg).mono fun v H1 ⟨d, Hf1, s1, sb, r, h1⟩ => (Mo.wp_pure h1.2) v Hf1 H1 h1.1.ste h1.1.bag (by rw [hnr]; exact r)).to
/-- if -/
theorem dss_if {c : Expr} {xc : m Bool} {xa xb : m (Fl ε β)} {k : ε → m (Fl α β)} (hc : PT X c (tT X.K X.mg fx G xc)) (ha : PSs X A (tS X.K X.mg fx G exA exb xa)) (hb : PSs X B (tS X.K X.mg fx G exA exb xb)) (hr : ∀ a, PSs X rest (tS X.K X.mg fx (exA a) ex exb (k a))) (hg : GxOk fx G := by first | trivial | repeat' (first | exact True.intro | exact Or.inl rfl | exact Or.inr rfl | refine And.intro ?_ ?_)) :
    PSs X (.If c A B pos :: rest) (tS X.K X.mg fx G ex exb (do let t ← xc; seqF (if t = true then xa else xb) k)) := pssI (pss_cons (ps_if hc ha hb) (pss_ex hr)) fun D σ H ⟨Hf, s, h⟩ =>
  ((h.bind hg).mono fun v H1 ⟨d, Hf1, s1, sb, r, h1⟩ => by
    cases r
    cases v with
    | true => exact h1.seq.to
    | false => exact h1.seq.to).to
end
/-! ### what is walked -/
section
variable (K : PySem.W.Frag) (mg : Str → Option Value)
def Yl (J : It) (Hf0 : Hp) (ds : List D) : Prop := ds.length ≤ sizeLine ∧ ∀ Hf H, Sub Hf0 Hf → Sub Hf H → ∀ i : Nat,
  (∀ d, ds[i]? = some d → J.go i H ∧ ∀ x H', J.yld i H x H' → ∃ Hf', Ste [] Hf H Hf' H' ∧ Is K mg Hf' d x) ∧ (ds.length ≤ i → J.stop i H)
abbrev tI (fx : Fx) (G : List Sl) {m : Type → Type} [Mo m] (x : m (List D)) : TI := tG K mg fx G (fun Hf ds J => Yl K mg J Hf ds) x
end
section
variable {X : Cx} {fx : Fx} {m : Type → Type} [Mo m] {α β γ : Type} {G G' : List Sl} {ex : α → List Sl} {exb : β → List Sl} {rest body : List Stmt} {pos : Pos} {kk : Nat}
/-- a target: it takes c of the datum (u), and sets slots (st) -/
def PGd (X : Cx) (fx : Fx) (tg : Expr) (g : TG) (u : D → Option γ) (st : List Sl → γ → List Sl) (is : List Nat) : Prop :=
  PG X tg g ∧ ∀ {G : List Sl} {Hf : Hp} {d : D} {v : V} {σ : L2.St} {H : Hp} {s : S} {c : γ} {Q : L2.St → Hp → Prop}, StS X.K X.mg fx Hf H σ G s → Is X.K X.mg Hf d v → u d = some c → (∀ σ', (∀ j, j ∉ is → σ'[j]? = σ[j]?) → σ'.length = σ.length → StS X.K X.mg fx Hf H σ' (st G c) s → Q σ' H) → g v σ H Q
theorem pgd_name (C : Cok X fx kk) (i : Nat) {n : Str} (hi : X.N[i]? = some n := by rfl) (hx : Loc X.env.scope n := by first | exact Or.inl rfl | exact Or.inr rfl) (hf : X.fn n = true ∨ X.env.scope.names.lookup n = some .local := by first | exact .inl rfl | exact .inr rfl) :
    PGd X fx (.Name n pos) (gName i) (fun d => some d) (fun G d => G.set i (.im d)) [i] :=
  ⟨pg_name C.nd hi hx hf, fun {G Hf d v σ H s c Q} st r e q => by
    cases e
    exact q _ (fun j hj => List.getElem?_set_ne (fun z => hj (by simp [z]))) (by simp) (st.set r)⟩
theorem dss_for {ε : Type} {exl : ε → List Sl} {tg iter : Expr} {g : TG} {u : D → Option γ} {st : List Sl → γ → List Sl} {xi : m (List D)} {xb : ε → γ → m (Fl ε ε)} {k : ε → m (Fl α β)} {is : List Nat} (a0 : ε) (C : Cok X fx kk) (hi : PI X tg iter (tI X.K X.mg fx G xi)) (hg : PGd X fx tg g u st is)
    (w : Wk G (exl a0)) (hb : ∀ a c, PSs X body (tS X.K X.mg fx (st (exl a) c) exl exl (xb a c))) (hr : ∀ a, PSs X rest (tS X.K X.mg fx (exl a) ex exb (k a))) (hs : ∀ x, foldedSetIterable iter X.env x = pure x := by intro _; rfl) (hx : GxOk fx G := by first | trivial | repeat' (first | exact True.intro | exact Or.inl rfl | exact Or.inr rfl | refine And.intro ?_ ?_)) :
    PSs X (.For tg iter body [] pos :: rest) (tS X.K X.mg fx G ex exb (do let ds ← xi; seqF (forF u xb ds a0) k)) := by
  refine pssI (pss_cons (ps_for C.hp C.calm hi hg.1 (pss_ex (ι := ε × γ) (t := fun p => tS X.K X.mg fx (st (exl p.1) p.2) exl exl (xb p.1 p.2)) fun p => hb p.1 p.2) hs) (pss_ex hr)) fun D σ H ⟨Hf, s, h⟩ => ?_
  refine ((h.bind hx).mono fun J H1 ⟨ds, Hf1, s1, sb, yl, h1⟩ => ?_).to
  have h2 := h1.seq (exA := exl)
  obtain ⟨st1, w1⟩ := h2
  refine ⟨fun i m σ H => m = ds.length - i ∧ i ≤ ds.length ∧ ∃ a Hf s, Sub Hf1 Hf ∧ StS X.K X.mg fx Hf H σ (exl a) s ∧
    Mo.wp (forF (β := β) u xb (ds.drop i) a) s (FP X.K X.mg fx Hf exl exb { D with nx := fun σ' H' => ∃ a, tS X.K X.mg fx (exl a) ex exb (k a) D σ' H' }) (EXS X.K X.mg fx), ⟨ds.length, by simp, Nat.zero_le _, a0, Hf1, s1, .refl _, st1.weak w, w1⟩, ?_⟩
  rintro i m σ H ⟨rfl, hi, a, Hf2, s2, sb2, st2, w2⟩
  obtain ⟨y1, y2⟩ := yl.2 Hf2 H sb2 st2.top i
  by_cases hlt : i < ds.length
  · obtain ⟨go, yd⟩ := y1 ds[i] (List.getElem?_eq_getElem hlt)
    rw [List.drop_eq_getElem_cons hlt] at w2
    have w3 := Mo.wp_bind w2
    have w4 := Mo.wp_lift w3
    refine .inr ⟨go, fun σ' H' => i + 1 ≤ ds.length ∧ ∃ a Hf s, Sub Hf1 Hf ∧ StS X.K X.mg fx Hf H' σ' (exl a) s ∧
      Mo.wp (forF (β := β) u xb (ds.drop (i + 1)) a) s (FP X.K X.mg fx Hf exl exb { D with nx := fun σ' H' => ∃ a, tS X.K X.mg fx (exl a) ex exb (k a) D σ' H' }) (EXS X.K X.mg fx), fun σ' H' q => ⟨ds.length - (i + 1), by omega, rfl, q⟩, fun x H' y => ?_⟩
    obtain ⟨Hf3, e3, is3⟩ := yd x H' y
    cases q : u ds[i] with
    | none => rw [q] at w4; exact w4.elim
    | some c =>
      rw [q] at w4
      have st3 := st2.step e3.wide (e3.bag st2.bag)
      refine hg.2 st3 is3 q fun σ' _ _ st4 => ?_
      refine ⟨(a, c), Hf3, s2, st4, ?_⟩
      refine Mo.wp_mono (Mo.wp_bind w4) (fun f s5 h5 => ?_) fun e s' k => k
      cases f with
      | nx a' => exact fun Hf' H' σ' sb' st' => ⟨hlt, a', Hf', s5, (sb2.trans e3.sub).trans sb', st', Mo.wp_mono h5 (fun f s2 h2 => h2.up (e3.sub.trans sb')) fun e s' k => k⟩
      | ct a' => exact fun Hf' H' σ' sb' st' => ⟨hlt, a', Hf', s5, (sb2.trans e3.sub).trans sb', st', Mo.wp_mono h5 (fun f s2 h2 => h2.up (e3.sub.trans sb')) fun e s' k => k⟩
      | bk a' => have z := Mo.wp_pure h5; exact fun Hf' H' σ' sb' => z Hf' H' σ' (e3.sub.trans sb')
      | rt d => have z := Mo.wp_pure h5; exact z
  · have e : i = ds.length := by omega
    subst e
    refine .inl ⟨y2 (Nat.le_refl _), ?_⟩
    rw [List.drop_length] at w2
    exact (Mo.wp_pure w2) Hf2 H σ (.refl _) st2
end
end DL
namespace DL
open PySem L2
/-! ### defs -/
def runR (nr : Bool) : R (Fl Unit Empty) → R D
  | .ok (.nx _) => if nr = true then .stuck else .ok .non
  | .ok (.rt d) => .ok d
  | .ok (.bk b) => b.elim
  | .ok (.ct b) => b.elim
  | .ex e => .ex e
  | .stuck => .stuck
def runM (nr : Bool) (x : M (Fl Unit Empty)) : M D := fun s => match x s with
  | .ok (.nx _) s => if nr = true then .stuck else .ok .non s
  | .ok (.rt d) s => .ok d s
  | .ok (.bk b) _ => b.elim
  | .ok (.ct b) _ => b.elim
  | .ex e s => .ex e s
  | .stuck => .stuck
def unG (N : List Str) : List Sl := N.map fun _ => .un
def G0 (N : List Str) (ds : List D) : List Sl := ds.map Sl.im ++ List.replicate (N.length - ds.length) .un
def G1 (N : List Str) (ds : List D) : List Sl := .bg :: (ds.map Sl.im ++ List.replicate (N.length - ds.length - 1) .un)
abbrev fxE (bag : List Addr) (nr : Bool) (H Hf : Hp) (E : XK) : Fx := ⟨bag, H, Hf, fun cls d _ H' => E cls d H', none, nr, [], []⟩
section
variable (K : PySem.W.Frag) (mg : Str → Option Value)
def spR (nr : Bool) (n : Nat) (g : List D → R D) : Sp := fun vs H Q E => vs.length = n ∧ ∃ Hf ds, Sub Hf H ∧ IsL K mg Hf ds vs ∧ (match g ds with
  | .ok d => ∀ v Hf' H', Ste [] Hf H Hf' H' → RtOk K mg nr H Hf' H' d v → Q v H'
  | .ex e => ∀ cls dd Hf' H', Ste [] Hf H Hf' H' → ExIs K mg Hf' H' e cls dd → E cls dd H'
  | .stuck => False)
def spM (nr : Bool) (n : Nat) (g : List D → M D) : Sp := fun vs H Q E => vs.length = n ∧ ∃ bag b r Hf ds vs' s, bag = b :: r ∧ vs = .ref b :: vs' ∧ Sub Hf H ∧ (∀ b ∈ bag, Hf b = none ∧ H b ≠ none) ∧ BagAt bag H s ∧ IsL K mg Hf ds vs' ∧ (match g ds s with
  | .ok d s' => ∀ v Hf' H', Ste bag Hf H Hf' H' → BagAt bag H' s' → RtOk K mg nr H Hf' H' d v → Q v H'
  | .ex e s' => ∀ cls dd Hf' H', Ste bag Hf H Hf' H' → BagAt bag H' s' → ExIs K mg Hf' H' e cls dd → E cls dd H'
  | .stuck => False)
end
theorem start_at {N : List Str} {vs : List V} {i : Nat} {v : V} (h : vs[i]? = some v) : (start N vs)[i]? = some (some v) := by
  unfold L2.start
  have hl : i < vs.length := (List.getElem?_eq_some_iff.mp h).1
  rw [List.getElem?_append_left (by simpa using hl), List.getElem?_map, h]
  rfl
theorem start_len {N : List Str} {vs : List V} (h : vs.length ≤ N.length) : (start N vs).length = N.length := by
  unfold L2.start
  simp
  omega
theorem isOw_im {ds : List D} {n i : Nat} {x : Sl} (h : (ds.map Sl.im ++ List.replicate n .un)[i]? = some x) (o : isOw x = true) : False := by
  have hm := List.mem_of_getElem? h
  rcases List.mem_append.mp hm with hm | hm
  · obtain ⟨d, _, rfl⟩ := List.mem_map.mp hm
    cases o
  · have := List.eq_of_mem_replicate hm
    subst this
    cases o
section
variable {K : PySem.W.Frag} {mg : Str → Option Value}
theorem slOk_G0 {fx : Fx} {Hf H : Hp} {ds : List D} {vs : List V} {N : List Str} {n : Nat} (l : IsL K mg Hf ds vs) {i : Nat} {x : Sl} (e : (ds.map Sl.im ++ List.replicate n .un)[i]? = some x) : SlOk K mg fx Hf H (vs[i]?.map some) x := by
  by_cases h : i < ds.length
  · rw [List.getElem?_append_left (by simpa using h), List.getElem?_map, List.getElem?_eq_getElem h] at e
    cases e
    obtain ⟨v, hv, hi⟩ := l.get (List.getElem?_eq_getElem h)
    exact ⟨v, by rw [hv]; rfl, hi⟩
  · rw [List.getElem?_append_right (by simpa using Nat.le_of_not_lt h)] at e
    have := List.eq_of_mem_replicate (List.mem_of_getElem? e)
    subst this
    trivial
theorem StS.init0 {nr : Bool} {Hf H : Hp} {E : XK} {ds : List D} {vs : List V} {N : List Str} {s : S} (sb : Sub Hf H) (l : IsL K mg Hf ds vs) (hn : vs.length ≤ N.length) : StS K mg (fxE [] nr H Hf E) Hf H (start N vs) (G0 N ds) s := by
  refine ⟨.refl sb, trivial, fun b hb => (by cases hb), ?_, fun i x e => ?_, fun i j x y p _ ex _ ox _ => (isOw_im ex ox).elim⟩
  · rw [start_len hn]
    unfold G0
    have := l.len
    simp
    omega
  · have q := slOk_G0 (fx := fxE [] nr H Hf E) (H := H) (N := N) l e
    cases x with
    | un => trivial
    | im d =>
      obtain ⟨v, hv, hi⟩ := q
      refine ⟨v, ?_, hi⟩
      cases h : vs[i]? with
      | none => rw [h] at hv; cases hv
      | some w => rw [h] at hv; cases hv; exact start_at h
    | ow ds => exact (isOw_im e rfl).elim
    | od ks ds => exact (isOw_im e rfl).elim
    | ob ns ds => exact (isOw_im e rfl).elim
    | bg =>
      obtain ⟨b, r, e, _⟩ := q
      cases e
theorem StS.init1 {nr : Bool} {Hf H : Hp} {E : XK} {ds : List D} {vs : List V} {N : List Str} {s : S} {bag : List Addr} {b : Addr} {r : List Addr} (eb : bag = b :: r) (sb : Sub Hf H) (hb : ∀ b ∈ bag, Hf b = none ∧ H b ≠ none) (bg : BagAt bag H s) (l : IsL K mg Hf ds vs) (hn : vs.length + 1 ≤ N.length) :
    StS K mg (fxE bag nr H Hf E) Hf H (start N (.ref b :: vs)) (G1 N ds) s := by
  refine ⟨.refl sb, bg, fun b m => ⟨(hb b m).1, (hb b m).2, fun z => nomatch z⟩, ?_, fun i x e => ?_, fun i j x y p _ ex _ ox _ => ?_⟩
  · rw [start_len (by simpa using hn)]
    unfold G1
    have := l.len
    simp
    omega
  · cases i with
    | zero =>
      cases e
      exact ⟨b, r, eb, start_at rfl⟩
    | succ i =>
      have e' : (ds.map Sl.im ++ List.replicate (N.length - ds.length - 1) .un)[i]? = some x := e
      have q := slOk_G0 (fx := fxE bag nr H Hf E) (H := H) (N := N) l e'
      cases x with
      | un => trivial
      | im d =>
        obtain ⟨v, hv, hi⟩ := q
        refine ⟨v, ?_, hi⟩
        cases h : vs[i]? with
        | none => rw [h] at hv; cases hv
        | some w => rw [h] at hv; cases hv; exact start_at (by simpa using h)
      | ow ds => exact (isOw_im e' rfl).elim
      | od ks ds => exact (isOw_im e' rfl).elim
      | ob ns ds => exact (isOw_im e' rfl).elim
      | bg =>
        have hm := List.mem_of_getElem? e'
        rcases List.mem_append.mp hm with hm | hm
        · obtain ⟨d, _, z⟩ := List.mem_map.mp hm
          cases z
        · have := List.eq_of_mem_replicate hm
          cases this
  · cases i with
    | zero => cases ex; cases ox
    | succ i => exact (isOw_im (n := N.length - ds.length - 1) (ds := ds) (i := i) ex ox).elim
end
/-- a def's promise where no repr is under way -/
structure FnG (P : Program) (w : World) (K : PySem.W.Frag) (mg : Str → Option Value) (base : Heap) (k : Nat) (f : Addr) (fd : FuncData) (ps : List Str) (sp : Sp) : Prop where
  len : ∀ vs H Q E, sp vs H Q E → vs.length = ps.length
  run : ∀ (A : Around) (outer : List Env) (s : Shared) (H : Hp) (args : Args) (us : List Value) (vs : List V) (Q : VK) (E : XK), A.guards = some [] → Room k A → Env0 P w K mg base A outer s H → BindsTo s fd args (ps.zip us) → Vals vs us → sp vs H Q E →
    codeAny (model P w) A (.call (.ref f) args) (CR (L2.CX P w) outer P w H s Q E) s
/-- a call's end, for the caller -/
theorem ends_call {X : Cx} {pins : List (Addr × Obj)} {σ : L2.St} {H : Hp} {s s' : Shared} {Q : VK} {E : XK} {r : PySem.Result} (I : Inv X pins σ H s) (hx : PassesAt (L2.CX X.prog X.w) X σ E) (hq : CR (L2.CX X.prog X.w) X.stack X.prog X.w H s Q E r s') :
    match r with
    | .ok (.ret u) => EP X pins σ Q u s'
    | .ok _ => False
    | .error e => X.xe e s' := by
  cases r with
  | error e => exact hx pins H s e s' I hq
  | ok fl => cases fl <;> first | exact I.after hq | exact hq
theorem run_g {X : Cx} {k : Nat} {f : Addr} {fd : FuncData} {ps : List Str} {sp : Sp} {dvs : List V} {ds : List Value} {E : L2.St → XK} {pins : List (Addr × Obj)} {σ : L2.St} {H : Hp} {s : Shared} {Q : VK} {us : List Value} {vs : List V} (F : FnG X.prog X.w X.K X.mg X.base k f fd ps sp) (hg : X.A.guards = some []) (hr : Room k X.A) (hb : Binds X.K fd ps ds) (hd : Vals dvs ds)
    (hx : PassesAt (L2.CX X.prog X.w) X σ (E σ)) (I : Inv X pins σ H s) (r : Vals vs us) (h : sp (vs ++ dvs) H Q (E σ)) : wpAny (model X.prog X.w) X.A (call (.ref f) us) (EP X pins σ Q) X.xe s := by
  have ra := r.append hd
  have hl := F.len _ _ _ _ h
  rw [ra.length] at hl
  refine wpAny_call (codeAny_mono (F.run X.A X.stack s H ⟨us, []⟩ (us ++ ds) (vs ++ dvs) Q (E σ) hg hr I.env0 (hb s us I.kIn hl) ra h) fun r s' hq => ?_)
  have z := ends_call I hx hq
  cases r with
  | error e => exact z
  | ok fl => cases fl <;> first | exact z | exact z.elim
theorem pe_callG {X : Cx} {k : Nat} {f : Addr} {fd : FuncData} {ps : List Str} {sp : Sp} {dvs : List V} {ds : List Value} {E : L2.St → XK} {x : Str} {p pos : Pos} {e : Expr} {es : List Expr} {t : TA} (F : FnG X.prog X.w X.K X.mg X.base k f fd ps sp) (hgd : X.A.guards = some []) (hr : Room k X.A) (hg : Gl X x) (hm : X.mg x = some (.ref f)) (hk : PySem.W.keepIn X.K (.ref f) = true) (hb : Binds X.K fd ps ds) (hd : Vals dvs ds)
    (hx : ∀ σ, PassesAt (L2.CX X.prog X.w) X σ (E σ)) (ha : PA X (e :: es) t) (hdb : (x == ("__debug__" : Str)) = false := by decide) (he : starEach (e :: es) X.env = (false, eval e X.env) :: starEach es X.env := by rfl) (hpl : (backTo pos (starEach es X.env)).any (·.1) = false := by rfl) :
    PE X (.Call (.Name x p) (e :: es) [] pos) (fun σ H Q => t σ H fun vs H1 => sp (vs ++ dvs) H1 Q (E σ)) := ⟨fun pins s σ H Q I h =>
  wpAny_Call_Name_kw (ld_glob I hg hm (PySem.W.callWith_K (h₀ := X.base) I.ok.mod.kin hk (thn (ha.run pos pins s σ H _ I h) fun us s1 ⟨vs, H1, I1, r, q⟩ => ⟨I1.kIn, run_g F hgd hr hb hd (hx σ) I1 r q⟩) he hpl) hdb)⟩
section
variable {P : Program} {w : World} {K : PySem.W.Frag} {mg : Str → Option Value} {base : Heap}
open PyProof.Rows PySem.Spec in
/-- a def by its body -/
theorem fn_g {x qual : Str} {st : Stmt} {f : Addr} {fd : FuncData} {N ps : List Str} {k : Nat} {sp : Sp} (F : Fun K x qual st f fd) (Sc : FnScope N ps (defScope st)) (len : ∀ vs H Q E, sp vs H Q E → vs.length = ps.length)
    (hbody : ∀ (cdv : Value) (A : Around) (outer : List Env) (s : Shared) (H : Hp) (vs : List V) (Q : VK) (E : XK), A.guards = some [] → Room k (A.deeper (envOfC qual (defScope st) s.heap.objs.size f cdv)) → sp vs H Q E →
      ∃ t, PSs (cxOf (L2.CX P w) P w K mg base N qual (defScope st) f cdv A outer s H E) (defBody st) t ∧ t { nx := fun _ H' => Q .non H', rt := Q } (start N vs) H) : FnG P w K mg base (k + 1) f fd ps sp := by
  refine ⟨len, fun A outer s H args us vs Q E gd hr e0 hb r hsp => ?_⟩
  obtain ⟨oc, od, kV, doc, pm, an, cdv, ct, osl, rfl, lk, hcd⟩ := F.ex
  have kp := fun b o e => (e0.bs b o e).1
  have hk : ∀ y ∈ ps.zip us, (defScope st).names.lookup y.1 = some .local ∨ ((defScope st).names.lookup y.1 = some .cell ∧ ((cellsFrom (s.heap.objs.size + 1) (defScope st).names []).lookup y.1).isSome = true) := fun y hy =>
    (Sc.par y.1 (List.of_mem_zip (a := y.1) (b := y.2) hy).1).imp (fun q => q) fun q => ⟨q, PySem.W.cellsFrom_some _ _ _ (.inl q)⟩
  refine codeAny_call_function hr.depth (e0.mod.kin.keeps kp _ _ lk) rfl Sc.co Sc.gen rfl (PySem.W.codeRec_of (e0.mod.kin.keeps kp) hcd) (hb _ _ _ _ (wpAny_newFunctionEnv_cells Sc.kind hk fun env he s1 x => ?_))
  subst he
  obtain ⟨t, ht, hq⟩ := hbody cdv A outer s H vs Q E gd (hr.deeper _) hsp
  have I : Inv (cxOf (L2.CX P w) P w K mg base N qual (defScope st) f cdv A outer s H E) [] (start N vs) H s1 := inv_start Sc hr.hd e0 (len _ _ _ _ hsp) r x
  refine ⟨(e0.mod.nolimit.keeps kp).keeps x.toInCall.keep, codeAny_func (wpAny_mono (ht.run [] s1 (start N vs) H _ I hq) (fun fl s' hs => ?_) fun e s' hs => hs)⟩
  cases fl with
  | ret u =>
    obtain ⟨v, σ', H', J, rv, q⟩ := hs
    exact ⟨v, H', J.os, J.bare, J.base, J.hok, rv, q⟩
  | next =>
    obtain ⟨σ', H', J, q⟩ := hs
    exact ⟨.non, H', J.os, J.bare, J.base, J.hok, rfl, q⟩
  | brk => exact hs.elim fun _ h => h.elim fun _ h => h.2.elim
  | cont => exact hs.elim fun _ h => h.elim fun _ h => h.2.elim
/-- a def without a bag -/
theorem fnR {nr : Bool} {x qual : Str} {st : Stmt} {f : Addr} {fd : FuncData} {N ps : List Str} {k n : Nat} {g : List D → R D} (F : Fun K x qual st f fd) (Sc : FnScope N ps (defScope st)) (hn : ps.length = n) (hN : n ≤ N.length)
    (hb : ∀ (cdv : Value) (A : Around) (outer : List Env) (s : Shared) (H Hf : Hp) (E : XK) (ds : List D), Cok (cxOf (L2.CX P w) P w K mg base N qual (defScope st) f cdv A outer s H E) (fxE [] nr H Hf E) k → ds.length = n →
      ∃ body : R (Fl Unit Empty), PSs (cxOf (L2.CX P w) P w K mg base N qual (defScope st) f cdv A outer s H E) (defBody st)
        (tS (cxOf (L2.CX P w) P w K mg base N qual (defScope st) f cdv A outer s H E).K (cxOf (L2.CX P w) P w K mg base N qual (defScope st) f cdv A outer s H E).mg (fxE [] nr H Hf E) (G0 N ds) (fun _ => unG N) Empty.elim body) ∧ g ds = runR nr body) :
    FnG P w K mg base (k + 1) f fd ps (spR K mg nr n g) := by
  refine fn_g F Sc (fun vs H Q E h => h.1.trans hn.symm) (fun cdv A outer s H vs Q E gd hr h => ?_)
  obtain ⟨hl, Hf, ds, sb, l, q⟩ := h
  have C : Cok (cxOf (L2.CX P w) P w K mg base N qual (defScope st) f cdv A outer s H E) (fxE [] nr H Hf E) k := ⟨rfl, passes_of rfl, takes_of rfl rfl rfl rfl, hr, Sc.nd, gd⟩
  obtain ⟨body, hp, hg⟩ := hb cdv A outer s H Hf E ds C (l.len.trans hl)
  refine ⟨_, hp, Hf, ⟨0, 0, 0, [], false⟩, .init0 sb l (by omega), ?_⟩
  rw [hg] at q
  show R.wp body _ _ _
  cases body with
  | ok f =>
    cases f with
    | nx a =>
      cases nr with
      | true => exact (show False from q).elim
      | false => exact fun Hf' H' σ' _ st => q .non Hf' H' st.ste (rfl : V.non = V.non)
    | rt d => exact fun v Hf' H' st _ i => q v Hf' H' st i
    | bk b => exact b.elim
    | ct b => exact b.elim
  | ex e => exact fun cls dd σ' Hf' H' st x => q cls dd Hf' H' st.1 x
  | stuck => exact q
theorem fnM {nr : Bool} {x qual : Str} {st : Stmt} {f : Addr} {fd : FuncData} {N ps : List Str} {k n : Nat} {g : List D → M D} (F : Fun K x qual st f fd) (Sc : FnScope N ps (defScope st)) (hn : ps.length = n + 1) (hN : n + 1 ≤ N.length)
    (hb : ∀ (cdv : Value) (A : Around) (outer : List Env) (s : Shared) (H Hf : Hp) (bag : List Addr) (E : XK) (ds : List D), Cok (cxOf (L2.CX P w) P w K mg base N qual (defScope st) f cdv A outer s H E) (fxE bag nr H Hf E) k → ds.length = n →
      ∃ body : M (Fl Unit Empty), PSs (cxOf (L2.CX P w) P w K mg base N qual (defScope st) f cdv A outer s H E) (defBody st)
        (tS (cxOf (L2.CX P w) P w K mg base N qual (defScope st) f cdv A outer s H E).K (cxOf (L2.CX P w) P w K mg base N qual (defScope st) f cdv A outer s H E).mg (fxE bag nr H Hf E) (G1 N ds) (fun _ => unG N) Empty.elim body) ∧ g ds = runM nr body) :
    FnG P w K mg base (k + 1) f fd ps (spM K mg nr (n + 1) g) := by
  refine fn_g F Sc (fun vs H Q E h => h.1.trans hn.symm) (fun cdv A outer s H vs Q E gd hr h => ?_)
  obtain ⟨hl, bag, b, r, Hf, ds, vs', s0, eb, rfl, sb, hbb, bg, l, q⟩ := h
  have C : Cok (cxOf (L2.CX P w) P w K mg base N qual (defScope st) f cdv A outer s H E) (fxE bag nr H Hf E) k := ⟨rfl, passes_of rfl, takes_of rfl rfl rfl rfl, hr, Sc.nd, gd⟩
  have hl' : vs'.length = n := by simpa using hl
  obtain ⟨body, hp, hg⟩ := hb cdv A outer s H Hf bag E ds C (l.len.trans hl')
  refine ⟨_, hp, Hf, s0, .init1 eb sb hbb bg l (by omega), ?_⟩
  rw [hg] at q
  show (body s0).wp _ _
  have e : runM nr body s0 = (match body s0 with
    | .ok (.nx _) s => if nr = true then .stuck else .ok .non s
    | .ok (.rt d) s => .ok d s
    | .ok (.bk b) _ => b.elim
    | .ok (.ct b) _ => b.elim
    | .ex e s => .ex e s
    | .stuck => .stuck) := rfl
  rw [e] at q
  cases z : body s0 with
  | ok f s1 =>
    rw [z] at q
    cases f with
    | nx a =>
      cases nr with
      | true => exact (show False from q).elim
      | false => exact fun Hf' H' σ' _ st => q .non Hf' H' st.ste st.bag (rfl : V.non = V.non)
    | rt d => exact fun v Hf' H' st bg i => q v Hf' H' st bg i
    | bk b => exact b.elim
    | ct b => exact b.elim
  | ex e s1 => rw [z] at q; exact fun cls dd σ' Hf' H' st x => q cls dd Hf' H' st.1 st.2 x
  | stuck => rw [z] at q; exact q
end
section
variable {X : Cx} {fx : Fx} {m : Type → Type} [Mo m] {G : List Sl} {es : List Expr} {pos : Pos} {ys : m (List D)} {kk j n : Nat} {g : List D → R D} {f : Addr} {fd : FuncData} {ps : List Str} {nm : Str} {p : Pos} {e : Expr}
/-- a call of a def without a bag -/
theorem fn_core {vs : List V} {ds : List D} {Hf : Hp} {s : S} {σ : L2.St} {H : Hp} {Q : VK} (hn : vs.length = n) (r : IsL X.K X.mg Hf ds vs) (h : tX X.K X.mg fx G (fun H d v => Is X.K X.mg H d v) (Mo.lift (g ds) : m D) Hf s σ H Q) : spR X.K X.mg false n g vs H Q (WE fx.W σ) := by
  have w := Mo.wp_lift h.2
  refine ⟨hn, Hf, ds, h.1.top, r, ?_⟩
  cases z : g ds with
  | ok d => rw [z] at w; exact fun v Hf' H' st i => w v Hf' H' st.wide (st.bag h.1.bag) i
  | ex e => rw [z] at w; exact fun cls dd Hf' H' st x => w cls dd Hf' H' (h.1.step st.wide (st.bag h.1.bag)) x
  | stuck => rw [z] at w; exact w
theorem de_fn (C : Cok X fx kk) (F : FnG X.prog X.w X.K X.mg X.base j f fd ps (spR X.K X.mg false n g)) (hm : X.mg nm = some (.ref f)) (hk : PySem.W.keepIn X.K (.ref f) = true) (hb : Binds X.K fd ps []) (ha : PA X (e :: es) (tA X.K X.mg fx G ys)) (hn : ∀ ds : List D, g ds ≠ .stuck → ds.length = n)
    (hj : j ≤ kk := by decide) (hg : Gl X nm := by rfl) (hdb : (nm == ("__debug__" : Str)) = false := by decide) (he : starEach (e :: es) X.env = (false, eval e X.env) :: starEach es X.env := by rfl) (hpl : (backTo pos (starEach es X.env)).any (·.1) = false := by rfl) :
    PE X (.Call (.Name nm p) (e :: es) [] pos) (tE X.K X.mg fx G (do let ds ← ys; Mo.lift (g ds))) := peI (pe_callG (E := WE fx.W) F C.gd (C.rm.mono hj) hg hm hk hb .nil (fun σ => passAt C.tk σ) ha hdb he hpl) fun σ H Q ⟨Hf, s, h⟩ =>
  (h.bind.mono fun vs H1 ⟨ds, Hf1, s1, sb, r, h1⟩ => by
    rw [List.append_nil]
    exact fn_core (by
    have w := Mo.wp_lift h1.2
    rw [← r.len]
    refine hn ds fun z => ?_
    rw [z] at w
    exact w) r h1).to
end
section
variable {X : Cx} {fx : Fx} {G : List Sl} {es : List Expr} {pos : Pos} {ys : M (List D)} {kk j n : Nat} {g : List D → M D} {f : Addr} {fd : FuncData} {ps : List Str} {nm bn : Str} {p bp : Pos}
/-- a call of a def with the bag -/
theorem de_fnM (C : Cok X fx kk) (i : Nat) (F : FnG X.prog X.w X.K X.mg X.base j f fd ps (spM X.K X.mg false (n + 1) g)) (hm : X.mg nm = some (.ref f)) (hk : PySem.W.keepIn X.K (.ref f) = true) (hb : Binds X.K fd ps []) (ha : PA X es (tA X.K X.mg fx G ys)) (hn : ∀ ds s, g ds s ≠ .stuck → ds.length = n)
    (hG : G[i]? = some .bg := by rfl) (hN : X.N[i]? = some bn := by rfl) (hv : Vis X.env.scope bn := by first | exact Or.inl rfl | exact Or.inr (Or.inl rfl) | exact Or.inr (Or.inr rfl))
    (hj : j ≤ kk := by decide) (hg : Gl X nm := by rfl) (hdb : (nm == ("__debug__" : Str)) = false := by decide) (he : starEach (.Name bn bp :: es) X.env = (false, eval (.Name bn bp) X.env) :: starEach es X.env := by rfl) (hpl : (backTo pos (starEach es X.env)).any (·.1) = false := by rfl)
    (hd : (bn == ("__debug__" : Str)) = false := by decide) (hcd : (bn == ("__classdict__" : Str)) = false := by decide) :
    PE X (.Call (.Name nm p) (.Name bn bp :: es) [] pos) (tE X.K X.mg fx G (do let ds ← ys; g ds)) :=
  peI (pe_callG (E := WE fx.W) F C.gd (C.rm.mono hj) hg hm hk hb .nil (fun σ => passAt C.tk σ) (pa_cons (pe_var hN hv hd hcd) ha he) hdb he hpl) fun σ H Q ⟨Hf, s, h⟩ => by
    obtain ⟨b, r, eb, ev⟩ := h.1.sl i _ hG
    refine ⟨.ref b, ev, (h.bind.mono fun vs H1 ⟨ds, Hf1, s1, sb, rl, h1⟩ => ?_).to⟩
    show spM X.K X.mg false (n + 1) g ((.ref b :: vs) ++ []) H1 Q (WE fx.W σ)
    rw [List.append_nil]
    have w : (g ds s1).wp _ _ := h1.2
    have hlen : ds.length = n := hn ds s1 fun z => by rw [z] at w; exact w
    refine ⟨by rw [List.length_cons, ← rl.len, hlen], fx.bag, b, r, Hf1, ds, vs, s1, eb, rfl, h1.1.top, h1.1.bagf, h1.1.bag, rl, ?_⟩
    cases z : g ds s1 with
    | ok d s' => rw [z] at w; exact fun v Hf' H' st bg i => w v Hf' H' st bg i
    | ex e s' => rw [z] at w; exact fun cls dd Hf' H' st bg x => w cls dd Hf' H' (h1.1.step st bg) x
    | stuck => rw [z] at w; exact w
end
end DL
namespace DL
open PySem L2
/-! ### plain data -/
mutual
def toPy : D → Option PyData
  | .non => some .none
  | .bl b => some (.bool b)
  | .int i => some (.int i)
  | .str s => some (.str ⟨s.toArray⟩)
  | .tup ds => (toPyL ds).map .tuple
  | .lst ds => (toPyL ds).map .list
  | _ => none
def toPyL : List D → Option (List PyData)
  | [] => some []
  | d :: ds => do
    let x ← toPy d
    let xs ← toPyL ds
    return x :: xs
end
section
variable {K : PySem.W.Frag} {mg : Str → Option Value}
mutual
theorem Is.dp {H : Hp} : ∀ {d : D} {v : V} {p : PyData}, Is K mg H d v → toPy d = some p → Dp K H v p
  | .non, _, _, h, e => by cases e; cases h; exact .non
  | .bl b, _, _, h, e => by cases e; cases h; exact .bl b
  | .int i, _, _, h, e => by cases e; cases h; exact .int i
  | .str s, _, _, h, e => by cases e; cases h.1; exact .str _
  | .tup ds, _, _, h, e => by
    obtain ⟨_, a, vs, rfl, t, l⟩ := h
    unfold toPy at e
    cases q : toPyL ds with
    | none => rw [q] at e; cases e
    | some ps => rw [q] at e; cases e; exact .tup t (IsL.dp l q)
  | .lst ds, _, _, h, e => by
    obtain ⟨_, a, vs, rfl, t, l⟩ := h
    unfold toPy at e
    cases q : toPyL ds with
    | none => rw [q] at e; cases e
    | some ps => rw [q] at e; cases e; exact .lst (.inl (.inl t)) (IsL.dp l q)
  | .dic _ _, _, _, h, e => by unfold toPy at e; cases e
  | .ins _ _ _, _, _, h, e => by unfold toPy at e; cases e
  | .scr _, _, _, h, e => by unfold toPy at e; cases e
  | .xc _ _ _ _, _, _, h, e => by unfold toPy at e; cases e
theorem IsL.dp {H : Hp} : ∀ {ds : List D} {vs : List V} {ps : List PyData}, IsL K mg H ds vs → toPyL ds = some ps → DpAll K H vs ps
  | [], _, _, h, e => by cases h; unfold toPyL at e; cases e; exact .nil
  | d :: ds, _, _, h, e => by
    obtain ⟨v, r, rfl, i, l⟩ := h
    unfold toPyL at e
    cases q : toPy d with
    | none => rw [q] at e; cases e
    | some x =>
      cases q2 : toPyL ds with
      | none => rw [q, q2] at e; cases e
      | some xs => rw [q, q2] at e; cases e; exact .cons (Is.dp i q) (IsL.dp l q2)
end
end
/-- == of plain data -/
def eqS (a b : D) : Option Bool := match toPy a, toPy b with
  | some x, some y => if SeqAt.shaped x && SeqAt.shaped y then some (PyData.eqv x y) else none
  | _, _ => none
def eqP : D → D → Option Bool
  | .str x, .str y => some (decide (x = y))
  | .int x, .int y => some (decide (x = y))
  | .bl x, .bl y => some (decide (x = y))
  | .non, .non => some true
  | a, b => eqS a b
def eqD (a b : D) : Option D := (eqP a b).map .bl
def neD (a b : D) : Option D := (eqP a b).map fun x => .bl (!x)
def addD : D → D → Option D
  | .int i, .int j => some (.int (i + j))
  | .str a, .str b => if a.length + b.length ≤ sizeLine then some (.str (a ++ b)) else none
  | .lst a, .lst b => if a.length + b.length ≤ sizeLine then some (.lst (a ++ b)) else none
  | .tup a, .tup b => if a.length + b.length ≤ sizeLine then some (.tup (a ++ b)) else none
  | _, _ => none
def subD : D → D → Option D
  | .int i, .int j => some (.int (i - j))
  | _, _ => none
def mulD : D → D → Option D
  | .int i, .int j => if i.natAbs.log2 + j.natAbs.log2 < 1000000 then some (.int (i * j)) else none
  | .str a, .int k => if 0 ≤ k ∧ k < 1000000 ∧ a.length * k.toNat ≤ 1000000 then some (.str (List.replicate k.toNat a).flatten) else none
  | .lst a, .int k => if 0 ≤ k ∧ k < 1000000 ∧ a.length * k.toNat ≤ 1000000 then some (.lst (List.replicate k.toNat a).flatten) else none
  | _, _ => none
def fdivD : D → D → Option D
  | .int i, .int j => if 0 < j ∧ j.natAbs.log2 < 9000 then some (.int (i / j)) else none
  | _, _ => none
def modD : D → D → Option D
  | .int i, .int j => if 0 < j then some (.int (i % j)) else none
  | _, _ => none
/-- < of data that are alike -/
def ltP (a b : D) : Option Bool := match toPy a, toPy b with
  | some x, some y => if PySem.W.alike x y && decide (x.depth ≤ 60) && (isNonP x == false) then some (PySem.W.dataLt x y) else none
  | _, _ => none
where isNonP : PyData → Bool
  | .none => true
  | _ => false
def ltD : D → D → Option D
  | .int i, .int j => some (.bl (decide (i < j)))
  | .str a, .str b => some (.bl (decide (a < b)))
  | a, b => (ltP a b).map .bl
def leD : D → D → Option D
  | .int i, .int j => some (.bl (decide (i ≤ j)))
  | a, b => (leP a b).map .bl
where leP (a b : D) : Option Bool := match toPy a, toPy b with
  | some x, some y => if PySem.W.alike x y && decide (x.depth ≤ 60) && (ltP.isNonP x == false) then some (!PySem.W.dataLt y x) else none
  | _, _ => none
def gtD : D → D → Option D
  | .int i, .int j => some (.bl (decide (j < i)))
  | a, b => (gtP a b).map .bl
where gtP (a b : D) : Option Bool := match toPy a, toPy b with
  | some x, some y => if PySem.W.alike x y && decide (x.depth ≤ 60) && (ltP.isNonP x == false) then some (PySem.W.dataLt y x) else none
  | _, _ => none
def geD : D → D → Option D
  | .int i, .int j => some (.bl (decide (j ≤ i)))
  | a, b => (geP a b).map .bl
where geP (a b : D) : Option Bool := match toPy a, toPy b with
  | some x, some y => if PySem.W.alike x y && decide (x.depth ≤ 60) && (ltP.isNonP x == false) then some (!PySem.W.dataLt x y) else none
  | _, _ => none
def isNone : D → Option Bool
  | .non => some true
  | .bl _ => some false
  | .int _ => some false
  | .str _ => some false
  | .tup _ => some false
  | .lst _ => some false
  | .dic _ _ => some false
  | .ins _ _ _ => some false
  | .scr _ => some false
  | .xc _ _ _ _ => some false
/-- is: of None, of truth values -/
def isD : D → D → Option D
  | a, .non => (isNone a).map .bl
  | .bl a, .bl b => some (.bl (decide (a = b)))
  | _, _ => none
/-- x in y -/
def inP : D → D → Option Bool
  | .str [c], .str z => some (decide (c ∈ z))
  | d, .lst ds => match toPy d, toPy (.lst ds) with
    | some x, some (.list ys) => if SeqAt.shaped x && SeqAt.shaped (.list ys) then some (ys.any fun z => PyData.eqv z x) else none
    | _, _ => none
  | d, .tup ds => match toPy d, toPy (.tup ds) with
    | some x, some (.tuple ys) => if SeqAt.shaped x && SeqAt.shaped (.tuple ys) then some (ys.any fun z => PyData.eqv z x) else none
    | _, _ => none
  | _, _ => none
def notInD (a b : D) : Option D := (inP a b).map fun x => .bl (!x)
section
variable {X : Cx}
theorem str_tl (s : List Nat) : (⟨s.toArray⟩ : Str).cps.toList = s := by simp
theorem str_len (s : List Nat) : (⟨s.toArray⟩ : Str).length = s.length := by
  show s.toArray.size = s.length
  simp
theorem str_app (a b : List Nat) : (⟨a.toArray⟩ ++ ⟨b.toArray⟩ : Str) = ⟨(a ++ b).toArray⟩ := by
  show (⟨a.toArray ++ b.toArray⟩ : Str) = _
  simp
theorem dec_str {a b : List Nat} : decide (V.str ⟨a.toArray⟩ = V.str ⟨b.toArray⟩) = decide (a = b) := by
  by_cases h : a = b
  · subst h; simp
  · rw [decide_eq_false h, decide_eq_false]
    intro z
    apply h
    have z1 : (⟨a.toArray⟩ : Str) = ⟨b.toArray⟩ := V.str.inj z
    have z2 : a.toArray = b.toArray := Str.mk.inj z1
    simpa using z2
theorem eq_core (hu : X.A.units + 64 < cLine) {pins : List (Addr × Obj)} {s : Shared} {σ : L2.St} {H : Hp} {x y : V} {v u : Value} (I : Inv X pins σ H s) (rx : RelV x v) (ry : RelV y u) {Hf : Hp} {dx dy : D} {b : Bool} (sb : Sub Hf H) (ix : Is X.K X.mg Hf dx x) (iy : Is X.K X.mg Hf dy y) (e : eqP dx dy = some b) :
    (∀ Q : VK, Q (.bl b) H → wpAny (model X.prog X.w) X.A (compareOp .Eq v u) (EP X pins σ Q) X.xe s) ∧ (∀ Q : VK, Q (.bl (!b)) H → wpAny (model X.prog X.w) X.A (compareOp .NotEq v u) (EP X pins σ Q) X.xe s) := by
  unfold eqP at e
  split at e
  · obtain ⟨rfl, _⟩ := ix
    obtain ⟨rfl, _⟩ := iy
    cases e
    exact ⟨fun Q q => op_eq pins s σ H _ _ v u Q I rx ry ⟨rfl, by rw [dec_str]; exact q⟩, fun Q q => op_ne pins s σ H _ _ v u Q I rx ry ⟨rfl, by rw [dec_str]; exact q⟩⟩
  · cases ix; cases iy; cases e
    refine ⟨fun Q q => op_eq pins s σ H _ _ v u Q I rx ry ⟨rfl, ?_⟩, fun Q q => op_ne pins s σ H _ _ v u Q I rx ry ⟨rfl, ?_⟩⟩ <;> simpa using q
  · cases ix; cases iy; cases e
    refine ⟨fun Q q => op_eq pins s σ H _ _ v u Q I rx ry ⟨rfl, ?_⟩, fun Q q => op_ne pins s σ H _ _ v u Q I rx ry ⟨rfl, ?_⟩⟩ <;> simpa using q
  · cases ix; cases iy; cases e
    exact ⟨fun Q q => op_eq pins s σ H _ _ v u Q I rx ry ⟨rfl, by simpa using q⟩, fun Q q => op_ne pins s σ H _ _ v u Q I rx ry ⟨rfl, by simpa using q⟩⟩
  · unfold eqS at e
    cases e1 : toPy dx with
    | none => rw [e1] at e; cases e
    | some p1 =>
      cases e2 : toPy dy with
      | none => rw [e1, e2] at e; cases e
      | some p2 =>
        rw [e1, e2] at e
        by_cases c : (SeqAt.shaped p1 && SeqAt.shaped p2) = true
        · simp only [c, if_true, Option.some.injEq] at e
          subst e
          rw [Bool.and_eq_true] at c
          exact ⟨fun Q q => op_eqD hu pins s σ H x y v u Q I rx ry ⟨p1, p2, (ix.mono sb).dp e1, (iy.mono sb).dp e2, c.1, c.2, q⟩, fun Q q => op_neD hu pins s σ H x y v u Q I rx ry ⟨p1, p2, (ix.mono sb).dp e1, (iy.mono sb).dp e2, c.1, c.2, q⟩⟩
        · simp only [c, if_false] at e
          cases e
theorem od_eq (hu : X.A.units + 64 < cLine) : OpR X (compareOp .Eq) (rD2 X.K X.mg eqD) := by
  intro pins s σ H x y v u Q I rx ry h
  obtain ⟨Hf, dx, dy, d, sb, ix, iy, e, q⟩ := h
  unfold eqD at e
  cases e1 : eqP dx dy with
  | none => rw [e1] at e; cases e
  | some b => rw [e1] at e; cases e; exact (eq_core hu I rx ry sb ix iy e1).1 Q (q _ Hf H (.refl sb) (by cases b <;> rw [Is]))
theorem od_ne (hu : X.A.units + 64 < cLine) : OpR X (compareOp .NotEq) (rD2 X.K X.mg neD) := by
  intro pins s σ H x y v u Q I rx ry h
  obtain ⟨Hf, dx, dy, d, sb, ix, iy, e, q⟩ := h
  unfold neD at e
  cases e1 : eqP dx dy with
  | none => rw [e1] at e; cases e
  | some b => rw [e1] at e; cases e; exact (eq_core hu I rx ry sb ix iy e1).2 Q (q _ Hf H (.refl sb) (by cases b <;> rw [Is]))
theorem od_add : OpR X (binaryOp .Add) (rD2 X.K X.mg addD) := by
  intro pins s σ H x y v u Q I rx ry h
  obtain ⟨Hf, dx, dy, d, sb, ix, iy, e, q⟩ := h
  unfold addD at e
  split at e
  · cases e; cases ix; cases iy
    exact op_add pins s σ H _ _ v u Q I rx ry ⟨_, _, rfl, rfl, q _ Hf H (.refl sb) (by rw [Is])⟩
  · split at e
    · rename_i a b hz
      cases e; cases ix.1; cases iy.1
      exact op_add_str pins s σ H _ _ v u Q I rx ry ⟨_, _, rfl, rfl, by rw [str_len, str_len]; exact hz, q _ Hf H (.refl sb) (by rw [Is, str_app]; exact ⟨rfl, by rw [List.length_append]; exact hz⟩)⟩
    · cases e
  · split at e
    · rename_i a b hz
      cases e
      obtain ⟨z1, p1, v1, rfl, h1, l1⟩ := ix
      obtain ⟨z2, p2, v2, rfl, h2, l2⟩ := iy
      refine op_cat pins s σ H _ _ v u Q I rx ry ⟨_, _, _, _, rfl, rfl, sb _ _ h1, sb _ _ h2, by rw [← l1.len, ← l2.len]; exact hz, fun p hp => q _ _ _ (.new sb hp) ?_⟩
      exact ⟨by rw [List.length_append]; exact hz, p, _, rfl, upd_same, (l1.app l2).mono (Ste.new (bag := []) sb hp).sub⟩
    · cases e
  · split at e
    · rename_i a b hz
      cases e
      obtain ⟨z1, p1, v1, rfl, h1, l1⟩ := ix
      obtain ⟨z2, p2, v2, rfl, h2, l2⟩ := iy
      refine op_catA pins s σ H _ _ v u Q I rx ry ⟨_, _, _, _, rfl, rfl, sb.sqt h1, sb.sqt h2, by rw [← l1.len, ← l2.len]; exact hz, fun z => ?_, fun z3 z4 => ?_, fun _ _ p hp => q _ _ _ (.new sb hp) ?_⟩
      · subst z
        have := l1.len
        have ea : a = [] := List.eq_nil_of_length_eq_zero (by simpa using this)
        subst ea
        exact q _ _ _ (.refl sb) ⟨z2, p2, v2, rfl, h2, l2⟩
      · subst z4
        have := l2.len
        have eb : b = [] := List.eq_nil_of_length_eq_zero (by simpa using this)
        subst eb
        rw [List.append_nil] at q
        exact q _ _ _ (.refl sb) ⟨z1, p1, v1, rfl, h1, l1⟩
      · exact ⟨by rw [List.length_append]; exact hz, p, _, rfl, .inl (.inl upd_same), (l1.app l2).mono (Ste.new (bag := []) sb hp).sub⟩
    · cases e
  · cases e
theorem od_sub : OpR X (binaryOp .Sub) (rD2 X.K X.mg subD) := by
  intro pins s σ H x y v u Q I rx ry h
  obtain ⟨Hf, dx, dy, d, sb, ix, iy, e, q⟩ := h
  unfold subD at e
  split at e
  · cases e; cases ix; cases iy
    exact op_sub pins s σ H _ _ v u Q I rx ry ⟨_, _, rfl, rfl, q _ Hf H (.refl sb) (by rw [Is])⟩
  · cases e
theorem od_fdiv : OpR X (binaryOp .FloorDiv) (rD2 X.K X.mg fdivD) := by
  intro pins s σ H x y v u Q I rx ry h
  obtain ⟨Hf, dx, dy, d, sb, ix, iy, e, q⟩ := h
  unfold fdivD at e
  split at e
  · split at e
    · rename_i hz
      cases e; cases ix; cases iy
      exact op_fdivW pins s σ H _ _ v u Q I rx ry ⟨_, _, rfl, rfl, hz, q _ Hf H (.refl sb) (by rw [Is])⟩
    · cases e
  · cases e
theorem od_mod : OpR X (binaryOp .Mod) (rD2 X.K X.mg modD) := by
  intro pins s σ H x y v u Q I rx ry h
  obtain ⟨Hf, dx, dy, d, sb, ix, iy, e, q⟩ := h
  unfold modD at e
  split at e
  · split at e
    · rename_i hz
      cases e; cases ix; cases iy
      exact op_mod pins s σ H _ _ v u Q I rx ry ⟨_, _, rfl, rfl, hz, q _ Hf H (.refl sb) (by rw [Is])⟩
    · cases e
  · cases e
theorem od_lt (hu : X.A.units + 64 < cLine) : OpR X (compareOp .Lt) (rD2 X.K X.mg ltD) := by
  intro pins s σ H x y v u Q I rx ry h
  obtain ⟨Hf, dx, dy, d, sb, ix, iy, e, q⟩ := h
  unfold ltD at e
  split at e
  · cases e; cases ix; cases iy
    exact op_lt pins s σ H _ _ v u Q I rx ry ⟨_, _, rfl, rfl, q _ Hf H (.refl sb) (by rw [Is])⟩
  · cases e; cases ix.1; cases iy.1
    refine op_lt_str pins s σ H _ _ v u Q I rx ry ⟨_, _, rfl, rfl, ?_⟩
    rw [str_tl, str_tl]
    exact q _ Hf H (.refl sb) (by rw [Is])
  · cases e1 : ltP dx dy with
    | none => rw [e1] at e; cases e
    | some b =>
      rw [e1] at e; cases e
      unfold ltP at e1
      split at e1
      · rename_i p1 p2 f1 f2
        split at e1
        · rename_i hc
          cases e1
          simp only [Bool.and_eq_true, decide_eq_true_eq, beq_iff_eq] at hc
          obtain ⟨as, r1⟩ := Dp.reads I p1 x v ((ix.mono sb).dp f1) rx
          obtain ⟨bs, r2⟩ := Dp.reads I p2 y u ((iy.mono sb).dp f2) ry
          have hm : X.A.units + min p1.depth p2.depth < cLine := by
            have := Nat.min_le_left p1.depth p2.depth
            omega
          exact PySem.W.lt_data r1 r2 hc.1.1 (fun z => by rw [z] at hc; exact Bool.noConfusion hc.2) hm ⟨.bl _, H, I, rfl, q _ Hf H (.refl sb) (by cases (PySem.W.dataLt p1 p2) <;> cases (PySem.W.dataLt p2 p1) <;> rw [Is])⟩
        · cases e1
      · cases e1
theorem od_le (hu : X.A.units + 64 < cLine) : OpR X (compareOp .LtE) (rD2 X.K X.mg leD) := by
  intro pins s σ H x y v u Q I rx ry h
  obtain ⟨Hf, dx, dy, d, sb, ix, iy, e, q⟩ := h
  unfold leD at e
  split at e
  · cases e; cases ix; cases iy
    exact op_le pins s σ H _ _ v u Q I rx ry ⟨_, _, rfl, rfl, q _ Hf H (.refl sb) (by rw [Is])⟩
  · cases e1 : leD.leP dx dy with
    | none => rw [e1] at e; cases e
    | some b =>
      rw [e1] at e; cases e
      unfold leD.leP at e1
      split at e1
      · rename_i p1 p2 f1 f2
        split at e1
        · rename_i hc
          cases e1
          simp only [Bool.and_eq_true, decide_eq_true_eq, beq_iff_eq] at hc
          obtain ⟨as, r1⟩ := Dp.reads I p1 x v ((ix.mono sb).dp f1) rx
          obtain ⟨bs, r2⟩ := Dp.reads I p2 y u ((iy.mono sb).dp f2) ry
          have hm : X.A.units + min p1.depth p2.depth < cLine := by
            have := Nat.min_le_left p1.depth p2.depth
            omega
          exact PySem.W.le_data r1 r2 hc.1.1 (fun z => by rw [z] at hc; exact Bool.noConfusion hc.2) hm ⟨.bl _, H, I, rfl, q _ Hf H (.refl sb) (by cases (PySem.W.dataLt p1 p2) <;> cases (PySem.W.dataLt p2 p1) <;> rw [Is])⟩
        · cases e1
      · cases e1
theorem od_gt (hu : X.A.units + 64 < cLine) : OpR X (compareOp .Gt) (rD2 X.K X.mg gtD) := by
  intro pins s σ H x y v u Q I rx ry h
  obtain ⟨Hf, dx, dy, d, sb, ix, iy, e, q⟩ := h
  unfold gtD at e
  split at e
  · cases e; cases ix; cases iy
    exact op_gt pins s σ H _ _ v u Q I rx ry ⟨_, _, rfl, rfl, q _ Hf H (.refl sb) (by rw [Is])⟩
  · cases e1 : gtD.gtP dx dy with
    | none => rw [e1] at e; cases e
    | some b =>
      rw [e1] at e; cases e
      unfold gtD.gtP at e1
      split at e1
      · rename_i p1 p2 f1 f2
        split at e1
        · rename_i hc
          cases e1
          simp only [Bool.and_eq_true, decide_eq_true_eq, beq_iff_eq] at hc
          obtain ⟨as, r1⟩ := Dp.reads I p1 x v ((ix.mono sb).dp f1) rx
          obtain ⟨bs, r2⟩ := Dp.reads I p2 y u ((iy.mono sb).dp f2) ry
          have hm : X.A.units + min p1.depth p2.depth < cLine := by
            have := Nat.min_le_left p1.depth p2.depth
            omega
          exact PySem.W.gt_data r1 r2 hc.1.1 (fun z => by rw [z] at hc; exact Bool.noConfusion hc.2) hm ⟨.bl _, H, I, rfl, q _ Hf H (.refl sb) (by cases (PySem.W.dataLt p1 p2) <;> cases (PySem.W.dataLt p2 p1) <;> rw [Is])⟩
        · cases e1
      · cases e1
theorem od_ge (hu : X.A.units + 64 < cLine) : OpR X (compareOp .GtE) (rD2 X.K X.mg geD) := by
  intro pins s σ H x y v u Q I rx ry h
  obtain ⟨Hf, dx, dy, d, sb, ix, iy, e, q⟩ := h
  unfold geD at e
  split at e
  · cases e; cases ix; cases iy
    exact op_ge pins s σ H _ _ v u Q I rx ry ⟨_, _, rfl, rfl, q _ Hf H (.refl sb) (by rw [Is])⟩
  · cases e1 : geD.geP dx dy with
    | none => rw [e1] at e; cases e
    | some b =>
      rw [e1] at e; cases e
      unfold geD.geP at e1
      split at e1
      · rename_i p1 p2 f1 f2
        split at e1
        · rename_i hc
          cases e1
          simp only [Bool.and_eq_true, decide_eq_true_eq, beq_iff_eq] at hc
          obtain ⟨as, r1⟩ := Dp.reads I p1 x v ((ix.mono sb).dp f1) rx
          obtain ⟨bs, r2⟩ := Dp.reads I p2 y u ((iy.mono sb).dp f2) ry
          have hm : X.A.units + min p1.depth p2.depth < cLine := by
            have := Nat.min_le_left p1.depth p2.depth
            omega
          exact PySem.W.ge_data r1 r2 hc.1.1 (fun z => by rw [z] at hc; exact Bool.noConfusion hc.2) hm ⟨.bl _, H, I, rfl, q _ Hf H (.refl sb) (by cases (PySem.W.dataLt p1 p2) <;> cases (PySem.W.dataLt p2 p1) <;> rw [Is])⟩
        · cases e1
      · cases e1
end
end DL
namespace DL
open PySem L2
/-! ### a new list -/
section
variable (K : PySem.W.Frag) (mg : Str → Option Value) (fx : Fx)
def FrQ (Hf H : Hp) (Q : VK) : List D → S → Prop := fun ds s' => ∀ p vs Hf' H', Ste fx.bag Hf H Hf' H' → BagAt fx.bag H' s' → H' p = some (.lst vs) → Hf' p = none → H p = none → IsL K mg Hf' ds vs → ds.length ≤ sizeLine → Q (.ref p) H'
def tF (G : List Sl) {m : Type → Type} [Mo m] (x : m (List D)) : TE := fun σ H Q => ∃ Hf s, StS K mg fx Hf H σ G s ∧ Mo.wp x s (FrQ K mg fx Hf H Q) (EX K mg fx G σ)
end
def mkL {m : Type → Type} [Mo m] (x : m (List D)) : m D := do
  let ds ← x
  pure (.lst ds)
/-- not too long -/
def szL (ds : List D) : Option (List D) := if ds.length ≤ sizeLine then some ds else none
theorem Ste.upd {bag : List Addr} {Hf H Hf' H' : Hp} (e : Ste bag Hf H Hf' H') {p : Addr} {o : HO} (hp : H p = none) (hf : Hf' p = none) : Ste bag Hf H Hf' (L2.upd H' p o) := by
  refine ⟨e.sub, fun a u q => ?_, fun a u q n => ?_, fun a n => ?_, e.fresh⟩
  · have ne : a ≠ p := fun z => by rw [z, hf] at q; cases q
    rw [upd_ne ne]; exact e.top a u q
  · have ne : a ≠ p := fun z => by rw [z, hp] at q; cases q
    rw [upd_ne ne]; exact e.keep a u q n
  · by_cases c : a = p
    · rw [c, upd_same]; simp
    · rw [upd_ne c]; exact e.dom a n
section
variable {K : PySem.W.Frag} {mg : Str → Option Value} {fx : Fx} {Hf H : Hp} {σ : L2.St} {G : List Sl} {s : S}
theorem StS.other (st : StS K mg fx Hf H σ G s) {p : Addr} {o : HO} (hf : Hf p = none) (h0 : fx.H0 p = none) (nb : p ∉ fx.bag) (no : ∀ (j : Nat) (q : Addr), σ[j]? = some (some (.ref q)) → (∀ x, G[j]? = some x → isOw x = true → q ≠ p)) : StS K mg fx Hf (upd H p o) σ G s := by
  refine ⟨st.ste.upd h0 hf, st.bag.upd nb, fun b m => ⟨(st.bagg b m).1, ?_, (st.bagg b m).2.2⟩, st.len, fun j x ex => ?_, st.dis⟩
  · have ne : b ≠ p := fun z => st.owNb h0 nb (z ▸ m)
    rw [upd_ne ne]; exact (st.bagg b m).2.1
  · exact (st.sl j x ex).upd fun q o e => no j q e x ex o
end
section
variable {X : Cx} {fx : Fx} {m : Type → Type} [Mo m] {G : List Sl} {e : Expr}
theorem de_frz {x : m (List D)} (h : PE X e (tF X.K X.mg fx G x)) : PE X e (tE X.K X.mg fx G (mkL x)) := peI h fun σ H Q ⟨Hf, s, st, w⟩ =>
  ⟨Hf, s, st, Mo.wp_mono (Mo.wp_bind w) (fun ds s' k p vs Hf' H' e bg hp hf hn l hz => by
    have k' := Mo.wp_pure k
    have sb : Sub Hf' (upd Hf' p (.lst vs)) := fun a o q => by
      have ne : a ≠ p := fun z => by rw [z, hf] at q; cases q
      rw [upd_ne ne]; exact q
    refine k' (.ref p) (upd Hf' p (.lst vs)) H' ⟨e.sub.trans sb, fun a o q => ?_, e.keep, e.dom, fun a o q => ?_⟩ bg ⟨hz, p, vs, rfl, upd_same, l.mono sb⟩
    · by_cases c : a = p
      · subst c; rw [upd_same] at q; cases q; exact hp
      · rw [upd_ne c] at q; exact e.top a o q
    · by_cases c : a = p
      · subst c; exact .inr hn
      · rw [upd_ne c] at q; exact e.fresh a o q) fun e s' k => k⟩
/-- what a new list's rule wants -/
theorem frq_new {Hf H : Hp} {σ : L2.St} {s : S} {ds : List D} {vs : List V} {Q : VK} (st : StS X.K X.mg fx Hf H σ G s) {Hf0 H0 : Hp} (e : Ste fx.bag Hf0 H0 Hf H) (h : FrQ X.K X.mg fx Hf0 H0 Q ds s) (l : IsL X.K X.mg Hf ds vs) (hz : ds.length ≤ sizeLine) (p : Addr) (hp : H p = none) : Q (.ref p) (upd H p (.lst vs)) := by
  have hn : H0 p = none := by
    cases q : H0 p with
    | none => rfl
    | some o => exact absurd hp (e.dom p (by rw [q]; simp))
  obtain ⟨_, nb, hf⟩ := st.new0 hp
  exact h p vs Hf _ (e.upd hn hf) (st.bag.upd nb) upd_same hf hn l hz
/-- [a, b, ..] -/
theorem df_list {es : List Expr} {pos : Pos} {ys : m (List D)} (h : PA X es (tA X.K X.mg fx G ys)) : PE X (.List es pos) (tF X.K X.mg fx G (do let ds ← ys; ask (szL ds))) := peI (pe_lst h) fun σ H Q ⟨Hf, s, st, w⟩ =>
  ⟨Hf, s, st, Mo.wp_mono (Mo.wp_bind w) (fun ds s1 k vs Hf1 H1 e bg l => by
    have k' := Mo.wp_lift k
    by_cases hz : ds.length ≤ sizeLine
    · have e1 : szL ds = some ds := if_pos hz
      rw [e1] at k'
      exact ⟨by rw [← l.len]; exact hz, fun p hp => frq_new (st.step e bg) e k' l hz p hp⟩
    · have e1 : szL ds = none := if_neg hz
      rw [e1] at k'
      exact k'.elim) fun e s' k => k⟩
/-- (a, b, ..) -/
theorem de_tup {es : List Expr} {pos : Pos} {x1 : Nat} {ys : m (List D)} (h : PA X es (tA X.K X.mg fx G ys)) : PE X (.Tuple es x1 pos) (tE X.K X.mg fx G (do let ds ← ys; let ds ← ask (szL ds); pure (.tup ds))) := peI (pe_tup h) fun σ H Q ⟨Hf, s, h⟩ =>
  (h.bind.mono fun vs H1 ⟨ds, Hf1, s1, sb, l, h1⟩ => by
    have k' := Mo.wp_lift (Mo.wp_bind h1.2)
    by_cases hz : ds.length ≤ sizeLine
    · have e1 : szL ds = some ds := if_pos hz
      rw [e1] at k'
      refine ⟨by rw [← l.len]; exact hz, fun p hp => (Mo.wp_pure k') _ _ _ (.new h1.1.top hp) (h1.1.bag.upd (h1.1.new0 hp).2.1) ?_⟩
      exact ⟨hz, p, vs, rfl, .inl (.inl upd_same), l.mono (Ste.new (bag := []) h1.1.top hp).sub⟩
    · have e1 : szL ds = none := if_neg hz
      rw [e1] at k'
      exact k'.elim).to
end
/-! ### truth, and, or, not -/
def truD : D → Option Bool
  | .non => some false
  | .bl b => some b
  | .int i => some (i != 0)
  | .str s => some (!s.isEmpty)
  | .tup ds => some (!ds.isEmpty)
  | .lst ds => some (!ds.isEmpty)
  | _ => none
theorem isEmpty_len {α β : Type} {a : List α} {b : List β} (h : a.length = b.length) : a.isEmpty = b.isEmpty := by
  cases a <;> cases b <;> simp at h ⊢
section
variable {K : PySem.W.Frag} {mg : Str → Option Value}
theorem is_bl {H : Hp} (b : Bool) : Is K mg H (.bl b) (.bl b) := by
  cases b <;> rw [Is]
theorem is_int {H : Hp} (b : Int) : Is K mg H (.int b) (.int b) := by rw [Is]
theorem tru_is {Hf H : Hp} (sb : Sub Hf H) {d : D} {v : V} {b : Bool} (i : Is K mg Hf d v) (e : truD d = some b) : TruV K v H b := by
  cases d with
  | non => cases i; cases e; exact rfl
  | bl c => cases i; cases e; exact rfl
  | int c => cases i; cases e; exact rfl
  | str c =>
    obtain ⟨rfl, hz⟩ := i
    cases e
    refine ⟨by rw [str_len]; exact hz, ?_⟩
    rw [str_len]
    cases c with
    | nil => rfl
    | cons x r =>
      show (!(x :: r).isEmpty) = ((((x :: r).length : Nat) : Int) != 0)
      simp
      omega
  | tup ds =>
    obtain ⟨_, a, vs, rfl, t, l⟩ := i
    cases e
    exact .inr (.inl ⟨vs, sb.sqt t, by rw [isEmpty_len l.len]⟩)
  | lst ds =>
    obtain ⟨_, a, vs, rfl, t, l⟩ := i
    cases e
    exact .inl ⟨vs, .inl (.inl (sb _ _ t)), by rw [isEmpty_len l.len]⟩
  | dic _ _ => cases e
  | ins _ _ _ => cases e
  | scr _ => cases e
  | xc _ _ _ _ => cases e
end
section
variable {X : Cx} {fx : Fx} {m : Type → Type} [Mo m] {G : List Sl} {a b c : Expr} {rest : List Expr} {pos : Pos} {x y : m D} {t u : m Bool}
def andM (t u : m Bool) : m Bool := do
  let b ← t
  if b = true then u else pure false
def orM (t u : m Bool) : m Bool := do
  let b ← t
  if b = true then pure true else u
def notM (t : m Bool) : m Bool := do
  let b ← t
  pure (!b)
def iteM {α : Type} (t : m Bool) (x y : m α) : m α := do
  let b ← t
  if b = true then x else y
def andV (x y : m D) : m D := do
  let d ← x
  let b ← ask (truD d)
  if b = true then y else pure d
def orV (x y : m D) : m D := do
  let d ← x
  let b ← ask (truD d)
  if b = true then pure d else y
def notV (x : m D) : m D := do
  let d ← x
  let b ← ask (truD d)
  pure (.bl (!b))
/-- a value's truth -/
theorem dt_tru (ha : PE X a (tE X.K X.mg fx G x)) (he : ∀ whole, isTrue a X.env whole = (do let v ← whole; standAt a.pos; holding [v] (truthy v)) := by intro _; rfl) :
    PT X a (tT X.K X.mg fx G (do let d ← x; ask (truD d))) := ptI (pt_truth ha he) fun σ H Q ⟨Hf, s, h⟩ =>
  (h.bind.mono fun v H1 ⟨d, Hf1, s1, sb, r, h1⟩ => by
    obtain ⟨k, e, q⟩ := h1.ask
    exact ⟨k, tru_is h1.1.top r e, q k Hf1 H1 (.refl h1.1.top) rfl⟩).to
theorem dw_and1 (ha : PT X a (tT X.K X.mg fx G t)) : PW X (.BoolOp .And [a] pos) (tT X.K X.mg fx G t) := pw_and1 ha
theorem dw_or1 (ha : PT X a (tT X.K X.mg fx G t)) : PW X (.BoolOp .Or [a] pos) (tT X.K X.mg fx G t) := pw_or1 ha
theorem dw_and (ha : PT X a (tT X.K X.mg fx G t)) (hb : PW X (.BoolOp .And (b :: rest) pos) (tT X.K X.mg fx G u)) : PW X (.BoolOp .And (a :: b :: rest) pos) (tT X.K X.mg fx G (andM t u)) := pwI (pw_and ha hb) fun σ H Q ⟨Hf, s, h⟩ =>
  (h.bind.mono fun v H1 ⟨d, Hf1, s1, sb, r, h1⟩ => by
    subst r
    cases v with
    | true => exact h1.to
    | false => exact h1.pure rfl).to
theorem dw_or (ha : PT X a (tT X.K X.mg fx G t)) (hb : PW X (.BoolOp .Or (b :: rest) pos) (tT X.K X.mg fx G u)) : PW X (.BoolOp .Or (a :: b :: rest) pos) (tT X.K X.mg fx G (orM t u)) := pwI (pw_or ha hb) fun σ H Q ⟨Hf, s, h⟩ =>
  (h.bind.mono fun v H1 ⟨d, Hf1, s1, sb, r, h1⟩ => by
    subst r
    cases v with
    | true => exact h1.pure rfl
    | false => exact h1.to).to
theorem dt_not (ha : PT X a (tT X.K X.mg fx G t)) : PT X (.UnaryOp .Not a pos) (tT X.K X.mg fx G (notM t)) := ptI (pt_not ha) fun σ H Q ⟨Hf, s, h⟩ =>
  (h.bind.mono fun v H1 ⟨d, Hf1, s1, sb, r, h1⟩ => by
    subst r
    exact h1.pure rfl).to
theorem de_not (ha : PE X a (tE X.K X.mg fx G x)) : PE X (.UnaryOp .Not a pos) (tE X.K X.mg fx G (notV x)) := peI (pe_notT ha) fun σ H Q ⟨Hf, s, h⟩ =>
  (h.bind.mono fun v H1 ⟨d, Hf1, s1, sb, r, h1⟩ => by
    have h2 := h1.bind (rl := fun _ a b => b = a) (β := Bool)
    have k := Mo.wp_lift (Mo.wp_bind h1.2)
    cases e : truD d with
    | none => rw [e] at k; exact k.elim
    | some b =>
      rw [e] at k
      exact ⟨b, tru_is h1.1.top r e, (Mo.wp_pure k) _ Hf1 H1 (.refl h1.1.top) h1.1.bag (is_bl _)⟩).to
theorem de_and (ha : PE X a (tE X.K X.mg fx G x)) (hb : PE X (.BoolOp .And (b :: rest) pos) (tE X.K X.mg fx G y)) : PE X (.BoolOp .And (a :: b :: rest) pos) (tE X.K X.mg fx G (andV x y)) := peI (pe_andT ha hb) fun σ H Q ⟨Hf, s, h⟩ =>
  (h.bind.mono fun v H1 ⟨d, Hf1, s1, sb, r, h1⟩ => by
    have k := Mo.wp_lift (Mo.wp_bind h1.2)
    cases e : truD d with
    | none => rw [e] at k; exact k.elim
    | some b =>
      rw [e] at k
      refine ⟨b, tru_is h1.1.top r e, ?_⟩
      cases b with
      | true => exact ⟨Hf1, s1, h1.1, k⟩
      | false => exact (Mo.wp_pure k) _ Hf1 H1 (.refl h1.1.top) h1.1.bag r).to
theorem de_or (ha : PE X a (tE X.K X.mg fx G x)) (hb : PE X (.BoolOp .Or (b :: rest) pos) (tE X.K X.mg fx G y)) : PE X (.BoolOp .Or (a :: b :: rest) pos) (tE X.K X.mg fx G (orV x y)) := peI (pe_orT ha hb) fun σ H Q ⟨Hf, s, h⟩ =>
  (h.bind.mono fun v H1 ⟨d, Hf1, s1, sb, r, h1⟩ => by
    have k := Mo.wp_lift (Mo.wp_bind h1.2)
    cases e : truD d with
    | none => rw [e] at k; exact k.elim
    | some b =>
      rw [e] at k
      refine ⟨b, tru_is h1.1.top r e, ?_⟩
      cases b with
      | false => exact ⟨Hf1, s1, h1.1, k⟩
      | true => exact (Mo.wp_pure k) _ Hf1 H1 (.refl h1.1.top) h1.1.bag r).to
theorem de_one {op : BoolOp} (ha : PE X a (tE X.K X.mg fx G x)) : PE X (.BoolOp op [a] pos) (tE X.K X.mg fx G x) := pe_one ha
theorem de_ifExp (hc : PT X c (tT X.K X.mg fx G t)) (ha : PE X a (tE X.K X.mg fx G x)) (hb : PE X b (tE X.K X.mg fx G y)) : PE X (.IfExp c a b pos) (tE X.K X.mg fx G (iteM t x y)) := peI (pe_ifExp hc ha hb) fun σ H Q ⟨Hf, s, h⟩ =>
  (h.bind.mono fun v H1 ⟨d, Hf1, s1, sb, r, h1⟩ => by
    subst r
    cases v with
    | true => exact h1.to
    | false => exact h1.to).to
/-- a < b < c -/
def chainM (f g : D → D → Option D) (x y z : m D) : m D := do
  let u ← x
  let v ← y
  let p ← ask ((f u v).bind bOf)
  if p = true then do
    let w ← z
    ask (g v w)
  else pure (.bl false)
theorem chain_read {op op' : CmpOp} {f g : D → D → Option D} {z : m D} {σ : L2.St} {H : Hp} {Q : VK} (h : tE X.K X.mg fx G (chainM f g x y z) σ H Q) :
    tChain (rD2 X.K X.mg f) (rD2 X.K X.mg g) (tE X.K X.mg fx G x) (tE X.K X.mg fx G y) (tE X.K X.mg fx G z) σ H Q := by
  obtain ⟨Hf, s, h⟩ := h
  refine (h.bind.mono fun v1 H1 ⟨d1, Hf1, s1, sb1, r1, h1⟩ => (h1.bind.mono fun v2 H2 ⟨d2, Hf2, s2, sb2, r2, h2⟩ => ?_).to).to
  have k := Mo.wp_lift (Mo.wp_bind h2.2)
  cases e : f d1 d2 with
  | none => rw [e] at k; exact k.elim
  | some d =>
    cases d with
    | bl p =>
      rw [e] at k
      have k' : Mo.wp (if p = true then (do let w ← z; ask (g d2 w)) else pure (.bl false) : m D) s2 _ _ := k
      refine ⟨Hf2, d1, d2, .bl p, h2.1.top, r1.mono sb2, r2, e, fun u Hf3 H3 e3 i3 => ⟨p, i3, ?_⟩⟩
      have st3 := h2.1.step e3.wide (e3.bag h2.1.bag)
      cases p with
      | true =>
        have h3 : tX X.K X.mg fx G (fun H d v => Is X.K X.mg H d v) (do let w ← z; ask (g d2 w) : m D) Hf3 s2 σ H3 Q :=
          ⟨st3, Mo.wp_mono k' (fun a s' q b Hf' H' e bg i => q b Hf' H' (e3.wide.trans e) bg i) fun e s' q => q⟩
        show tE X.K X.mg fx G z σ H3 _
        exact (h3.bind.mono fun v4 H4 ⟨d4, Hf4, s4, sb4, r4, h4⟩ => by
          obtain ⟨d, e, q⟩ := h4.ask
          exact ⟨Hf4, d2, d4, d, h4.1.top, (r2.mono e3.sub).mono sb4, r4, e, q⟩).to
      | false => exact (Mo.wp_pure k') _ Hf3 H3 e3.wide (e3.bag h2.1.bag) (is_bl _)
    | _ => rw [e] at k; exact k.elim
theorem test_read {x : m D} {Hf : Hp} {s : S} {σ : L2.St} {H : Hp} {Q : Bool → Hp → Prop} (h : tX X.K X.mg fx G (fun _ a b => b = a) (do let d ← x; ask (bOf d)) Hf s σ H Q) : tE X.K X.mg fx G x σ H fun v H' => ∃ k, v = .bl k ∧ Q k H' :=
  (h.bind.mono fun v H1 ⟨d, Hf1, s1, sb, r, h1⟩ => by
    obtain ⟨k, e, q⟩ := h1.ask
    cases d with
    | bl b =>
      cases e
      exact ⟨_, r, q _ Hf1 H1 (.refl h1.1.top) rfl⟩
    | _ => cases e).to
theorem dt_chain {op op' : CmpOp} {f g : D → D → Option D} {z : m D} (ho : OpR X (compareOp op) (rD2 X.K X.mg f)) (ho' : OpR X (compareOp op') (rD2 X.K X.mg g)) (ha : PE X a (tE X.K X.mg fx G x)) (hb : PE X b (tE X.K X.mg fx G y)) (hc : PE X c (tE X.K X.mg fx G z))
    (hm : lastMarks [op, op'] [b, c] = false := by with_unfolding_all rfl) : PT X (.Compare a [op, op'] [b, c] pos) (tT X.K X.mg fx G (do let d ← chainM f g x y z; ask (bOf d))) := ptI (pt_chain ho ho' ha hb hc hm) fun σ H Q ⟨Hf, s, h⟩ => chain_read (op := op) (op' := op') (test_read h)
end
end DL
namespace DL
open PySem L2
/-! ### what is walked -/
section
variable {X : Cx} {tg l : Expr} {tl : TE}
section
variable {X : Cx} {tg l : Expr} {tl : TE}
/-- an iterator over a list or a tuple is made -/
theorem iter_sq {tg : Expr} {pins : List (Addr × Obj)} {σ : L2.St} {H1 : Hp} {s1 : Shared} {R : It → Hp → Prop} {a : Addr} (I : L2.Inv X pins σ H1 s1) (hq : ((∃ xs, SqL X.K H1 a xs) ∧ R (Itl X.K a) H1) ∨ ((∃ xs, SqT X.K H1 a xs) ∧ R (Itt X.K a) H1)) :
    wpAny (model X.prog X.w) X.A (pyIter (.ref a)) (PIE X pins σ tg R) X.xe s1 :=
  hq.elim (fun ⟨⟨_, is⟩, q⟩ => let ⟨_, _, lies, _⟩ := I.list is
      wpAny_pyIter_list lies.isList (pi_one (tk := s1.toks) I _ (turn_list a _) ⟨_, Heap.get?_push_size _ rfl, rfl, rfl⟩ q))
    fun ⟨⟨_, is⟩, q⟩ => let ⟨its, _, lies, _⟩ := I.tuple is
      wpAny_pyIter_tuple (show s1.heap.IsTuple a its.toArray from lies) (pi_one (tk := s1.toks) I _ (turn_tuple a _) ⟨_, Heap.get?_push_size _ rfl, rfl, rfl⟩ q)
end
theorem piI {it : Expr} {t t' : TI} (h : PI X tg it t) (w : ∀ σ H Q, t' σ H Q → t σ H Q) : PI X tg it t' := ⟨fun pins s σ H Q I q => h.run pins s σ H Q I (w _ _ _ q)⟩
end
def sqOf : D → Option (List D)
  | .lst ds => some ds
  | .tup ds => some ds
  | _ => none
def intOf : D → Option Int
  | .int i => some i
  | _ => none
def rangeL (lo : Int) (n : Nat) : List D := (List.range n).map fun (k : Nat) => .int (lo + (k : Int))
def enumL (ds : List D) : List D := ds.mapIdx fun i d => .tup [.int (i : Int), d]
section
variable {K : PySem.W.Frag} {mg : Str → Option Value}
theorem yl_list {Hf : Hp} {ds : List D} {a : Addr} {vs : List V} (hz : ds.length ≤ sizeLine) (h : Hf a = some (.lst vs)) (l : IsL K mg Hf ds vs) : Yl K mg (Itl K a) Hf ds := ⟨hz, fun Hf2 H s1 s2 i => by
  have hq : SqL K H a vs := .inl (.inl (s2 _ _ (s1 _ _ h)))
  refine ⟨fun d hd => ?_, fun hl => ⟨vs, hq, by rw [← l.len]; exact hl⟩⟩
  obtain ⟨v, hv, iv⟩ := l.get hd
  exact ⟨⟨vs, v, hq, hv⟩, fun x H' ⟨e, f⟩ => by
    subst e
    have := f vs hq
    rw [hv] at this
    cases this
    exact ⟨Hf2, .refl s2, iv.mono s1⟩⟩⟩
theorem yl_tup {Hf : Hp} {ds : List D} {a : Addr} {vs : List V} (hz : ds.length ≤ sizeLine) (h : SqT K Hf a vs) (l : IsL K mg Hf ds vs) : Yl K mg (Itt K a) Hf ds := ⟨hz, fun Hf2 H s1 s2 i => by
  have hq : SqT K H a vs := s2.sqt (s1.sqt h)
  refine ⟨fun d hd => ?_, fun hl => ⟨vs, hq, by rw [← l.len]; exact hl⟩⟩
  obtain ⟨v, hv, iv⟩ := l.get hd
  exact ⟨⟨vs, v, hq, hv⟩, fun x H' ⟨e, f⟩ => by
    subst e
    have := f vs hq
    rw [hv] at this
    cases this
    exact ⟨Hf2, .refl s2, iv.mono s1⟩⟩⟩
theorem yl_range (lo : Int) (n : Nat) {Hf : Hp} (hz : n ≤ sizeLine) : Yl K mg (Itr lo n) Hf (rangeL lo n) := ⟨by simpa [rangeL] using hz, fun Hf2 H s1 s2 i => by
  refine ⟨fun d hd => ?_, fun hl => ?_⟩
  rotate_left
  · have z : n ≤ i := by simpa [rangeL] using hl
    exact z
  have hi : i < n := by
    have := (List.getElem?_eq_some_iff.mp hd).1
    simpa [rangeL] using this
  have e : d = .int (lo + (i : Int)) := by
    unfold rangeL at hd
    rw [List.getElem?_map, List.getElem?_range hi] at hd
    cases hd
    rfl
  subst e
  exact ⟨hi, fun x H' ⟨e1, e2⟩ => by
    subst e1 e2
    exact ⟨Hf2, .refl s2, is_int _⟩⟩⟩
theorem yl_str (s : List Nat) {Hf : Hp} (hz : s.length ≤ sizeLine) : Yl K mg (Its ⟨s.toArray⟩) Hf (s.map fun c => .str [c]) := ⟨by simpa using hz, fun Hf2 H s1 s2 i => by
  refine ⟨fun d hd => ?_, fun hl => ?_⟩
  · have hi : i < s.length := by
      have := (List.getElem?_eq_some_iff.mp hd).1
      simpa using this
    rw [List.getElem?_map, List.getElem?_eq_getElem hi] at hd
    cases hd
    refine ⟨?_, fun x H' ⟨e1, c, e2, e3⟩ => ?_⟩
    · show i < s.toArray.size
      simpa using hi
    · subst e1 e3
      refine ⟨Hf2, .refl s2, ?_⟩
      have e2' : s.toArray[i]? = some c := e2
      rw [List.getElem?_toArray, List.getElem?_eq_getElem hi] at e2'
      cases e2'
      exact ⟨rfl, by show 1 ≤ sizeLine; decide⟩
  · show s.toArray.size ≤ i
    simpa using hl⟩
theorem yl_enum {Hf : Hp} {ds : List D} {a : Addr} {vs : List V} (hz : ds.length ≤ sizeLine) (h : Hf a = some (.lst vs)) (l : IsL K mg Hf ds vs) : Yl K mg (Ite K a) Hf (enumL ds) := ⟨by simpa [enumL] using hz, fun Hf2 H s1 s2 i => by
  have hq : SqL K H a vs := .inl (.inl (s2 _ _ (s1 _ _ h)))
  refine ⟨fun d hd => ?_, fun hl => ⟨vs, hq, by rw [← l.len]; simpa [enumL] using hl⟩⟩
  have hi : i < ds.length := by
    have := (List.getElem?_eq_some_iff.mp hd).1
    simpa [enumL] using this
  have ed : d = .tup [.int (i : Int), ds[i]] := by
    unfold enumL at hd
    rw [List.getElem?_mapIdx, List.getElem?_eq_getElem hi] at hd
    cases hd
    rfl
  subst ed
  obtain ⟨v, hv, iv⟩ := l.get (List.getElem?_eq_getElem hi)
  refine ⟨⟨vs, v, hq, hv⟩, fun x H' ⟨T, y, e1, hT, e2, f⟩ => ?_⟩
  subst e1 e2
  have := f vs hq
  rw [hv] at this
  cases this
  refine ⟨upd Hf2 T (.tup [.int (i : Nat), v]), .new s2 hT, ?_⟩
  exact ⟨by show 2 ≤ sizeLine; decide, T, _, rfl, .inl (.inl upd_same), .cons (is_int _) (.cons ((iv.mono s1).mono (Ste.new (bag := []) s2 hT).sub) .nil)⟩⟩
end
section
variable {X : Cx} {fx : Fx} {m : Type → Type} [Mo m] {G : List Sl} {tg l a b : Expr} {x y : m D} {ys : m (List D)} {pos : Pos} {kk : Nat}
def strOf : D → Option (List Nat)
  | .str s => some s
  | _ => none
def chrs (s : List Nat) : List D := s.map fun c => .str [c]
def rng1 : List D → Option (List D)
  | [.int j] => if -(2 ^ 62) ≤ j ∧ j ≤ 1000000 then some (rangeL 0 j.toNat) else none
  | _ => none
theorem di_range1 {p : Pos} (hg : Gl X "range") (hm : X.mg "range" = none) (ha : PA X [a] (tA X.K X.mg fx G ys)) (hs : starEach [a] X.env = [(false, eval a X.env)] := by rfl) :
    PI X tg (.Call (.Name "range" p) [a] [] pos) (tI X.K X.mg fx G (do let ds ← ys; ask (rng1 ds))) := piI (pi_range1 hg hm ha hs) fun σ H Q ⟨Hf, s, h⟩ =>
  (h.bind.mono fun v H1 ⟨d, Hf1, s1, sb, r, h1⟩ => by
    obtain ⟨ds, e, q⟩ := h1.ask
    unfold rng1 at e
    split at e
    · rename_i j
      split at e
      · rename_i hj
        cases e
        obtain ⟨v1, r1, rfl, rfl, rfl⟩ := r
        exact ⟨j, rfl, hj.1, Int.lt_of_le_of_lt hj.2 (by decide), q _ Hf1 H1 (.refl h1.1.top) (yl_range _ _ (by rw [sizeLine_eq]; omega))⟩
      · cases e
    · cases e).to
def enumOf : List D → Option (List D)
  | [.lst ds] => some (enumL ds)
  | _ => none
theorem di_enumL {p tpos : Pos} {elts : List Expr} {k : Nat} (hg : Gl X "enumerate") (hm : X.mg "enumerate" = none) (ha : PA X [a] (tA X.K X.mg fx G ys)) (hs : starEach [a] X.env = [(false, eval a X.env)] := by rfl) :
    PI X (.Tuple elts k tpos) (.Call (.Name "enumerate" p) [a] [] pos) (tI X.K X.mg fx G (do let ds ← ys; ask (enumOf ds))) := piI (pi_enum hg hm ha hs) fun σ H Q ⟨Hf, s, h⟩ =>
  (h.bind.mono fun v H1 ⟨d, Hf1, s1, sb, r, h1⟩ => by
    obtain ⟨ds, e, q⟩ := h1.ask
    unfold enumOf at e
    split at e
    · rename_i es
      cases e
      obtain ⟨v1, r1, rfl, ⟨hz, a, vs, rfl, t, il⟩, rfl⟩ := r
      exact ⟨a, vs, rfl, .inl (.inl (h1.1.top _ _ t)), q _ Hf1 H1 (.refl h1.1.top) (yl_enum hz t il)⟩
    · cases e).to
/-! ### targets -/
def un2 : D → Option (D × D)
  | .tup [a, b] => some (a, b)
  | _ => none
def un3 : D → Option (D × D × D)
  | .tup [a, b, c] => some (a, b, c)
  | _ => none
theorem pgd_tup2 (C : Cok X fx kk) (i j : Nat) {n1 n2 : Str} {p1 p2 : Pos} {k : Nat} (hi : X.N[i]? = some n1 := by rfl) (hx : Loc X.env.scope n1 := by first | exact Or.inl rfl | exact Or.inr rfl) (hf : X.fn n1 = true ∨ X.env.scope.names.lookup n1 = some .local := by first | exact .inl rfl | exact .inr rfl)
    (hi2 : X.N[j]? = some n2 := by rfl) (hx2 : Loc X.env.scope n2 := by first | exact Or.inl rfl | exact Or.inr rfl) (hf2 : X.fn n2 = true ∨ X.env.scope.names.lookup n2 = some .local := by first | exact .inl rfl | exact .inr rfl) :
    PGd X fx (.Tuple [.Name n1 p1, .Name n2 p2] k pos) (gTup X.K 2 (gCons (gName i) (gCons (gName j) gNil))) un2 (fun G d => (G.set i (.im d.1)).set j (.im d.2)) [i, j] :=
  ⟨pg_tup C.calm (pgs_cons (pg_name C.nd hi hx hf) (pgs_cons (pg_name C.nd hi2 hx2 hf2) pgs_nil)), fun {G Hf d v σ H s c Q} st r e q => by
    cases d with
    | tup ds =>
      obtain ⟨hz, a, vs, rfl, t, l⟩ := r
      unfold un2 at e
      split at e
      · rename_i d1 d2 eq
        cases eq
        cases e
        obtain ⟨v1, r1, rfl, i1, v2, r2, rfl, i2, rfl⟩ := l
        refine ⟨a, _, rfl, st.top.sqt t, rfl, v1, _, rfl, v2, _, rfl, rfl, q _ (fun k hk => ?_) (by simp) ((st.set i1).set i2)⟩
        rw [List.getElem?_set_ne (fun z => hk (by simp [z])), List.getElem?_set_ne (fun z => hk (by simp [z]))]
      · cases e
    | _ => cases e⟩
theorem pgd_tup3 (C : Cok X fx kk) (i j l : Nat) {n1 n2 n3 : Str} {p1 p2 p3 : Pos} {k : Nat} (hi : X.N[i]? = some n1 := by rfl) (hx : Loc X.env.scope n1 := by first | exact Or.inl rfl | exact Or.inr rfl) (hf : X.fn n1 = true ∨ X.env.scope.names.lookup n1 = some .local := by first | exact .inl rfl | exact .inr rfl)
    (hi2 : X.N[j]? = some n2 := by rfl) (hx2 : Loc X.env.scope n2 := by first | exact Or.inl rfl | exact Or.inr rfl) (hf2 : X.fn n2 = true ∨ X.env.scope.names.lookup n2 = some .local := by first | exact .inl rfl | exact .inr rfl)
    (hi3 : X.N[l]? = some n3 := by rfl) (hx3 : Loc X.env.scope n3 := by first | exact Or.inl rfl | exact Or.inr rfl) (hf3 : X.fn n3 = true ∨ X.env.scope.names.lookup n3 = some .local := by first | exact .inl rfl | exact .inr rfl) :
    PGd X fx (.Tuple [.Name n1 p1, .Name n2 p2, .Name n3 p3] k pos) (gTup X.K 3 (gCons (gName i) (gCons (gName j) (gCons (gName l) gNil)))) un3 (fun G d => ((G.set i (.im d.1)).set j (.im d.2.1)).set l (.im d.2.2)) [i, j, l] :=
  ⟨pg_tup C.calm (pgs_cons (pg_name C.nd hi hx hf) (pgs_cons (pg_name C.nd hi2 hx2 hf2) (pgs_cons (pg_name C.nd hi3 hx3 hf3) pgs_nil))), fun {G Hf d v σ H s c Q} st r e q => by
    cases d with
    | tup ds =>
      obtain ⟨hz, a, vs, rfl, t, l⟩ := r
      unfold un3 at e
      split at e
      · rename_i d1 d2 d3 eq
        cases eq
        cases e
        obtain ⟨v1, r1, rfl, i1, v2, r2, rfl, i2, v3, r3, rfl, i3, rfl⟩ := l
        refine ⟨a, _, rfl, st.top.sqt t, rfl, v1, _, rfl, v2, _, rfl, v3, _, rfl, rfl, q _ (fun k hk => ?_) (by simp) (((st.set i1).set i2).set i3)⟩
        rw [List.getElem?_set_ne (fun z => hk (by simp [z])), List.getElem?_set_ne (fun z => hk (by simp [z])), List.getElem?_set_ne (fun z => hk (by simp [z]))]
      · cases e
    | _ => cases e⟩
end
end DL
namespace DL
open PySem L2
/-! ### list comprehensions -/
section
variable {m : Type → Type} [Mo m] {γ : Type}
def lcF (u : D → Option γ) (xt : γ → m Bool) (xe : γ → m D) : List D → m (List D)
  | [] => pure []
  | d :: ds => do
    let c ← ask (u d)
    let b ← Mo.noex (xt c)
    if b = true then do
      let y ← Mo.noex (xe c)
      let r ← lcF u xt xe ds
      pure (y :: r)
    else lcF u xt xe ds
end
abbrev Fx.nox (fx : Fx) : Fx := { fx with W := fun _ _ _ _ => False, gx := none }
def wipeG (G : List Sl) : List Nat → List Sl
  | [] => G
  | v :: vs => (wipeG G vs).set v .un
theorem wipe_get {σ : L2.St} {i : Nat} : ∀ {vs : List Nat}, i ∉ vs → (wipe σ vs)[i]? = σ[i]?
  | [], _ => rfl
  | v :: vs, h => by
    unfold wipe
    rw [List.getElem?_set_ne (fun z => h (by simp [z])), wipe_get (fun z => h (List.mem_cons_of_mem _ z))]
theorem wipe_in {σ : L2.St} {i : Nat} : ∀ {vs : List Nat}, i ∈ vs → i < σ.length → (wipe σ vs)[i]? = some none
  | [], h, _ => by cases h
  | v :: vs, h, hl => by
    unfold wipe
    by_cases c : v = i
    · subst c
      rw [List.getElem?_set_self (by rw [wipe_length]; exact hl)]
    · rw [List.getElem?_set_ne c]
      rcases List.mem_cons.mp h with e | h'
      · exact absurd e.symm c
      · exact wipe_in h' hl
theorem wipeG_len {G : List Sl} : ∀ (vs : List Nat), (wipeG G vs).length = G.length
  | [] => rfl
  | v :: vs => by unfold wipeG; rw [List.length_set, wipeG_len vs]
theorem wipeG_get {G : List Sl} {i : Nat} : ∀ {vs : List Nat}, i ∉ vs → (wipeG G vs)[i]? = G[i]?
  | [], _ => rfl
  | v :: vs, h => by
    unfold wipeG
    rw [List.getElem?_set_ne (fun z => h (by simp [z])), wipeG_get (fun z => h (List.mem_cons_of_mem _ z))]
theorem wipeG_in {G : List Sl} {i : Nat} : ∀ {vs : List Nat} {x : Sl}, i ∈ vs → (wipeG G vs)[i]? = some x → x = .un
  | [], _, h, _ => by cases h
  | v :: vs, x, h, e => by
    unfold wipeG at e
    by_cases c : v = i
    · subst c
      have hl : v < (wipeG G vs).length := by
        have := (List.getElem?_eq_some_iff.mp e).1
        simpa using this
      rw [List.getElem?_set_self hl] at e
      cases e
      rfl
    · rw [List.getElem?_set_ne c] at e
      rcases List.mem_cons.mp h with e' | h'
      · exact absurd e'.symm c
      · exact wipeG_in h' e
theorem wipe_eq {σ σ2 : L2.St} {vs : List Nat} (hl : σ2.length = (wipe σ vs).length) (h : ∀ j, j ∉ vs → σ2[j]? = (wipe σ vs)[j]?) : wipe σ2 vs = wipe σ vs := by
  apply List.ext_getElem?
  intro i
  by_cases c : i ∈ vs
  · by_cases hi : i < σ.length
    · rw [wipe_in c hi, wipe_in c (by rw [hl, wipe_length]; exact hi)]
    · rw [List.getElem?_eq_none (by rw [wipe_length, hl, wipe_length]; omega), List.getElem?_eq_none (by rw [wipe_length]; omega)]
  · rw [wipe_get c, h i c]
section
variable {K : PySem.W.Frag} {mg : Str → Option Value} {fx : Fx} {Hf H : Hp} {σ : L2.St} {G : List Sl} {s : S}
theorem StS.wiped (st : StS K mg fx Hf H σ G s) (vs : List Nat) : StS K mg fx.nox Hf H (wipe σ vs) (wipeG G vs) s := by
  have get : ∀ {i : Nat} {x : Sl}, (wipeG G vs)[i]? = some x → x ≠ .un → G[i]? = some x ∧ (wipe σ vs)[i]? = σ[i]? := fun {i x} e n => by
    by_cases c : i ∈ vs
    · exact absurd (wipeG_in c e) n
    · rw [wipeG_get c] at e
      exact ⟨e, wipe_get c⟩
  refine ⟨st.ste, st.bag, st.bagg, by rw [wipe_length, wipeG_len]; exact st.len, fun i x e => ?_, fun i j x y p hij ex ey ox oy e1 e2 => ?_⟩
  · cases x with
    | un => trivial
    | im d =>
      obtain ⟨e', q⟩ := get e (by simp)
      rw [q]; exact st.sl i _ e'
    | bg =>
      obtain ⟨e', q⟩ := get e (by simp)
      rw [q]; exact st.sl i _ e'
    | ow ds =>
      obtain ⟨e', q⟩ := get e (by simp)
      rw [q]; exact st.sl i _ e'
    | od ks ds =>
      obtain ⟨e', q⟩ := get e (by simp)
      rw [q]; exact st.sl i _ e'
    | ob ns ds =>
      obtain ⟨e', q⟩ := get e (by simp)
      rw [q]; exact st.sl i _ e'
  · have nx : x ≠ .un := fun z => by subst z; cases ox
    have ny : y ≠ .un := fun z => by subst z; cases oy
    obtain ⟨ex', q1⟩ := get ex nx
    obtain ⟨ey', q2⟩ := get ey ny
    rw [q1] at e1
    rw [q2] at e2
    exact st.dis i j x y p hij ex' ey' ox oy e1 e2
theorem StS.nox (st : StS K mg fx Hf H σ G s) : StS K mg fx.nox Hf H σ G s := ⟨st.ste, st.bag, st.bagg, st.len, fun i x e => by
  have so := st.sl i x e
  cases x with
  | un => trivial
  | im d => exact so
  | ow ds => exact so
  | od ks ds => exact so
  | ob ns ds => exact so
  | bg => exact so, st.dis⟩
end
section
variable {X : Cx} {fx : Fx} {m : Type → Type} [Mo m] {G : List Sl} {γ : Type} {kk : Nat}
/-- the reading of a comprehension -/
theorem lc_read {xi : m (List D)} {u : D → Option γ} {xt : γ → m Bool} {xe : γ → m D} {g : TG} {st : List Sl → γ → List Sl} {is vs : List Nat} {tg : Expr} {K : PySem.W.Frag} {mg : Str → Option Value}
    (hg : ∀ {G : List Sl} {Hf : Hp} {d : D} {v : V} {σ : L2.St} {H : Hp} {s : S} {c : γ} {Q : L2.St → Hp → Prop}, StS K mg fx.nox Hf H σ G s → Is K mg Hf d v → u d = some c → (∀ σ', (∀ j, j ∉ is → σ'[j]? = σ[j]?) → σ'.length = σ.length → StS K mg fx.nox Hf H σ' (st G c) s → Q σ' H) → g v σ H Q)
    (hsub : ∀ i ∈ is, i ∈ vs) {σ : L2.St} {H : Hp} {Q : VK} (h : tF K mg fx G (do let ds ← xi; lcF u xt xe ds) σ H Q) :
    tLc (tI K mg fx G xi) g (fun σ H Q => ∃ c, tT K mg fx.nox (st (wipeG G vs) c) (xt c) σ H Q) (fun σ H Q => ∃ c, tE K mg fx.nox (st (wipeG G vs) c) (xe c) σ H Q) vs σ H Q := by
  obtain ⟨Hf0, s0, st0, w0⟩ := h
  refine ⟨Hf0, s0, st0, Mo.wp_mono (Mo.wp_bind w0) (fun ds s1 w1 J Hf1 H1 e1 bg1 yl Da hD => ?_) fun e s' k => k⟩
  have st1 := st0.step e1 bg1
  obtain ⟨nH0, nb, nf⟩ := st1.new0 hD
  have hn0 : H Da = none := by
    cases q : H Da with
    | none => rfl
    | some o => exact absurd hD (e1.dom Da (by rw [q]; simp))
  have no := st1.owNe hD
  refine ⟨fun i m H' => m = ds.length - i ∧ i ≤ ds.length ∧ ∃ Hf s acc accV, Sub Hf1 Hf ∧ StS K mg fx Hf H' σ G s ∧ Ste fx.bag Hf0 H Hf H' ∧ H' Da = some (.lst accV) ∧ IsL K mg Hf acc accV ∧ Hf Da = none ∧ acc.length ≤ i ∧
    Mo.wp (lcF u xt xe (ds.drop i)) s (fun r s' => FrQ K mg fx Hf0 H Q (acc ++ r) s') (EX K mg fx G σ), ⟨ds.length, by simp, Nat.zero_le _, Hf1, s1, [], [], .refl _, st1.other nf nH0 nb no, e1.upd hn0 nf, upd_same, .nil, nf, Nat.zero_le _, w1⟩, ?_⟩
  rintro i m H2 ⟨rfl, hi, Hf2, s2, acc, accV, sb2, st2, e2, hD2, l2, nf2, la, w2⟩
  obtain ⟨y1, y2⟩ := yl.2 Hf2 H2 sb2 st2.top i
  by_cases hlt : i < ds.length
  · obtain ⟨go, yd⟩ := y1 ds[i] (List.getElem?_eq_getElem hlt)
    rw [List.drop_eq_getElem_cons hlt] at w2
    have w4 := Mo.wp_lift (Mo.wp_bind w2)
    refine .inr ⟨go, fun H' => i + 1 ≤ ds.length ∧ ∃ Hf s acc accV, Sub Hf1 Hf ∧ StS K mg fx Hf H' σ G s ∧ Ste fx.bag Hf0 H Hf H' ∧ H' Da = some (.lst accV) ∧ IsL K mg Hf acc accV ∧ Hf Da = none ∧ acc.length ≤ i + 1 ∧
      Mo.wp (lcF u xt xe (ds.drop (i + 1))) s (fun r s' => FrQ K mg fx Hf0 H Q (acc ++ r) s') (EX K mg fx G σ), fun H' q => ⟨ds.length - (i + 1), by omega, rfl, q⟩, fun x H3 y => ?_⟩
    obtain ⟨Hf3, e3, is3⟩ := yd x H3 y
    cases q : u ds[i] with
    | none => rw [q] at w4; exact w4.elim
    | some c =>
      rw [q] at w4
      have st3 := st2.step e3.wide (e3.bag st2.bag)
      refine hg (st3.wiped vs) is3 q fun σ2 hs hl st4 => ⟨wipe_eq hl fun j hj => hs j fun z => hj (hsub j z), c, Hf3, s2, st4, ?_⟩
      refine Mo.wp_mono (Mo.wp_noex (Mo.wp_bind w4)) (fun b s5 w5 b' Hf5 H5 e5 bg5 eb => ?_) fun _ _ f => f.elim
      subst eb
      have st5 := st3.step (fx := fx) (Hf' := Hf5) (H' := H5) e5 bg5
      have hD5 : H5 Da = some (.lst accV) := e5.keep _ _ (e3.keep _ _ hD2 (by simp)) nb
      have nf5 : Hf5 Da = none := e5.stayNone (e3.stayNone nf2 (by rw [hD2]; simp)) (by rw [e3.keep _ _ hD2 (by simp)]; simp)
      have e25 : Ste fx.bag Hf2 H2 Hf5 H5 := (e3.wide).trans e5
      cases b' with
      | true =>
        refine ⟨c, Hf5, s5, st4.step e5 bg5, ?_⟩
        have w6 : Mo.wp (Mo.noex (xe c) >>= fun y => lcF u xt xe (ds.drop (i + 1)) >>= fun r => pure (y :: r)) s5 _ _ := w5
        refine Mo.wp_mono (Mo.wp_noex (Mo.wp_bind w6)) (fun y s6 w7 yv Hf6 H6 e6 bg6 is6 => ?_) fun _ _ f => f.elim
        have hD6 : H6 Da = some (.lst accV) := e6.keep _ _ hD5 nb
        have nf6 : Hf6 Da = none := e6.stayNone nf5 (by rw [hD5]; simp)
        have e26 := e25.trans e6
        have st6 := st5.step (fx := fx) (Hf' := Hf6) (H' := H6) e6 bg6
        refine ⟨accV, hD6, ?_, hlt, Hf6, s6, acc ++ [y], accV ++ [yv], sb2.trans e26.sub, st6.other nf6 nH0 nb no, (e2.trans e26).upd hn0 nf6, upd_same, (l2.mono e26.sub).app (.cons is6 .nil), nf6, ?_, ?_⟩
        · rw [← l2.len]
          exact Nat.lt_of_lt_of_le (Nat.lt_of_le_of_lt la hlt) yl.1
        · rw [List.length_append, List.length_singleton]
          omega
        · refine Mo.wp_mono (Mo.wp_bind w7) (fun r s8 w8 => ?_) fun e s' k => k
          have w9 := Mo.wp_pure w8
          rw [List.append_assoc, List.singleton_append]
          exact w9
      | false => exact ⟨hlt, Hf5, s5, acc, accV, sb2.trans e25.sub, st5, e2.trans e25, hD5, l2.mono e25.sub, nf5, Nat.le_succ_of_le la, w5⟩
  · have e : i = ds.length := by omega
    subst e
    refine .inl ⟨y2 (Nat.le_refl _), ?_⟩
    rw [List.drop_length] at w2
    have w3 := Mo.wp_pure w2
    rw [List.append_nil] at w3
    exact w3 Da accV Hf2 H2 e2 st2.bag hD2 nf2 hn0 l2 (Nat.le_trans la yl.1)
end
end DL
namespace DL
open PySem L2
theorem Cok.blk {X : Cx} {fx : Fx} {kk : Nat} (C : Cok X fx kk) (s : Shared) (H : Hp) (scope : Scope) (cenv : Env) (fp : List Addr) : Cok (X.blk s H scope cenv fp) fx.nox kk :=
  ⟨C.calm, PassesOwn.never, fun _ _ ⟨_, _, _, _, _, _, _, _, _, _, _, _, _, _, _, _, w⟩ => w.elim, C.rm, C.nd, C.gd⟩
theorem pts_true {X : Cx} {fx : Fx} {m : Type → Type} [Mo m] {G : List Sl} : PTs X [] (tT X.K X.mg fx G (pure true : m Bool)) := ⟨fun pins s σ H Q I ⟨Hf, s', h⟩ => pts_nil.run pins s σ H Q I (h.pure rfl)⟩
theorem pts_test {X : Cx} {fx : Fx} {m : Type → Type} [Mo m] {G : List Sl} {c : Expr} {t : m Bool} (h : PT X c (tT X.K X.mg fx G t)) : PTs X [c] (tT X.K X.mg fx G t) := pts_one h
theorem pts_ex {X : Cx} {ι : Type} {ifs : List Expr} {t : ι → TT} (h : ∀ i, PTs X ifs (t i)) : PTs X ifs (fun σ H Q => ∃ i, t i σ H Q) := ⟨fun pins s σ H Q I ⟨i, q⟩ => (h i).run pins s σ H Q I q⟩
theorem pe_ex {X : Cx} {ι : Type} {e : Expr} {t : ι → TE} (h : ∀ i, PE X e (t i)) : PE X e (fun σ H Q => ∃ i, t i σ H Q) := ⟨fun pins s σ H Q I ⟨i, q⟩ => (h i).run pins s σ H Q I q⟩
section
variable {X : Cx} {fx : Fx} {m : Type → Type} [Mo m] {G : List Sl} {γ α β : Type} {kk : Nat} {elt tg iter : Expr} {ifs : List Expr} {scope : Scope} {pos : Pos} {xi : m (List D)} {u : D → Option γ} {xt : γ → m Bool} {xe : γ → m D} {g : TG} {st : List Sl → γ → List Sl} {is : List Nat}
/-- [elt for tg in iter if ..] -/
theorem df_lc (own : List (Str × Nat)) (C : Cok X fx kk) (hi : PI X tg iter (tI X.K X.mg fx G xi)) (ok : BlkOk X.N X.env.scope scope own)
    (hg : ∀ (s : Shared) (H : Hp) (A : Addr) (cl : List (Str × Addr)) (fp : List Addr), PGd (X.blk s H scope (compEnvC scope cl A X.env) fp) fx.nox tg g u st is)
    (ht : ∀ (s : Shared) (H : Hp) (A : Addr) (cl : List (Str × Addr)) (fp : List Addr), Cok (X.blk s H scope (compEnvC scope cl A X.env) fp) fx.nox kk → ∀ c, PTs (X.blk s H scope (compEnvC scope cl A X.env) fp) ifs (tT X.K X.mg fx.nox (st (wipeG G (own.map (·.2))) c) (xt c)))
    (he : ∀ (s : Shared) (H : Hp) (A : Addr) (cl : List (Str × Addr)) (fp : List Addr), Cok (X.blk s H scope (compEnvC scope cl A X.env) fp) fx.nox kk → ∀ c, PE (X.blk s H scope (compEnvC scope cl A X.env) fp) elt (tE X.K X.mg fx.nox (st (wipeG G (own.map (·.2))) c) (xe c)))
    (hsub : ∀ i ∈ is, i ∈ own.map (·.2)) (hs : ∀ x, foldedSetIterable iter X.env x = pure x := by intro _; rfl) :
    PE X (.ListComp elt [⟨tg, iter, ifs, 0⟩] scope pos) (tF X.K X.mg fx G (do let ds ← xi; lcF u xt xe ds)) :=
  peI (pe_lc (own := own) C.calm C.nd hi ok (fun s H A cl fp => (hg s H A cl fp).1) (fun s H A cl fp => pts_ex (ht s H A cl fp (C.blk ..))) (fun s H A cl fp => pe_ex (he s H A cl fp (C.blk ..))) hs) fun σ H Q h =>
    lc_read (tg := tg) (fun {G Hf d v σ H s c Q} => (hg {} (fun _ => none) 0 [] []).2) hsub h
/-- x = [.. for ..] on one line -/
theorem ps_setLcF (own : List (Str × Nat)) (C : Cok X fx kk) {n : Str} {pos' : Pos} (i : Nat) (hi : PI X tg iter (tI X.K X.mg fx G xi)) (ok : BlkOk X.N X.env.scope scope own)
    (hg : ∀ (s : Shared) (H : Hp) (A : Addr) (cl : List (Str × Addr)) (fp : List Addr), PGd (X.blk s H scope (compEnvC scope cl A X.env) fp) fx.nox tg g u st is)
    (ht : ∀ (s : Shared) (H : Hp) (A : Addr) (cl : List (Str × Addr)) (fp : List Addr), Cok (X.blk s H scope (compEnvC scope cl A X.env) fp) fx.nox kk → ∀ c, PTs (X.blk s H scope (compEnvC scope cl A X.env) fp) ifs (tT X.K X.mg fx.nox (st (wipeG G (own.map (·.2))) c) (xt c)))
    (he : ∀ (s : Shared) (H : Hp) (A : Addr) (cl : List (Str × Addr)) (fp : List Addr), Cok (X.blk s H scope (compEnvC scope cl A X.env) fp) fx.nox kk → ∀ c, PE (X.blk s H scope (compEnvC scope cl A X.env) fp) elt (tE X.K X.mg fx.nox (st (wipeG G (own.map (·.2))) c) (xe c)))
    (hsub : ∀ i ∈ is, i ∈ own.map (·.2)) {spos : Pos} (hn : X.N[i]? = some n := by rfl) (hyl : X.env.scope.names.lookup n = some .local := by rfl)
    (hsw : swapsWith (.ListComp elt [⟨tg, iter, ifs, 0⟩] scope pos) (some (.Name n pos')) spos.line X.env = pure true := by exact sw_true rfl rfl rfl (by decide +kernel)) (hs : ∀ x, foldedSetIterable iter X.env x = pure x := by intro _; rfl) :
    PS X (.Assign [.Name n pos'] (.ListComp elt [⟨tg, iter, ifs, 0⟩] scope pos) spos) (fun D σ H => tF X.K X.mg fx G (do let ds ← xi; lcF u xt xe ds) σ H fun x H1 => D.nx (σ.set i (some x)) H1) :=
  psI (ps_setLc (own := own) C.calm C.nd hn hyl hsw hi ok (fun s H A cl fp => (hg s H A cl fp).1) (fun s H A cl fp => pts_ex (ht s H A cl fp (C.blk ..))) (fun s H A cl fp => pe_ex (he s H A cl fp (C.blk ..))) hs) fun D σ H h =>
    lc_read (tg := tg) (fun {G Hf d v σ H s c Q} => (hg {} (fun _ => none) 0 [] []).2) hsub h
/-- a statement that stores a new list: as a datum -/
theorem dss_setF {stm : Stmt} {rest : List Stmt} {ex : α → List Sl} {exb : β → List Sl} {x : m (List D)} {k : D → m (Fl α β)} {i : Nat} (h : PS X stm (fun D σ H => tF X.K X.mg fx G x σ H fun v H1 => D.nx (σ.set i (some v)) H1)) (hr : ∀ d, PSs X rest (tS X.K X.mg fx (G.set i (.im d)) ex exb (k d))) (hg : GxOk fx G := by first | trivial | repeat' (first | exact True.intro | exact Or.inl rfl | exact Or.inr rfl | refine And.intro ?_ ?_)) :
    PSs X (stm :: rest) (tS X.K X.mg fx G ex exb (do let d ← mkL x; k d)) := pssI (pss_cons h (pss_ex hr)) fun D σ H ⟨Hf, s, h⟩ =>
  ⟨Hf, s, h.1, Mo.wp_mono (Mo.wp_bind (Mo.wp_bind h.2)) (fun ds s1 w p vs Hf1 H1 e bg hp hf1 hn l hz => by
    have st1 := h.1.step e bg
    have n0 := h.1.new0 hn
    have w' := Mo.wp_pure w
    have st2 := st1.setOw (i := i) (h.1.owNe hn) hp hf1 n0.1 n0.2.1 l hz
    have sb : Sub Hf1 (L2.upd Hf1 p (.lst vs)) := fun a o q => by
      have ne : a ≠ p := fun z => by rw [z, hf1] at q; cases q
      rw [upd_ne ne]; exact q
    have e2 : Ste fx.bag Hf H (L2.upd Hf1 p (.lst vs)) H1 := by
      refine ⟨e.sub.trans sb, fun a o q => ?_, e.keep, e.dom, fun a o q => ?_⟩
      · by_cases c : a = p
        · subst c; rw [upd_same] at q; cases q; exact hp
        · rw [upd_ne c] at q; exact e.top a o q
      · by_cases c : a = p
        · subst c; exact .inr hn
        · rw [upd_ne c] at q; exact e.fresh a o q
    exact ⟨.lst ds, _, s1, (h.1.step e2 bg).set ⟨hz, p, vs, rfl, upd_same, l.mono sb⟩, Mo.wp_mono w' (fun f s2 h2 => h2.up e2.sub) fun e s' k => k⟩) fun e s' k => exs_ex hg k⟩
/-- the own list of slot i is a datum from here on -/
theorem dss_frz {rest : List Stmt} {ex : α → List Sl} {exb : β → List Sl} {ds : List D} {x : m (Fl α β)} (i : Nat) (hG : G[i]? = some (.ow ds)) (hr : PSs X rest (tS X.K X.mg fx (G.set i (.im (.lst ds))) ex exb x)) : PSs X rest (tS X.K X.mg fx G ex exb x) := pssI hr fun D σ H ⟨Hf, s, h⟩ => by
  obtain ⟨Hf', sb, st⟩ := h.1.freeze hG
  exact ⟨Hf', s, st, Mo.wp_mono h.2 (fun f s2 h2 => h2.up sb) fun e s' k => k⟩
def apd (ds : List D) (d : D) : Option (List D) := if ds.length < sizeLine then some (ds ++ [d]) else none
/-- x.append(e), x the frame's own -/
theorem dss_append {e : Expr} {rest : List Stmt} {ex : α → List Sl} {exb : β → List Sl} {x : m D} {ds : List D} {k : List D → m (Fl α β)} {n : Str} {np apos cpos : Pos} (i : Nat) (he : PE X e (tE X.K X.mg fx G x)) (hr : ∀ ds, PSs X rest (tS X.K X.mg fx (G.set i (.ow ds)) ex exb (k ds)))
    (hG : G[i]? = some (.ow ds) := by rfl) (hN : X.N[i]? = some n := by rfl) (hv : Vis X.env.scope n := by first | exact Or.inl rfl | exact Or.inr (Or.inl rfl) | exact Or.inr (Or.inr rfl)) (hd : (n == ("__debug__" : Str)) = false := by decide) (hcd : (n == ("__classdict__" : Str)) = false := by decide)
    (hst : starEach [e] X.env = [(false, eval e X.env)] := by rfl) (hbase : attributeBase (.Name n np) "append" X.env (eval (.Name n np) X.env) = eval (.Name n np) X.env := by rfl)
    (hfew : ((backTo cpos (starEach [e] X.env)).all (fun x => !x.1) && (backToKw cpos (keywordEach [] X.env)).all (fun x => x.1.isSome) && decide ([e].length + ([] : List Keyword).length + (if ([] : List Keyword).isEmpty then 0 else 1) < 30)) = true := by rfl)
    (hline : (apos.endLine == cpos.line) = true := by rfl) (hplain : (backTo cpos (starEach [] X.env)).any (·.1) = false := by rfl)
    (hs : swapsWith (.Call (.Attribute (.Name n np) "append" apos) [e] [] cpos) none pos.line X.env = pure false := by rfl) (hg : GxOk fx G := by first | trivial | repeat' (first | exact True.intro | exact Or.inl rfl | exact Or.inr rfl | refine And.intro ?_ ?_)) :
    PSs X (.Expr (.Call (.Attribute (.Name n np) "append" apos) [e] [] cpos) pos :: rest) (tS X.K X.mg fx G ex exb (do let d ← x; let ds ← ask (apd ds d); k ds)) :=
  pssI (pss_cons (ps_expr (pe_bm PySem.F.plainAttrs_list PySem.F.slot_list_append PySem.F.type_list_append mt_append (pe_var hN hv hd hcd) (pa_cons he pa_nil hst) hbase hfew hline hst hplain) hs) (pss_ex hr)) fun D σ H ⟨Hf, s, h⟩ => by
    obtain ⟨p, vs, ep, hp, hf, h0, nb, l, hz⟩ := h.1.sl i _ hG
    refine ⟨.ref p, ep, .inl ⟨rfl, _, .inl (.inl hp)⟩, ?_⟩
    refine ((h.bind hg).mono fun v H1 ⟨d, Hf1, s1, sb, r, h1⟩ => ?_).to
    obtain ⟨p1, vs1, ep1, hp1, hf1, _, _, l1, hz1⟩ := h1.1.sl i _ hG
    have eq : p1 = p := by rw [ep] at ep1; cases ep1; rfl
    subst eq
    have k' := Mo.wp_lift (Mo.wp_bind h1.2)
    by_cases c : ds.length < sizeLine
    · have e1 : apd ds d = some (ds ++ [d]) := if_pos c
      rw [e1] at k'
      refine ⟨p1, vs1, v, rfl, rfl, hp1, by rw [← l1.len]; exact c, ds ++ [d], Hf1, s1, h1.1.updOw hG ep (l1.app (.cons r .nil)) (by rw [List.length_append, List.length_singleton]; exact c), k'⟩
    · have e1 : apd ds d = none := if_neg c
      rw [e1] at k'
      exact k'.elim
end
end DL
namespace DL
open PySem L2
/-! ### items and slices -/
theorem IsL.atI {K : PySem.W.Frag} {mg : Str → Option Value} {H : Hp} {ds : List D} {vs : List V} {i : Int} {d : D} (l : IsL K mg H ds vs) (e : L2.atI ds i = some d) : ∃ v, L2.atI vs i = some v ∧ Is K mg H d v := by
  unfold L2.atI at e ⊢
  rw [← l.len]
  cases q : ixN ds.length i with
  | none => rw [q] at e; cases e
  | some j =>
    rw [q] at e
    exact l.get e
def ixD : D → D → Option D
  | .lst ds, .int i => L2.atI ds i
  | .tup ds, .int i => L2.atI ds i
  | .str s, .int i => (L2.atI s i).map fun c => .str [c]
  | .scr is, .int i => (L2.atI is i).map .int
  | _, _ => none
def cutL {α : Type} (xs : List α) (lo hi : Option Int) : List α := (xs.drop (HT.sIx xs.length 0 lo)).take (HT.sIx xs.length xs.length hi - HT.sIx xs.length 0 lo)
theorem cutL_len {α : Type} (xs : List α) (lo hi : Option Int) : (cutL xs lo hi).length ≤ xs.length := by
  unfold cutL
  rw [List.length_take, List.length_drop]
  omega
def sliceD : D → Option Int → Option Int → Option D
  | .lst ds, lo, hi => some (.lst (cutL ds lo hi))
  | .tup ds, lo, hi => some (.tup (cutL ds lo hi))
  | .str s, lo, hi => some (.str (cutL s lo hi))
  | .scr is, lo, hi => some (.lst ((cutL is lo hi).map .int))
  | _, _, _ => none
section
variable {X : Cx}
theorem oix : IxR X (rD2 X.K X.mg ixD) := by
  intro value slice pins s σ H x y v u Q I rx ry h hs
  obtain ⟨Hf, dx, dy, d, sb, ix, iy, e, q⟩ := h
  unfold ixD at e
  split at e
  · obtain ⟨z1, p1, v1, rfl, h1, l1⟩ := ix
    cases iy
    obtain ⟨w, hw, iw⟩ := l1.atI e
    exact ix_list value slice pins s σ H _ _ v u Q I rx ry ⟨_, _, _, _, rfl, rfl, .inl (.inl (sb _ _ h1)), hw, q _ Hf H (.refl sb) iw⟩ hs
  · obtain ⟨z1, p1, v1, rfl, h1, l1⟩ := ix
    cases iy
    obtain ⟨w, hw, iw⟩ := l1.atI e
    exact ix_tup value slice pins s σ H _ _ v u Q I rx ry ⟨_, _, _, _, rfl, rfl, sb.sqt h1, hw, q _ Hf H (.refl sb) iw⟩ hs
  · rename_i z i
    obtain ⟨rfl, hz⟩ := ix
    cases iy
    cases e1 : L2.atI z i with
    | none => rw [e1] at e; cases e
    | some c =>
      rw [e1] at e
      cases e
      exact ix_str value slice pins s σ H _ _ v u Q I rx ry ⟨_, _, c, rfl, rfl, by rw [str_len]; exact hz, by rw [str_tl]; exact e1, q _ Hf H (.refl sb) ⟨rfl, by show 1 ≤ sizeLine; decide⟩⟩ hs
  · rename_i z i
    obtain ⟨z1, p1, rfl, h1⟩ := ix
    cases iy
    cases e1 : L2.atI z i with
    | none => rw [e1] at e; cases e
    | some c =>
      rw [e1] at e
      cases e
      refine ix_list value slice pins s σ H _ _ v u Q I rx ry ⟨_, _, _, _, rfl, rfl, sb.sql h1, ?_, q _ Hf H (.refl sb) (is_int _)⟩ hs
      unfold L2.atI at e1 ⊢
      rw [List.length_map]
      cases q2 : ixN z.length i with
      | none => rw [q2] at e1; cases e1
      | some j =>
        rw [q2] at e1
        have e1' : z[j]? = some c := e1
        show (z.map V.int)[j]? = _
        rw [List.getElem?_map, e1']
        rfl
  · cases e
theorem isL_ints {K : PySem.W.Frag} {mg : Str → Option Value} {H : Hp} : ∀ z : List Int, IsL K mg H (z.map .int) (z.map V.int)
  | [] => rfl
  | c :: z => ⟨_, _, rfl, is_int _, isL_ints z⟩
theorem osl : SlR X (fun x lo hi H Q => ∃ Hf dx d, Sub Hf H ∧ Is X.K X.mg Hf dx x ∧ sliceD dx lo hi = some d ∧ ∀ u Hf' H', Ste [] Hf H Hf' H' → Is X.K X.mg Hf' d u → Q u H') := by
  intro pins s σ H x v vl vu lo hi sl Q I rx hs pl pu h
  obtain ⟨Hf, dx, d, sb, ix, e, q⟩ := h
  unfold sliceD at e
  split at e
  · cases e
    obtain ⟨z1, p1, v1, rfl, h1, l1⟩ := ix
    refine sl_list pins s σ H _ v vl vu lo hi sl Q I rx hs pl pu ⟨_, _, rfl, .inl (.inl (sb _ _ h1)), fun p hp => q _ _ _ (.new sb hp) ?_⟩
    refine ⟨Nat.le_trans (cutL_len _ _ _) z1, p, _, rfl, upd_same, ?_⟩
    have l2 := l1.mono (Ste.new (bag := []) (o := .lst (cutV v1 lo hi)) sb hp).sub
    unfold cutL cutV
    rw [l1.len]
    exact (l2.drop _).take _
  · cases e
    obtain ⟨z1, p1, v1, rfl, h1, l1⟩ := ix
    refine sl_tupA pins s σ H _ v vl vu lo hi sl Q I rx hs pl pu ⟨_, _, rfl, sb.sqt h1, fun z => ?_, fun z p hp => q _ _ _ (.new sb hp) ?_⟩
    · refine q _ _ _ (.refl sb) ⟨Nat.le_trans (cutL_len _ _ _) z1, p1, v1, rfl, h1, ?_⟩
      unfold cutL
      rw [l1.len, z.1, z.2, List.drop_zero, Nat.sub_zero, ← l1.len, List.take_length]
      exact l1
    · refine ⟨Nat.le_trans (cutL_len _ _ _) z1, p, _, rfl, .inl (.inl upd_same), ?_⟩
      have l2 := l1.mono (Ste.new (bag := []) (o := .tup (cutV v1 lo hi)) sb hp).sub
      unfold cutL cutV
      rw [l1.len]
      exact (l2.drop _).take _
  · cases e
    obtain ⟨rfl, hz⟩ := ix
    refine sl_str pins s σ H _ v vl vu lo hi sl Q I rx hs pl pu ⟨_, rfl, by rw [str_len]; exact hz, q _ Hf H (.refl sb) ?_⟩
    refine ⟨?_, Nat.le_trans (cutL_len _ _ _) hz⟩
    unfold cutS cutL
    rw [str_tl, str_len]
  · cases e
    obtain ⟨z1, p1, rfl, h1⟩ := ix
    refine sl_list pins s σ H _ v vl vu lo hi sl Q I rx hs pl pu ⟨_, _, rfl, sb.sql h1, fun p hp => q _ _ _ (.new sb hp) ?_⟩
    refine ⟨by rw [List.length_map]; exact Nat.le_trans (cutL_len _ _ _) z1, p, _, rfl, upd_same, ?_⟩
    have e2 : ∀ (z : List Int) (lo hi : Option Int), cutV (z.map V.int) lo hi = (cutL z lo hi).map V.int := fun z lo hi => by
      unfold cutL cutV
      rw [List.length_map, List.map_take, List.map_drop]
    rw [e2]
    exact isL_ints _
  · cases e
end
section
variable {X : Cx} {fx : Fx} {m : Type → Type} [Mo m] {G : List Sl} {a b e : Expr} {lo hi : Option Expr} {pos p2 : Pos} {x y : m D} {tl th : m (Option Int)}
theorem de_ix (ha : PE X a (tE X.K X.mg fx G x)) (hb : PE X b (tE X.K X.mg fx G y)) (hs : PlainIx b := by exact fun _ _ => rfl) : PE X (.Subscript a b pos) (tE X.K X.mg fx G (do let u ← x; let v ← y; ask (ixD u v))) := peI (pe_ix oix ha hb hs) fun σ H Q ⟨Hf, s, h⟩ =>
  (h.bind.mono fun v1 H1 ⟨d1, Hf1, s1, sb1, r1, h1⟩ => (h1.bind.mono fun v2 H2 ⟨d2, Hf2, s2, sb2, r2, h2⟩ => by
    obtain ⟨d, e, q⟩ := h2.ask
    exact ⟨Hf2, d1, d2, d, h2.1.top, r1.mono sb2, r2, e, q⟩).to).to
theorem poI {o : Option Expr} {t t' : TO} (h : PO X o t) (w : ∀ σ H Q, t' σ H Q → t σ H Q) : PO X o t' := ⟨fun pins s σ H Q I q => h.run pins s σ H Q I (w _ _ _ q)⟩
abbrev tOp' (K : PySem.W.Frag) (mg : Str → Option Value) (fx : Fx) (G : List Sl) (x : m (Option Int)) : TO := tG K mg fx G (fun _ a b => b = a) x
theorem do_none : PO X none (tOp' X.K X.mg fx G (pure none : m (Option Int))) := poI po_none fun σ H Q ⟨Hf, s, h⟩ => h.pure rfl
theorem do_some (he : PE X e (tE X.K X.mg fx G x)) : PO X (some e) (tOp' X.K X.mg fx G (do let d ← x; let i ← ask (intOf d); pure (some i))) := poI (po_some he) fun σ H Q ⟨Hf, s, h⟩ =>
  (h.bind.mono fun v1 H1 ⟨d1, Hf1, s1, sb1, r1, h1⟩ => by
    have k := Mo.wp_lift (Mo.wp_bind h1.2)
    cases d1 with
    | int i => exact ⟨i, r1, (Mo.wp_pure k) _ Hf1 H1 (.refl h1.1.top) h1.1.bag rfl⟩
    | _ => exact k.elim).to
theorem de_sl (he : PE X e (tE X.K X.mg fx G x)) (hl : PO X lo (tOp' X.K X.mg fx G tl)) (hu : PO X hi (tOp' X.K X.mg fx G th)) : PE X (.Subscript e (.Slice lo hi none p2) pos) (tE X.K X.mg fx G (do let d ← x; let l ← tl; let u ← th; ask (sliceD d l u))) :=
  peI (pe_slice osl he hl hu) fun σ H Q ⟨Hf, s, h⟩ =>
  (h.bind.mono fun v1 H1 ⟨d1, Hf1, s1, sb1, r1, h1⟩ => (h1.bind.mono fun v2 H2 ⟨d2, Hf2, s2, sb2, r2, h2⟩ => (h2.bind.mono fun v3 H3 ⟨d3, Hf3, s3, sb3, r3, h3⟩ => by
    subst r2 r3
    obtain ⟨d, e, q⟩ := h3.ask
    exact ⟨Hf3, d1, d, h3.1.top, (r1.mono sb2).mono sb3, e, q⟩).to).to).to
end
/-! ### built-in functions -/
def lenD : List D → Option D
  | [.lst ds] => some (.int ds.length)
  | [.tup ds] => some (.int ds.length)
  | [.str s] => some (.int s.length)
  | [.scr s] => some (.int s.length)
  | _ => none
def listD : List D → Option (List D)
  | [.lst ds] => some ds
  | [.tup ds] => some ds
  | [.str s] => some (chrs s)
  | _ => none
def tupleD : List D → Option D
  | [.lst ds] => some (.tup ds)
  | [.tup ds] => some (.tup ds)
  | _ => none
def intD : List D → Option D
  | [.int i] => some (.int i)
  | [.bl b] => some (.int (if b then 1 else 0))
  | _ => none
def absD : List D → Option D
  | [.int i] => some (.int (if i < 0 then -i else i))
  | _ => none
def maxD : List D → Option D
  | [.int i, .int j] => some (.int (if j > i then j else i))
  | _ => none
def minD : List D → Option D
  | [.int i, .int j] => some (.int (if j < i then j else i))
  | _ => none
section
variable {X : Cx}
theorem oc_len : CallR X (.builtin "len") (rDs X.K X.mg lenD) := by
  intro pins s σ H xs us Q I r h
  obtain ⟨Hf, ds, d, sb, l, e, q⟩ := h
  unfold lenD at e
  split at e
  · cases e
    obtain ⟨v, r1, rfl, ⟨z1, p1, v1, rfl, h1, l1⟩, rfl⟩ := l
    exact call_len_seq pins s σ H _ us Q I r ⟨_, _, rfl, .inl (.inl (.inl (sb _ _ h1))), by rw [← l1.len]; exact q _ Hf H (.refl sb) (is_int _)⟩
  · cases e
    obtain ⟨v, r1, rfl, ⟨z1, p1, v1, rfl, h1, l1⟩, rfl⟩ := l
    exact call_len_seq pins s σ H _ us Q I r ⟨_, _, rfl, .inr (sb.sqt h1), by rw [← l1.len]; exact q _ Hf H (.refl sb) (is_int _)⟩
  · cases e
    obtain ⟨v, r1, rfl, ⟨rfl, hz⟩, rfl⟩ := l
    exact call_len_str pins s σ H _ us Q I r ⟨_, rfl, by rw [str_len]; exact hz, by rw [str_len]; exact q _ Hf H (.refl sb) (is_int _)⟩
  · cases e
    obtain ⟨v, r1, rfl, ⟨z1, p1, rfl, h1⟩, rfl⟩ := l
    exact call_len_seq pins s σ H _ us Q I r ⟨_, _, rfl, .inl (sb.sql h1), by rw [List.length_map]; exact q _ Hf H (.refl sb) (is_int _)⟩
  · cases e
theorem oc_tuple : CallR X (.type "tuple") (rDs X.K X.mg tupleD) := by
  intro pins s σ H xs us Q I r h
  obtain ⟨Hf, ds, d, sb, l, e, q⟩ := h
  unfold tupleD at e
  split at e
  · cases e
    obtain ⟨v, r1, rfl, ⟨z1, p1, v1, rfl, h1, l1⟩, rfl⟩ := l
    refine call_tuple_of pins s σ H _ us Q I r ⟨_, _, rfl, .inl ⟨.inl (.inl (sb _ _ h1)), fun p hp => q _ _ _ (.new sb hp) ?_⟩⟩
    exact ⟨z1, p, _, rfl, .inl (.inl upd_same), l1.mono (Ste.new (bag := []) sb hp).sub⟩
  · cases e
    obtain ⟨v, r1, rfl, ⟨z1, p1, v1, rfl, h1, l1⟩, rfl⟩ := l
    exact call_tuple_of pins s σ H _ us Q I r ⟨_, _, rfl, .inr ⟨sb.sqt h1, q _ _ _ (.refl sb) ⟨z1, p1, v1, rfl, h1, l1⟩⟩⟩
  · cases e
theorem oc_int : CallR X (.type "int") (rDs X.K X.mg intD) := by
  intro pins s σ H xs us Q I r h
  obtain ⟨Hf, ds, d, sb, l, e, q⟩ := h
  unfold intD at e
  split at e
  · cases e
    obtain ⟨v, r1, rfl, rfl, rfl⟩ := l
    exact call_int1 pins s σ H _ us Q I r (.inl ⟨_, rfl, q _ Hf H (.refl sb) (is_int _)⟩)
  · cases e
    obtain ⟨v, r1, rfl, rfl, rfl⟩ := l
    exact call_int1 pins s σ H _ us Q I r (.inr ⟨_, rfl, q _ Hf H (.refl sb) (is_int _)⟩)
  · cases e
theorem oc_abs : CallR X (.builtin "abs") (rDs X.K X.mg absD) := by
  intro pins s σ H xs us Q I r h
  obtain ⟨Hf, ds, d, sb, l, e, q⟩ := h
  unfold absD at e
  split at e
  · cases e
    obtain ⟨v, r1, rfl, rfl, rfl⟩ := l
    exact call_abs pins s σ H _ us Q I r ⟨_, rfl, q _ Hf H (.refl sb) (is_int _)⟩
  · cases e
theorem oc_max (hc : X.calm = true) : CallR X (.builtin "max") (rDs X.K X.mg maxD) := by
  intro pins s σ H xs us Q I r h
  obtain ⟨Hf, ds, d, sb, l, e, q⟩ := h
  unfold maxD at e
  split at e
  · cases e
    obtain ⟨v, r1, rfl, rfl, v2, r2, rfl, rfl, rfl⟩ := l
    exact call_max2 hc pins s σ H _ us Q I r ⟨_, _, rfl, q _ Hf H (.refl sb) (is_int _)⟩
  · cases e
theorem oc_min (hc : X.calm = true) : CallR X (.builtin "min") (rDs X.K X.mg minD) := by
  intro pins s σ H xs us Q I r h
  obtain ⟨Hf, ds, d, sb, l, e, q⟩ := h
  unfold minD at e
  split at e
  · cases e
    obtain ⟨v, r1, rfl, rfl, v2, r2, rfl, rfl, rfl⟩ := l
    exact call_min2 hc pins s σ H _ us Q I r ⟨_, _, rfl, q _ Hf H (.refl sb) (is_int _)⟩
  · cases e
theorem call_list_chrs (hc : X.calm = true) : CallR X (.type "list") (fun xs H Q => ∃ z : List Nat, xs = [.str ⟨z.toArray⟩] ∧ z.length ≤ sizeLine ∧ ∀ q, H q = none → Q (.ref q) (upd H q (.lst (z.map fun c => .str ⟨#[c]⟩)))) := by
  intro pins s σ H xs us Q I r h
  obtain ⟨z, rfl, hz, q⟩ := h
  obtain ⟨u, rfl, rx⟩ := vals1 r
  obtain ⟨t, rfl⟩ := rx
  have hz' : (⟨z.toArray⟩ : Str).cps.size ≤ sizeLine := by
    show z.toArray.size ≤ sizeLine
    simpa using hz
  refine PySem.call_list_str (hn := hz') (I.ok.hd hc) _ t fun h' tk acc' c' hk hS hacc => ?_
  refine ⟨.ref s.heap.objs.size, upd H s.heap.objs.size (.lst (z.map fun c => .str ⟨#[c]⟩)), I.laid hk (Nat.le_refl _) (show ObjOk X.prog X.w _ _ _ (.lst (z.map fun c => .str ⟨#[c]⟩)) from ⟨by simpa using hz, acc'.toList, c', ?_, by rw [Array.toArray_toList]; exact hS⟩), rfl, q _ (I.hok.fresh (Nat.le_refl _))⟩
  have el : acc'.toList.length = z.length := by
    have := hacc.1
    simpa using this
  refine vals_of_at (by rw [List.length_map, el]) fun j x w h1 h2 => ?_
  obtain ⟨c, u, hc', ew⟩ := hacc.2 j w (by rw [← Array.getElem?_toList]; exact h2)
  subst ew
  have hc2 : z[j]? = some c := by
    have : z.toArray[j]? = some c := hc'
    rwa [List.getElem?_toArray] at this
  rw [List.getElem?_map, hc2] at h1
  cases h1
  exact ⟨u, rfl⟩
/-- list(..): a new list -/
def rDl (K : PySem.W.Frag) (mg : Str → Option Value) (g : List D → Option (List D)) : List V → Hp → VK → Prop := fun xs H Q => ∃ Hf ds es, Sub Hf H ∧ IsL K mg Hf ds xs ∧ g ds = some es ∧ es.length ≤ sizeLine ∧ ∀ p Hf' H' vs, Ste [] Hf H Hf' H' → H p = none → Hf' p = none → H' p = some (.lst vs) → IsL K mg Hf' es vs → Q (.ref p) H'
theorem isL_chrs {K : PySem.W.Frag} {mg : Str → Option Value} {H : Hp} : ∀ z : List Nat, IsL K mg H (chrs z) (z.map fun c => .str ⟨#[c]⟩)
  | [] => rfl
  | c :: z => ⟨_, _, rfl, ⟨rfl, by show 1 ≤ sizeLine; decide⟩, isL_chrs z⟩
theorem oc_list (hc : X.calm = true) : CallR X (.type "list") (rDl X.K X.mg listD) := by
  intro pins s σ H xs us Q I r h
  obtain ⟨Hf, ds, d, sb, l, e, hz, q⟩ := h
  unfold listD at e
  split at e
  · cases e
    obtain ⟨v, r1, rfl, ⟨z1, p1, v1, rfl, h1, l1⟩, rfl⟩ := l
    exact call_list_of pins s σ H _ us Q I r ⟨_, _, rfl, .inl (.inl (.inl (sb _ _ h1))), fun p hp => q p Hf _ _ (.new' sb hp) hp (sb.none hp) upd_same l1⟩
  · cases e
    obtain ⟨v, r1, rfl, ⟨z1, p1, v1, rfl, h1, l1⟩, rfl⟩ := l
    exact call_list_of pins s σ H _ us Q I r ⟨_, _, rfl, .inr (sb.sqt h1), fun p hp => q p Hf _ _ (.new' sb hp) hp (sb.none hp) upd_same l1⟩
  · cases e
    obtain ⟨v, r1, rfl, ⟨rfl, hz⟩, rfl⟩ := l
    exact call_list_chrs hc pins s σ H _ us Q I r ⟨_, rfl, hz, fun p hp => q p Hf _ _ (.new' sb hp) hp (sb.none hp) upd_same (isL_chrs _)⟩
  · cases e
end
section
variable {X : Cx} {fx : Fx} {m : Type → Type} [Mo m] {G : List Sl} {e : Expr} {es : List Expr} {pos p : Pos} {ys : m (List D)}
theorem df_callTy {g : List D → Option (List D)} {T : String} {n : Str} (hc : CallR X (.type T) (rDl X.K X.mg g)) (hg : Gl X n) (hm : X.mg n = none) (hv : bootBuiltins n = some (.type T)) (ha : PA X (e :: es) (tA X.K X.mg fx G ys))
    (hn : n ≠ "__name__" := by decide) (hdb : (n == ("__debug__" : Str)) = false := by decide) (he : starEach (e :: es) X.env = (false, eval e X.env) :: starEach es X.env := by rfl) (hpl : (backTo pos (starEach es X.env)).any (·.1) = false := by rfl) :
    PE X (.Call (.Name n p) (e :: es) [] pos) (tF X.K X.mg fx G (do let ds ← ys; let ds ← ask (g ds); ask (szL ds))) := peI (pe_callTy hc hg hm hv ha hn hdb he hpl) fun σ H Q ⟨Hf, s, st, w⟩ =>
  ⟨Hf, s, st, Mo.wp_mono (Mo.wp_bind w) (fun ds s1 k vs Hf1 H1 e bg l => by
    have k' := Mo.wp_lift (Mo.wp_bind k)
    cases e1 : g ds with
    | none => rw [e1] at k'; exact k'.elim
    | some es =>
      rw [e1] at k'
      have k2 := Mo.wp_lift k'
      by_cases hz : es.length ≤ sizeLine
      · have e2 : szL es = some es := if_pos hz
        rw [e2] at k2
        exact ⟨Hf1, ds, es, (st.step e bg).top, l, e1, hz, fun p Hf' H' vs e3 hp hf' hp' l' => by
          have hn : H p = none := by
            cases q : H p with
            | none => rfl
            | some o => exact absurd hp (e.dom p (by rw [q]; simp))
          exact k2 p vs Hf' H' (e.trans e3.wide) (e3.bag bg) hp' hf' hn l' hz⟩
      · have e2 : szL es = none := if_neg hz
        rw [e2] at k2
        exact k2.elim) fun e s' k => k⟩
end
/-! ### join -/
def joinN (S : List Nat) : List (List Nat) → List Nat
  | [] => []
  | [p] => p
  | p :: q :: r => p ++ (S ++ joinN S (q :: r))
def strsOf : List D → Option (List (List Nat))
  | [] => some []
  | .str s :: r => (strsOf r).map (s :: ·)
  | _ :: _ => none
def joinD (a b : D) : Option D := match a, sqOf b with
  | .str S, some ds => match strsOf ds with
    | some ps => if (ps.map (·.length)).sum + ps.length * S.length ≤ 16777216 then some (.str (joinN S ps)) else none
    | none => none
  | _, _ => none
theorem joinN_eq (S : List Nat) : ∀ ps, joinN S ps = TL.joinL S ps
  | [] => rfl
  | [_] => rfl
  | p :: q :: r => by rw [joinN, TL.joinL, joinN_eq S (q :: r)]
theorem joinN_len (S : List Nat) : ∀ ps : List (List Nat), (joinN S ps).length ≤ (ps.map (·.length)).sum + ps.length * S.length
  | [] => by simp [joinN]
  | [p] => by simp [joinN]
  | p :: q :: r => by
    have := joinN_len S (q :: r)
    rw [joinN, List.length_append, List.length_append, List.map_cons, List.sum_cons, List.length_cons, Nat.add_mul]
    omega
theorem isL_strs {K : PySem.W.Frag} {mg : Str → Option Value} {H : Hp} : ∀ {ds : List D} {vs : List V} {ps : List (List Nat)}, IsL K mg H ds vs → strsOf ds = some ps → vs = ps.map fun p => .str ⟨p.toArray⟩
  | [], _, _, h, e => by cases h; cases e; rfl
  | .str s :: ds, _, _, h, e => by
    obtain ⟨v, r, rfl, ⟨rfl, _⟩, l⟩ := h
    unfold strsOf at e
    cases q : strsOf ds with
    | none => rw [q] at e; cases e
    | some ps => rw [q] at e; cases e; rw [isL_strs l q]; rfl
  | .non :: _, _, _, _, e => by cases e
  | .bl _ :: _, _, _, _, e => by cases e
  | .int _ :: _, _, _, _, e => by cases e
  | .tup _ :: _, _, _, _, e => by cases e
  | .lst _ :: _, _, _, _, e => by cases e
  | .dic _ _ :: _, _, _, _, e => by cases e
  | .ins _ _ _ :: _, _, _, _, e => by cases e
  | .scr _ :: _, _, _, _, e => by cases e
  | .xc _ _ _ _ :: _, _, _, _, e => by cases e
section
variable {X : Cx} {fx : Fx} {m : Type → Type} [Mo m] {G : List Sl} {o e : Expr} {apos pos : Pos} {x y : m D}
theorem de_join (ho : PE X o (tE X.K X.mg fx G x)) (he : PE X e (tE X.K X.mg fx G y)) (hs : starEach [e] X.env = [(false, eval e X.env)] := by rfl) (hbase : attributeBase o "join" X.env (eval o X.env) = eval o X.env := by rfl) (hline : (apos.endLine == pos.line) = true := by rfl) :
    PE X (.Call (.Attribute o "join" apos) [e] [] pos) (tE X.K X.mg fx G (do let u ← x; let _ ← ask (strOf u); let v ← y; ask (joinD u v))) := peI (pe_join ho he hs hbase hline) fun σ H Q ⟨Hf, s, h⟩ =>
  (h.bind.mono fun v1 H1 ⟨d1, Hf1, s1, sb1, r1, h1⟩ => by
    have k := Mo.wp_lift (Mo.wp_bind h1.2)
    cases d1 with
    | str S =>
      obtain ⟨rfl, hz1⟩ := r1
      refine ⟨⟨_, rfl⟩, ?_⟩
      have h2 : tX X.K X.mg fx G (fun H d v => Is X.K X.mg H d v) (do let v ← y; ask (joinD (.str S) v) : m D) Hf1 s1 σ H1 Q := ⟨h1.1, k⟩
      refine (h2.bind.mono fun v2 H2 ⟨d2, Hf2, s2, sb2, r2, h3⟩ => ?_).to
      obtain ⟨d, e, q⟩ := h3.ask
      unfold joinD at e
      cases e2 : sqOf d2 with
      | none => rw [e2] at e; cases e
      | some ds =>
        rw [e2] at e
        cases e3 : strsOf ds with
        | none => simp only [e3] at e; cases e
        | some ps =>
          simp only [e3] at e
          split at e
          · rename_i hz
            cases e
            have fin : Q (.str (Txt.join ⟨S.toArray⟩ (ps.map fun p => (⟨p.toArray⟩ : Str)))) H2 := by
              refine q _ Hf2 H2 (.refl h3.1.top) ⟨?_, Nat.le_trans (joinN_len S ps) (by rw [sizeLine_eq]; exact hz)⟩
              rw [TL.join_eq]
              congr 1
              have e4 := TL.tl_join ⟨S.toArray⟩ (ps.map fun p => (⟨p.toArray⟩ : Str))
              refine TL.ext_tl ?_
              refine (e4.trans ?_).trans (str_tl (joinN S ps)).symm
              rw [joinN_eq, List.map_map]
              have e5 : (ps.map (TL.tl ∘ fun p => (⟨p.toArray⟩ : Str))) = ps := by
                conv => rhs; rw [← List.map_id ps]
                exact List.map_congr_left fun p _ => str_tl p
              rw [e5]
            have hz' : ((ps.map fun p => (⟨p.toArray⟩ : Str)).map (·.length)).sum + (ps.map fun p => (⟨p.toArray⟩ : Str)).length * (⟨S.toArray⟩ : Str).length ≤ 16777216 := by
              rw [List.map_map, List.length_map, str_len]
              have e5 : (ps.map ((fun x : Str => x.length) ∘ fun p => (⟨p.toArray⟩ : Str))) = ps.map (·.length) := List.map_congr_left fun p _ => str_len p
              rw [e5]
              exact hz
            have em : (ps.map fun p => V.str ⟨p.toArray⟩) = (ps.map fun p => (⟨p.toArray⟩ : Str)).map V.str := by rw [List.map_map]; rfl
            cases d2 with
            | lst es =>
              cases e2
              obtain ⟨z1, p1, w1, rfl, t1, l1⟩ := r2
              have ew := isL_strs l1 e3
              subst ew
              exact ⟨_, p1, _, rfl, rfl, .inl (.inl (.inl (by rw [← em]; exact h3.1.top _ _ t1))), hz', fin⟩
            | tup es =>
              cases e2
              obtain ⟨z1, p1, w1, rfl, t1, l1⟩ := r2
              have ew := isL_strs l1 e3
              subst ew
              exact ⟨_, p1, _, rfl, rfl, .inr (by rw [← em]; exact h3.1.top.sqt t1), hz', fin⟩
            | _ => cases e2
          · cases e
    | _ => exact k.elim).to
end
end DL
namespace DL
open PySem L2
/-! ### times -/
theorem foldl_app (x : Array Nat) : ∀ (n : Nat) (acc : Array Nat), (List.replicate n x).foldl (· ++ ·) acc = acc ++ (List.replicate n x.toList).flatten.toArray
  | 0, acc => by simp
  | n + 1, acc => by
    rw [List.replicate_succ, List.foldl_cons, foldl_app x n, List.replicate_succ, List.flatten_cons]
    apply Array.ext'
    simp
theorem mulS_eq (a : List Nat) (k : Int) (h0 : 0 ≤ k) : Txt.mul ⟨a.toArray⟩ k = ⟨(List.replicate k.toNat a).flatten.toArray⟩ := by
  unfold Txt.mul
  by_cases h1 : k < 1
  · have : k = 0 := by omega
    subst this
    rfl
  · rw [if_neg h1]
    by_cases h2 : (k == 1 || (⟨a.toArray⟩ : Str).length == 0) = true
    · rw [if_pos h2]
      rw [str_len] at h2
      by_cases h3 : k = 1
      · subst h3
        simp
      · have : a.length = 0 := by simpa [h3] using h2
        have : a = [] := List.length_eq_zero_iff.mp this
        subst this
        simp
    · rw [if_neg h2, foldl_app]
      simp
theorem rep_len {α : Type} (a : List α) (n : Nat) : (List.replicate n a).flatten.length = a.length * n := by
  simp [Nat.mul_comm]
theorem isL_rep {K : PySem.W.Frag} {mg : Str → Option Value} {H : Hp} {ds : List D} {vs : List V} (l : IsL K mg H ds vs) : ∀ n : Nat, IsL K mg H (List.replicate n ds).flatten (List.replicate n vs).flatten
  | 0 => rfl
  | n + 1 => by
    rw [List.replicate_succ, List.replicate_succ, List.flatten_cons, List.flatten_cons]
    exact l.app (isL_rep l n)
section
variable {X : Cx}
theorem od_mul : OpR X (binaryOp .Mult) (rD2 X.K X.mg mulD) := by
  intro pins s σ H x y v u Q I rx ry h
  obtain ⟨Hf, dx, dy, d, sb, ix, iy, e, q⟩ := h
  unfold mulD at e
  split at e
  · split at e
    · rename_i i j hc
      cases e; cases ix; cases iy
      exact op_mulW pins s σ H _ _ v u Q I rx ry ⟨_, _, rfl, rfl, hc, q _ Hf H (.refl sb) (is_int _)⟩
    · cases e
  · split at e
    · rename_i a k hc
      cases e
      obtain ⟨rfl, hz⟩ := ix
      cases iy
      obtain ⟨t, rfl⟩ := rx
      obtain ⟨t2, rfl⟩ := ry
      have hl : (⟨a.toArray⟩ : Str).length = a.length := str_len a
      refine SB.mul ⟨?_, fun h1 _ => ?_, fun h1 _ => ?_⟩ fun t' k' => ?_
      · rw [Bool.or_eq_false_iff]
        exact ⟨decide_eq_false (by omega), decide_eq_false (by omega)⟩
      · rw [hl]
        have h2 : ((a.length * k.toNat : Nat) : Int) ≤ 1000000 := by omega
        rw [Int.natCast_mul, Int.toNat_of_nonneg hc.1] at h2
        have := Int.le_ediv_of_mul_le (a := (a.length : Int)) (b := 2 ^ 63 - 1) (c := k) (by omega) (by omega)
        omega
      · unfold Builtin.Str.tooLong
        rw [hl, sizeLine_eq]
        exact decide_eq_false (by omega)
      · rw [mulS_eq a k hc.1]
        refine ⟨.str _, H, I.tok k', ⟨t', rfl⟩, q _ Hf H (.refl sb) ⟨rfl, ?_⟩⟩
        rw [rep_len, sizeLine_eq]
        omega
    · cases e
  · split at e
    · rename_i a k hc
      cases e
      obtain ⟨z1, p1, v1, rfl, h1, l1⟩ := ix
      cases iy
      refine op_rep pins s σ H _ _ v u Q I rx ry ⟨_, _, _, rfl, rfl, sb _ _ h1, by omega, by omega, ?_, fun p hp => q _ _ _ (.new sb hp) ⟨?_, p, _, rfl, upd_same, ?_⟩⟩
      · rw [← l1.len, sizeLine_eq]; omega
      · rw [rep_len, sizeLine_eq]; omega
      · have l2 := l1.mono (Ste.new (bag := []) (o := .lst (List.replicate k.toNat v1).flatten) sb hp).sub
        exact isL_rep l2 _
    · cases e
  · cases e
end
end DL
namespace DL
open PySem L2
section
variable {X : Cx}
theorem isNone_is {K : PySem.W.Frag} {mg : Str → Option Value} {H : Hp} {d : D} {v : V} {b : Bool} (i : Is K mg H d v) (e : isNone d = some b) : decide (v = .non) = b := by
  cases d with
  | non => cases i; cases e; rfl
  | bl c => cases i; cases e; rfl
  | int c => cases i; cases e; rfl
  | str c => obtain ⟨rfl, _⟩ := i; cases e; rfl
  | tup ds => obtain ⟨_, a, vs, rfl, _⟩ := i; cases e; rfl
  | lst ds => obtain ⟨_, a, vs, rfl, _⟩ := i; cases e; rfl
  | dic _ _ => obtain ⟨a, vs, rfl, _⟩ := i; cases e; rfl
  | ins _ _ _ => obtain ⟨a, c, dd, vs, rfl, _⟩ := i; cases e; rfl
  | scr _ => obtain ⟨_, a, rfl, _⟩ := i; cases e; rfl
  | xc _ _ _ _ => obtain ⟨rfl, _⟩ := i; cases e; rfl
theorem od_is : OpR X (compareOp .Is) (rD2 X.K X.mg isD) := by
  intro pins s σ H x y v u Q I rx ry h
  obtain ⟨Hf, dx, dy, d, sb, ix, iy, e, q⟩ := h
  unfold isD at e
  split at e
  · cases iy
    cases e1 : isNone dx with
    | none => rw [e1] at e; cases e
    | some b =>
      rw [e1] at e; cases e
      have e2 := isNone_is ix e1
      exact op_isN pins s σ H _ _ v u Q I rx ry ⟨rfl, by rw [e2]; exact q _ Hf H (.refl sb) (is_bl _)⟩
  · cases e; cases ix; cases iy
    exact op_isBl pins s σ H _ _ v u Q I rx ry ⟨_, _, rfl, rfl, q _ Hf H (.refl sb) (is_bl _)⟩
  · cases e
theorem in_core (hu : X.A.units + 65 < cLine) {pins : List (Addr × Obj)} {s : Shared} {σ : L2.St} {H : Hp} {x y : V} {v u : Value} (I : Inv X pins σ H s) (rx : RelV x v) (ry : RelV y u) {Hf : Hp} {dx dy : D} {b : Bool} (sb : Sub Hf H) (ix : Is X.K X.mg Hf dx x) (iy : Is X.K X.mg Hf dy y) (e : inP dx dy = some b) :
    (∀ Q : VK, Q (.bl b) H → wpAny (model X.prog X.w) X.A (compareOp .In v u) (EP X pins σ Q) X.xe s) ∧ (∀ Q : VK, Q (.bl (!b)) H → wpAny (model X.prog X.w) X.A (compareOp .NotIn v u) (EP X pins σ Q) X.xe s) := by
  unfold inP at e
  split at e
  · obtain ⟨rfl, _⟩ := ix
    obtain ⟨rfl, _⟩ := iy
    cases e
    refine ⟨fun Q q => op_in_sign pins s σ H _ _ v u Q I rx ry ⟨_, _, rfl, rfl, by rw [str_tl]; exact q⟩, fun Q q => op_notIn_sign pins s σ H _ _ v u Q I rx ry ⟨_, _, rfl, rfl, by rw [str_tl]; exact q⟩⟩
  · rename_i ds
    split at e
    · rename_i p ys e1 e2
      split at e
      · rename_i hc
        cases e
        rw [Bool.and_eq_true] at hc
        refine ⟨fun Q q => op_inD hu pins s σ H _ _ v u Q I rx ry ⟨p, ys, (ix.mono sb).dp e1, (iy.mono sb).dp e2, hc.1, hc.2, q⟩, fun Q q => op_notInD hu pins s σ H _ _ v u Q I rx ry ⟨p, ys, (ix.mono sb).dp e1, (iy.mono sb).dp e2, hc.1, hc.2, q⟩⟩
      · cases e
    · cases e
  · rename_i ds
    split at e
    · rename_i p ys e1 e2
      split at e
      · rename_i hc
        cases e
        rw [Bool.and_eq_true] at hc
        obtain ⟨as, r1⟩ := Dp.reads I p x v ((ix.mono sb).dp e1) rx
        obtain ⟨bs, r2⟩ := Dp.reads I _ y u ((iy.mono sb).dp e2) ry
        have cl : PyData.canLayAll0 ys = true := by
          have := SeqAt.canLay_of_shaped hc.2
          simpa [PyData.canLay0] using this
        exact ⟨fun Q q => SeqAt.in_tuple_reads r2 r1 cl (SeqAt.canLay_of_shaped hc.1) (PyProof.Rows.room_in_shaped hc.1 hu) ⟨.bl _, H, I, rfl, q⟩,
          fun Q q => SeqAt.notIn_tuple_reads r2 r1 cl (SeqAt.canLay_of_shaped hc.1) (PyProof.Rows.room_in_shaped hc.1 hu) ⟨.bl _, H, I, rfl, q⟩⟩
      · cases e
    · cases e
  · cases e
theorem od_notIn (hu : X.A.units + 65 < cLine) : OpR X (compareOp .NotIn) (rD2 X.K X.mg notInD) := by
  intro pins s σ H x y v u Q I rx ry h
  obtain ⟨Hf, dx, dy, d, sb, ix, iy, e, q⟩ := h
  unfold notInD at e
  cases e1 : inP dx dy with
  | none => rw [e1] at e; cases e
  | some b => rw [e1] at e; cases e; exact (in_core hu I rx ry sb ix iy e1).2 Q (q _ Hf H (.refl sb) (is_bl _))
end
/-! ### isinstance -/
def tyD : D → Option String
  | .non => some "NoneType"
  | .bl _ => some "bool"
  | .int _ => some "int"
  | .str _ => some "str"
  | .tup _ => some "tuple"
  | .lst _ => some "list"
  | .scr _ => some "list"
  | .xc _ _ _ _ => none
  | .dic _ _ => some "dict"
  | .ins _ _ _ => none
def isiD (T : String) (d : D) : Option D := match tyD d with
  | some a => (kitB a T).map .bl
  | none => none
theorem tyD_is {K : PySem.W.Frag} {mg : Str → Option Value} {Hf H : Hp} (sb : Sub Hf H) {d : D} {v : V} {T : String} (i : Is K mg Hf d v) (e : tyD d = some T) : TyX K H v (.type T) := by
  cases d with
  | non => cases i; cases e; exact .base .non
  | bl c => cases i; cases e; exact .base (.bl _)
  | int c => cases i; cases e; exact .base (.int _)
  | str c => obtain ⟨rfl, _⟩ := i; cases e; exact .base (.str _)
  | tup ds =>
    obtain ⟨_, a, vs, rfl, h, _⟩ := i
    cases e
    rcases sb.sqt h with (h | ⟨o, h⟩) | h
    · exact .base (.tup h)
    · exact .fTuple h
    · obtain ⟨o, its, n, h1, h2, h3⟩ := h
      exact .kTuple h1 h2
  | lst ds =>
    obtain ⟨_, a, vs, rfl, h, _⟩ := i
    cases e
    exact .base (.lst (sb _ _ h))
  | dic _ _ =>
    obtain ⟨a, vs, rfl, h, _⟩ := i
    cases e
    rcases sb.rd h with h | ⟨o, h⟩
    · exact .base (.dK h)
    · exact .fDict h
  | ins _ _ _ => cases e
  | xc _ _ _ _ => cases e
  | scr _ =>
    obtain ⟨_, a, rfl, h⟩ := i
    cases e
    rcases sb.sql h with (h | ⟨o, h⟩) | h
    · exact .base (.lst h)
    · exact .base (.frz h)
    · obtain ⟨o, its, n, h1, h2, h3⟩ := h
      exact .kList h1 h2
section
variable {X : Cx} {fx : Fx} {m : Type → Type} [Mo m] {G : List Sl} {e : Expr} {p p2 pos : Pos} {x : m D}
theorem de_isi (T : String) {n : Str} (he : PE X e (tE X.K X.mg fx G x)) (hg : Gl X "isinstance") (hm : X.mg "isinstance" = none) (hg2 : Gl X n) (hm2 : X.mg n = none) (hv2 : bootBuiltins n = some (.type T))
    (hn : n ≠ "__name__" := by decide) (hdb : (n == ("__debug__" : Str)) = false := by decide) (hs : starEach [e, .Name n p2] X.env = (false, eval e X.env) :: starEach [.Name n p2] X.env := by rfl) (hs2 : starEach [.Name n p2] X.env = (false, eval (.Name n p2) X.env) :: starEach [] X.env := by rfl) (hpl : (backTo pos (starEach [.Name n p2] X.env)).any (·.1) = false := by rfl) :
    PE X (.Call (.Name "isinstance" p) [e, .Name n p2] [] pos) (tE X.K X.mg fx G (do let d ← x; ask (isiD T d))) :=
  peI (pe_callB call_isi hg hm rfl (pa_cons he (pa_cons (pe_bltn (v := .ty T) hg2 hm2 hv2 rfl hn hdb) pa_nil hs2) hs) (by decide) (by decide) hs hpl) fun σ H Q ⟨Hf, s, h⟩ =>
  (h.bind.mono fun v1 H1 ⟨d1, Hf1, s1, sb1, r1, h1⟩ => by
    obtain ⟨d, e, q⟩ := h1.ask
    unfold isiD at e
    cases e1 : tyD d1 with
    | none => rw [e1] at e; cases e
    | some a =>
      simp only [e1] at e
      cases e2 : kitB a T with
      | none => rw [e2] at e; cases e
      | some b =>
        rw [e2] at e
        cases e
        exact ⟨v1, .ty T, _, _, b, rfl, .ty T, tyD_is h1.1.top r1 e1, kit_ty e2, q _ Hf1 H1 (.refl h1.1.top) (is_bl _)⟩).to
end
/-! ### all, any -/
def bolsOf : List D → Option (List Bool)
  | [] => some []
  | .bl b :: r => (bolsOf r).map (b :: ·)
  | _ :: _ => none
def allD : List D → Option D
  | [.lst ds] => (bolsOf ds).map fun bs => .bl (bs.all id)
  | _ => none
/-! ### repr -/
def reprD : List D → Option D
  | [d] => match toPy d with
    | some p => if p.showable && !p.hasDict && decide (p.depth ≤ 60) && decide (p.shown.length ≤ sizeLine) then some (.str p.shown.cps.toList) else none
    | none => none
  | _ => none
section
variable {X : Cx}
theorem shown_is {K : PySem.W.Frag} {mg : Str → Option Value} {H : Hp} (z : Str) (h : z.length ≤ sizeLine) : Is K mg H (.str z.cps.toList) (.str z) := ⟨by rw [Array.toArray_toList], h⟩
theorem oc_repr (hg : X.A.guards = some []) (hu : X.A.units + 64 < cLine) : CallR X (.builtin "repr") (rDs X.K X.mg reprD) := by
  intro pins s σ H xs us Q I r h
  obtain ⟨Hf, ds, d, sb, l, e, q⟩ := h
  unfold reprD at e
  split at e
  · rename_i d1
    obtain ⟨v, r1, rfl, i1, rfl⟩ := l
    split at e
    · rename_i p e1
      split at e
      · rename_i hc
        cases e
        simp only [Bool.and_eq_true, Bool.not_eq_true', decide_eq_true_eq] at hc
        obtain ⟨⟨⟨h1, h2⟩, h3⟩, h4⟩ := hc
        have dp := (i1.mono sb).dp e1
        obtain ⟨u, rfl, ru⟩ := vals1 r
        have fin : ∀ (h' : Heap) (t : Tok) (tk : Nat), (∀ b o, s.heap.get? b = some o → h'.get? b = some o) → EP X pins σ Q (.str p.shown t) { s with heap := h', toks := tk } := fun h' t tk hk =>
          ⟨.str _, H, I.kept hk, ⟨t, rfl⟩, q _ Hf H (.refl sb) (shown_is _ h4)⟩
        have tok : ∀ (t : Tok) (tk : Nat), EP X pins σ Q (.str p.shown t) { s with toks := tk } := fun t tk => fin s.heap t tk fun _ _ e => e
        cases p with
        | none => cases dp; cases ru; exact PySem.P.repr_of_none (tok _ _)
        | bool b => cases dp; cases ru; exact PySem.P.repr_of_bool (tok _ _)
        | int i => cases dp; obtain ⟨t, rfl⟩ := ru; exact PySem.P.repr_of_int (by simpa [PyData.showable] using h1) (tok _ _)
        | str z => cases dp; obtain ⟨t, rfl⟩ := ru; exact PySem.P.repr_of_str (tok _ _) h4
        | list ps =>
          obtain ⟨as, rr⟩ := Dp.reads I _ v u dp ru
          cases dp
          cases ru
          exact PySem.repr_of_reads' rr h1 (fun z => by rw [h2] at z; cases z) hg (by omega) (fun _ _ e => e) (fun h' t tk hk => fin h' t tk hk) h4
        | tuple ps =>
          obtain ⟨as, rr⟩ := Dp.reads I _ v u dp ru
          cases dp
          cases ru
          exact PySem.repr_of_reads' rr h1 (fun z => by rw [h2] at z; cases z) hg (by omega) (fun _ _ e => e) (fun h' t tk hk => fin h' t tk hk) h4
        | dict kv => simp [PyData.hasDict] at h2
      · cases e
    · cases e
  · cases e
end
end DL
namespace DL
open PySem L2
/-! ### lists of the frame's own, changed -/
def popI (ds : List D) (k : D) : Option (D × List D) := match k with
  | .int i => match ixN ds.length i with
    | some j => (ds[j]?).map fun d => (d, ds.eraseIdx j)
    | none => none
  | _ => none
theorem ixN_lt {n : Nat} {i : Int} {j : Nat} (h : ixN n i = some j) : j < n := (ixN_seq h).2.1
/-- an expression that changes the own list of slot i -/
def tP (K : PySem.W.Frag) (mg : Str → Option Value) (fx : Fx) (G : List Sl) (i : Nat) {m : Type → Type} [Mo m] (x : m (D × List D)) : TE := fun σ H Q => ∃ Hf s, StS K mg fx Hf H σ G s ∧
  Mo.wp x s (fun r s' => ∀ v Hf' H', Sub Hf Hf' → StS K mg fx Hf' H' σ (G.set i (.ow r.2)) s' → Is K mg Hf' r.1 v → Q v H') (EX K mg fx G σ)
section
variable {X : Cx} {fx : Fx} {m : Type → Type} [Mo m] {G : List Sl} {α β : Type} {kk : Nat} {e o c : Expr} {rest : List Stmt} {ex : α → List Sl} {exb : β → List Sl} {x y : m D} {ds : List D} {n : Str} {np apos cpos pos : Pos}
/-- x.pop(c) -/
theorem dp_pop (i : Nat) (hc : PE X c (tE X.K X.mg fx G y))
    (hG : G[i]? = some (.ow ds) := by rfl) (hN : X.N[i]? = some n := by rfl) (hv : Vis X.env.scope n := by first | exact Or.inl rfl | exact Or.inr (Or.inl rfl) | exact Or.inr (Or.inr rfl)) (hd : (n == ("__debug__" : Str)) = false := by decide) (hcd : (n == ("__classdict__" : Str)) = false := by decide)
    (hst : starEach [c] X.env = [(false, eval c X.env)] := by rfl) (hbase : attributeBase (.Name n np) "pop" X.env (eval (.Name n np) X.env) = eval (.Name n np) X.env := by rfl)
    (hfew : ((backTo cpos (starEach [c] X.env)).all (fun x => !x.1) && (backToKw cpos (keywordEach [] X.env)).all (fun x => x.1.isSome) && decide ([c].length + ([] : List Keyword).length + (if ([] : List Keyword).isEmpty then 0 else 1) < 30)) = true := by rfl)
    (hline : (apos.endLine == cpos.line) = true := by rfl) (hplain : (backTo cpos (starEach [] X.env)).any (·.1) = false := by rfl) :
    PE X (.Call (.Attribute (.Name n np) "pop" apos) [c] [] cpos) (tP X.K X.mg fx G i (do let j ← y; ask (popI ds j))) :=
  peI (pe_bm PySem.F.plainAttrs_list PySem.F.slot_list_pop PySem.F.type_list_pop mt_popAt (pe_var hN hv hd hcd) (pa_cons hc pa_nil hst) hbase hfew hline hst hplain) fun σ H Q ⟨Hf, s, st, w⟩ => by
    obtain ⟨p, vs, ep, hp, hf, h0, nb, l, hz⟩ := st.sl i _ hG
    refine ⟨.ref p, ep, .inl ⟨rfl, _, .inl (.inl hp)⟩, ?_⟩
    refine ⟨Hf, s, st, Mo.wp_mono (Mo.wp_bind w) (fun j s1 k v Hf1 H1 e1 bg1 r1 => ?_) fun e s' k => k⟩
    have st1 := st.step e1 bg1
    obtain ⟨p1, vs1, ep1, hp1, hf1, _, _, l1, hz1⟩ := st1.sl i _ hG
    have eq : p1 = p := by rw [ep] at ep1; cases ep1; rfl
    subst eq
    have k' := Mo.wp_lift k
    unfold popI at k'
    cases j with
    | int t =>
      cases r1
      cases q : ixN ds.length t with
      | none => exact absurd k' (by simp [q])
      | some z =>
        have hlt := ixN_lt q
        obtain ⟨hsq, _, hb1, hb2⟩ := ixN_seq q
        have ed : ds[z]? = some ds[z] := List.getElem?_eq_getElem hlt
        simp only [q, ed, Option.map_some] at k'
        obtain ⟨w', hw', iw⟩ := l1.get ed
        have hs2 : (sizeLine : Nat) = 16777216 := sizeLine_eq
        have hle := List.length_eraseIdx_le ds z
        refine ⟨p1, vs1, t, z, w', rfl, rfl, hp1, by omega, by omega, by rw [← l1.len]; exact hsq, hw', k' w' Hf1 _ e1.sub (st1.updOw hG ep (l1.eraseIdx z) (by omega)) iw⟩
    | _ => exact k'.elim
/-- y = x.pop(..) -/
theorem dss_asgP {x : m (D × List D)} {k : D × List D → m (Fl α β)} (C : Cok X fx kk) {pos' : Pos} (i j : Nat) (he : PE X e (tP X.K X.mg fx G i x)) (hr : ∀ r : D × List D, PSs X rest (tS X.K X.mg fx ((G.set i (.ow r.2)).set j (.im r.1)) ex exb (k r))) (hi : X.N[j]? = some n := by rfl) (hx : Loc X.env.scope n := by first | exact Or.inl rfl | exact Or.inr rfl)
    (hs : swapsWith e (some (.Name n pos')) pos.line X.env = pure false := by rfl) (hf : X.fn n = true ∨ X.env.scope.names.lookup n = some .local := by first | exact .inl rfl | exact .inr rfl) (hg : GxOk fx G := by first | trivial | repeat' (first | exact True.intro | exact Or.inl rfl | exact Or.inr rfl | refine And.intro ?_ ?_)) :
    PSs X (.Assign [.Name n pos'] e pos :: rest) (tS X.K X.mg fx G ex exb (do let r ← x; k r)) := pssI (pss_cons (ps_set C.nd hi hx he hs hf) (pss_ex hr)) fun De σ H ⟨Hf, s, h⟩ =>
  ⟨Hf, s, h.1, Mo.wp_mono (Mo.wp_bind h.2) (fun r s1 w v Hf1 H1 sb st1 is1 => ⟨r, Hf1, s1, st1.set is1, Mo.wp_mono w (fun f s2 h2 => h2.up sb) fun e s' k => k⟩) fun e s' k => exs_ex hg k⟩
end
/-! ### the answer is a new list -/
section
variable {X : Cx} {fx : Fx} {m : Type → Type} [Mo m] {G : List Sl} {α β : Type} {kk : Nat} {e : Expr} {rest : List Stmt} {ex : α → List Sl} {exb : β → List Sl} {pos : Pos}
/-- return a new list -/
theorem dss_retF {x : m (List D)} (he : PE X e (tF X.K X.mg fx G x)) (hnr : fx.nr = true := by rfl) (hg : GxOk fx G := by first | trivial | repeat' (first | exact True.intro | exact Or.inl rfl | exact Or.inr rfl | refine And.intro ?_ ?_)) : PSs X (.Return (some e) pos :: rest) (tS X.K X.mg fx G ex exb (do let ds ← x; pure (.rt (.lst ds)))) := pssI (pss_cons (ps_ret he) pss_never) fun De σ H ⟨Hf, s, h⟩ =>
  ⟨Hf, s, h.1, Mo.wp_mono (Mo.wp_bind h.2) (fun ds s1 w p vs Hf1 H1 e bg hp hf1 hn l hz => (Mo.wp_pure w) (.ref p) Hf1 H1 (h.1.ste.trans e.wider) bg (by rw [hnr]; exact ⟨p, vs, ds, rfl, rfl, hp, hf1, (h.1.new0 hn).1, l, hz⟩)) fun e s' k => exs_ex hg k⟩
end
end DL
namespace DL
open PySem L2
/-! ### the bag -/
def bagX : M D := fun s => if s.w = false then .ok (.int s.x) s else .stuck
def bagY : M D := fun s => if s.w = false then .ok (.int s.y) s else .stuck
def bagSetX (i : Int) : M Unit := fun s => if s.w = false then .ok () { s with x := i } else .stuck
def bagSetY (i : Int) : M Unit := fun s => if s.w = false then .ok () { s with y := i } else .stuck
theorem bag_one {bag : List Addr} {H : Hp} {s : S} {b : Addr} {r : List Addr} (h : BagAt bag H s) (hw : s.w = false) (e : bag = b :: r) : bag = [b] ∧ H b = some (.lst [.int s.x, .int s.y]) := by
  subst e
  cases r with
  | nil => exact ⟨rfl, h.2⟩
  | cons c r => exact absurd h.1 (by rw [hw]; simp)
section
variable {X : Cx} {fx : Fx} {G : List Sl} {α β : Type} {kk : Nat} {e : Expr} {rest : List Stmt} {ex : α → List Sl} {exb : β → List Sl} {pos p2 np apos : Pos} {n : Str} {j : Nat}
theorem de_bagX (i : Nat) (hG : G[i]? = some .bg := by rfl) (hN : X.N[i]? = some n := by rfl) (hv : Vis X.env.scope n := by first | exact Or.inl rfl | exact Or.inr (Or.inl rfl) | exact Or.inr (Or.inr rfl)) (hd : (n == ("__debug__" : Str)) = false := by decide) (hcd : (n == ("__classdict__" : Str)) = false := by decide)
    (hs : PlainIx (.Constant (.int 0) j p2) := by exact fun _ _ => rfl) : PE X (.Subscript (.Name n np) (.Constant (.int 0) j p2) pos) (tE X.K X.mg fx G bagX) :=
  peI (pe_ix ix_list (pe_var hN hv hd hcd) pe_int hs) fun σ H Q ⟨Hf, s, h⟩ => by
    obtain ⟨b, r, eb, ev⟩ := h.1.sl i _ hG
    have w : (bagX s).wp _ _ := h.2
    unfold bagX at w
    by_cases hw : s.w = false
    · rw [if_pos hw] at w
      obtain ⟨e1, hb⟩ := bag_one h.1.bag hw eb
      exact ⟨.ref b, ev, b, _, 0, .int s.x, rfl, rfl, .inl (.inl hb), rfl, w _ Hf H (.refl h.1.top) h.1.bag (is_int _)⟩
    · rw [if_neg hw] at w
      exact w.elim
theorem de_bagY (i : Nat) (hG : G[i]? = some .bg := by rfl) (hN : X.N[i]? = some n := by rfl) (hv : Vis X.env.scope n := by first | exact Or.inl rfl | exact Or.inr (Or.inl rfl) | exact Or.inr (Or.inr rfl)) (hd : (n == ("__debug__" : Str)) = false := by decide) (hcd : (n == ("__classdict__" : Str)) = false := by decide)
    (hs : PlainIx (.Constant (.int 1) j p2) := by exact fun _ _ => rfl) : PE X (.Subscript (.Name n np) (.Constant (.int 1) j p2) pos) (tE X.K X.mg fx G bagY) :=
  peI (pe_ix ix_list (pe_var hN hv hd hcd) pe_int hs) fun σ H Q ⟨Hf, s, h⟩ => by
    obtain ⟨b, r, eb, ev⟩ := h.1.sl i _ hG
    have w : (bagY s).wp _ _ := h.2
    unfold bagY at w
    by_cases hw : s.w = false
    · rw [if_pos hw] at w
      obtain ⟨e1, hb⟩ := bag_one h.1.bag hw eb
      exact ⟨.ref b, ev, b, _, 1, .int s.y, rfl, rfl, .inl (.inl hb), rfl, w _ Hf H (.refl h.1.top) h.1.bag (is_int _)⟩
    · rw [if_neg hw] at w
      exact w.elim
/-- the bag's object is changed -/
theorem StS.bagUpd {K : PySem.W.Frag} {mg : Str → Option Value} {Hf H : Hp} {σ : L2.St} {s s' : S} {b : Addr} {o : HO} (st : StS K mg fx Hf H σ G s) (hb : b ∈ fx.bag) (bg : BagAt fx.bag (upd H b o) s') : StS K mg fx Hf (upd H b o) σ G s' := by
  have hf := (st.bagf b hb).1
  refine ⟨⟨st.ste.sub, fun a u q => ?_, fun a u q n => ?_, fun a n => ?_, st.ste.fresh⟩, bg, fun c hc => ⟨(st.bagg c hc).1, ?_, (st.bagg c hc).2.2⟩, st.len, fun i x ex => ?_, st.dis⟩
  · have ne : a ≠ b := fun z => by rw [z, hf] at q; cases q
    rw [upd_ne ne]; exact st.top a u q
  · have ne : a ≠ b := fun z => n (List.mem_append_right _ (z ▸ hb))
    rw [upd_ne ne]; exact st.ste.keep a u q n
  · by_cases c : a = b
    · rw [c, upd_same]; simp
    · rw [upd_ne c]; exact st.ste.dom a n
  · by_cases q : c = b
    · rw [q, upd_same]; simp
    · rw [upd_ne q]; exact (st.bagg c hc).2.1
  · exact (st.sl i x ex).upd fun q ox e z => by
      obtain ⟨q2, e2, _, _, nb, _⟩ := (st.sl i x ex).ref ox
      rw [e] at e2
      cases e2
      exact nb (z ▸ hb)
theorem dss_bagSetX {x : M D} {k : M (Fl α β)} (i : Nat) (he : PE X e (tE X.K X.mg fx G x)) (hr : PSs X rest (tS X.K X.mg fx G ex exb k)) (hG : G[i]? = some .bg := by rfl) (hN : X.N[i]? = some n := by rfl) (hv : Vis X.env.scope n := by first | exact Or.inl rfl | exact Or.inr (Or.inl rfl) | exact Or.inr (Or.inr rfl)) (hd : (n == ("__debug__" : Str)) = false := by decide) (hcd : (n == ("__classdict__" : Str)) = false := by decide)
    (ha : ∀ v, assign (.Subscript (.Name n np) (.Constant (.int 0) j p2) apos) X.env v = (do
      let ov ← holding [v] (eval (.Name n np) X.env)
      let iv ← holding [v, ov] (eval (.Constant (.int 0) j p2) X.env)
      standAt apos
      holding [v, ov, iv] (setItem ov iv v)
      release [v, ov, iv] []) := by intro _; rfl)
    (hs : swapsWithSole [.Subscript (.Name n np) (.Constant (.int 0) j p2) apos] e pos.line X.env = pure false := by rfl) (hw : swappedStores [.Subscript (.Name n np) (.Constant (.int 0) j p2) apos] e X.env = pure none := by rfl)
    (h1 : (assignEach [.Subscript (.Name n np) (.Constant (.int 0) j p2) apos] X.env).map (·.2) = [assign (.Subscript (.Name n np) (.Constant (.int 0) j p2) apos) X.env] := by rfl) (hg : GxOk fx G := by first | trivial | repeat' (first | exact True.intro | exact Or.inl rfl | exact Or.inr rfl | refine And.intro ?_ ?_)) :
    PSs X (.Assign [.Subscript (.Name n np) (.Constant (.int 0) j p2) apos] e pos :: rest) (tS X.K X.mg fx G ex exb (do let d ← x; let i ← ask (intOf d); bagSetX i; k)) :=
  pssI (pss_cons (ps_asg he (pg_sub (pe_var hN hv hd hcd) pe_int set_list ha) hs hw h1) hr) fun De σ H ⟨Hf, s, h⟩ =>
    ((h.bind hg).mono fun v H1 ⟨d, Hf1, s1, sb, r, h1⟩ => by
      obtain ⟨b, rr, eb, ev⟩ := h1.1.sl i _ hG
      have w := Mo.wp_lift (Mo.wp_bind h1.2)
      cases d with
      | int t =>
        cases r
        have w2 : (bagSetX t s1).wp _ _ := Mo.wp_bind w
        unfold bagSetX at w2
        by_cases hw : s1.w = false
        · rw [if_pos hw] at w2
          obtain ⟨e1, hb⟩ := bag_one h1.1.bag hw eb
          refine ⟨.ref b, ev, b, _, 0, 0, rfl, rfl, hb, rfl, Hf1, _, h1.1.bagUpd (s' := { s1 with x := t }) (by rw [e1]; simp) ?_, w2⟩
          rw [e1]
          exact ⟨hw, upd_same⟩
        · rw [if_neg hw] at w2
          exact w2.elim
      | _ => exact w.elim).to
theorem dss_bagSetY {x : M D} {k : M (Fl α β)} (i : Nat) (he : PE X e (tE X.K X.mg fx G x)) (hr : PSs X rest (tS X.K X.mg fx G ex exb k)) (hG : G[i]? = some .bg := by rfl) (hN : X.N[i]? = some n := by rfl) (hv : Vis X.env.scope n := by first | exact Or.inl rfl | exact Or.inr (Or.inl rfl) | exact Or.inr (Or.inr rfl)) (hd : (n == ("__debug__" : Str)) = false := by decide) (hcd : (n == ("__classdict__" : Str)) = false := by decide)
    (ha : ∀ v, assign (.Subscript (.Name n np) (.Constant (.int 1) j p2) apos) X.env v = (do
      let ov ← holding [v] (eval (.Name n np) X.env)
      let iv ← holding [v, ov] (eval (.Constant (.int 1) j p2) X.env)
      standAt apos
      holding [v, ov, iv] (setItem ov iv v)
      release [v, ov, iv] []) := by intro _; rfl)
    (hs : swapsWithSole [.Subscript (.Name n np) (.Constant (.int 1) j p2) apos] e pos.line X.env = pure false := by rfl) (hw : swappedStores [.Subscript (.Name n np) (.Constant (.int 1) j p2) apos] e X.env = pure none := by rfl)
    (h1 : (assignEach [.Subscript (.Name n np) (.Constant (.int 1) j p2) apos] X.env).map (·.2) = [assign (.Subscript (.Name n np) (.Constant (.int 1) j p2) apos) X.env] := by rfl) (hg : GxOk fx G := by first | trivial | repeat' (first | exact True.intro | exact Or.inl rfl | exact Or.inr rfl | refine And.intro ?_ ?_)) :
    PSs X (.Assign [.Subscript (.Name n np) (.Constant (.int 1) j p2) apos] e pos :: rest) (tS X.K X.mg fx G ex exb (do let d ← x; let i ← ask (intOf d); bagSetY i; k)) :=
  pssI (pss_cons (ps_asg he (pg_sub (pe_var hN hv hd hcd) pe_int set_list ha) hs hw h1) hr) fun De σ H ⟨Hf, s, h⟩ =>
    ((h.bind hg).mono fun v H1 ⟨d, Hf1, s1, sb, r, h1⟩ => by
      obtain ⟨b, rr, eb, ev⟩ := h1.1.sl i _ hG
      have w := Mo.wp_lift (Mo.wp_bind h1.2)
      cases d with
      | int t =>
        cases r
        have w2 : (bagSetY t s1).wp _ _ := Mo.wp_bind w
        unfold bagSetY at w2
        by_cases hw : s1.w = false
        · rw [if_pos hw] at w2
          obtain ⟨e1, hb⟩ := bag_one h1.1.bag hw eb
          refine ⟨.ref b, ev, b, _, 1, 1, rfl, rfl, hb, rfl, Hf1, _, h1.1.bagUpd (s' := { s1 with y := t }) (by rw [e1]; simp) ?_, w2⟩
          rw [e1]
          exact ⟨hw, upd_same⟩
        · rw [if_neg hw] at w2
          exact w2.elim
      | _ => exact w.elim).to
end
/-! ### a def whose answer is a new list -/
def lstOf : D → Option (List D)
  | .lst ds => some ds
  | _ => none
section
variable {X : Cx} {fx : Fx} {m : Type → Type} [Mo m] {G : List Sl} {es : List Expr} {pos : Pos} {ys : m (List D)} {kk j n : Nat} {g : List D → R D} {f : Addr} {fd : FuncData} {ps : List Str} {nm : Str} {p : Pos} {e : Expr}
theorem df_fn (C : Cok X fx kk) (F : FnG X.prog X.w X.K X.mg X.base j f fd ps (spR X.K X.mg true n g)) (hm : X.mg nm = some (.ref f)) (hk : PySem.W.keepIn X.K (.ref f) = true) (hb : Binds X.K fd ps []) (ha : PA X (e :: es) (tA X.K X.mg fx G ys)) (hn : ∀ ds : List D, g ds ≠ .stuck → ds.length = n)
    (hj : j ≤ kk := by decide) (hg : Gl X nm := by rfl) (hdb : (nm == ("__debug__" : Str)) = false := by decide) (he : starEach (e :: es) X.env = (false, eval e X.env) :: starEach es X.env := by rfl) (hpl : (backTo pos (starEach es X.env)).any (·.1) = false := by rfl) :
    PE X (.Call (.Name nm p) (e :: es) [] pos) (tF X.K X.mg fx G (do let ds ← ys; let d ← Mo.lift (g ds); ask (lstOf d))) := peI (pe_callG (E := WE fx.W) F C.gd (C.rm.mono hj) hg hm hk hb .nil (fun σ => passAt C.tk σ) ha hdb he hpl) fun σ H Q ⟨Hf, s, st, w⟩ =>
  ⟨Hf, s, st, Mo.wp_mono (Mo.wp_bind w) (fun ds s1 k vs Hf1 H1 e1 bg1 l1 => by
    show spR X.K X.mg true n g (vs ++ []) H1 Q (WE fx.W σ)
    rw [List.append_nil]
    have st1 := st.step e1 bg1
    have w2 := Mo.wp_lift (Mo.wp_bind k)
    have hnv : vs.length = n := by
      rw [← l1.len]
      refine hn ds fun z => ?_
      rw [z] at w2
      exact w2
    refine ⟨hnv, Hf1, ds, st1.top, l1, ?_⟩
    cases z : g ds with
    | ok d =>
      rw [z] at w2
      rintro v Hf' H' e2 ⟨p, vs2, ds2, rfl, rfl, hp, hf, h0, l2, hz⟩
      have w3 := Mo.wp_lift w2
      have hn0 : H p = none := by
        cases q : H p with
        | none => rfl
        | some o => exact absurd h0 (e1.dom p (by rw [q]; simp))
      exact w3 p vs2 Hf' H' (e1.trans e2.wide) (e2.bag bg1) hp hf hn0 l2 hz
    | ex e => rw [z] at w2; exact fun cls dd Hf' H' e2 x => w2 cls dd Hf' H' (st1.step e2.wide (e2.bag bg1)) x
    | stuck => rw [z] at w2; exact w2) fun e s' k => k⟩
end
/-! ### a bag is made -/
def withBag {α β : Type} (d : D) (body : M (Fl α β)) : R (Fl α β) := match d with
  | .lst [.int x, .int y] => match body ⟨x, y, 0, [], false⟩ with
    | .ok f _ => .ok f
    | .ex e _ => .ex e
    | .stuck => .stuck
  | _ => .stuck
abbrev Fx.bagged (fx : Fx) (b : Addr) : Fx := { fx with bag := [b] }
section
variable {K : PySem.W.Frag} {mg : Str → Option Value} {fx : Fx}
theorem Ste.unbag {b : Addr} {Hf H Hf' H' : Hp} (e : Ste [b] Hf H Hf' H') (hb : H b = none) : Ste [] Hf H Hf' H' :=
  ⟨e.sub, e.top, fun a o q _ => e.keep a o q (fun m => by
    have : a = b := by simpa using m
    subst this
    rw [hb] at q; cases q), e.dom, e.fresh⟩
def noBg : Sl → Bool
  | .bg => false
  | _ => true
theorem StS.unbag {b : Addr} {Hf H : Hp} {σ : L2.St} {G : List Sl} {s s0 : S} (hfx : fx.bag = []) (hme : fx.me = []) (hb : fx.H0 b = none) (st : StS K mg (fx.bagged b) Hf H σ G s) (hG : G.all noBg = true) : StS K mg fx Hf H σ G s0 := by
  have st0 : Ste [b] fx.Hf0 fx.H0 Hf H := by
    have z := st.ste
    have e : (fx.bagged b).me = [] := hme
    rw [e] at z
    exact z
  refine ⟨by rw [hfx, hme]; exact Ste.unbag st0 hb, by rw [hfx]; trivial, by rw [hfx, hme]; intro b hb; (cases hb), st.len, fun i x e => ?_, st.dis⟩
  have so := st.sl i x e
  cases x with
  | un => trivial
  | im d => exact so
  | bg =>
    have := List.all_eq_true.mp hG _ (List.mem_of_getElem? e)
    cases this
  | ow ds =>
    obtain ⟨p, vs, e1, h, hf, h0, nb, l, hz⟩ := so
    exact ⟨p, vs, e1, h, hf, h0, by rw [hfx]; simp, l, hz⟩
  | od ks ds =>
    obtain ⟨p, vs, e1, h, hf, h0, nb, l, l', hz⟩ := so
    exact ⟨p, vs, e1, h, hf, h0, by rw [hfx]; simp, l, l', hz⟩
  | ob ks ds =>
    obtain ⟨p, C, dx, vs, e1, h, hf, h0, nb, l⟩ := so
    exact ⟨p, C, dx, vs, e1, h, hf, h0, by rw [hfx]; simp, l⟩
end
section
variable {X : Cx} {fx : Fx} {G : List Sl} {α β : Type} {kk : Nat} {e : Expr} {rest : List Stmt} {ex : α → List Sl} {exb : β → List Sl} {pos : Pos} {n : Str} {pos' : Pos}
theorem Cok.bagged (C : Cok X fx kk) (b : Addr) : Cok X (fx.bagged b) kk := ⟨C.calm, C.hp, C.tk, C.rm, C.nd, C.gd⟩
theorem StS.setBg {i : Nat} {b : Addr} {Hf H : Hp} {σ : L2.St} {x y : Int} {s : S} (hfx : fx.bag = []) (hme : fx.me = []) (st : StS X.K X.mg fx Hf H σ G s) (no : ∀ (j : Nat) (q : Addr), σ[j]? = some (some (.ref q)) → (∀ x, G[j]? = some x → isOw x = true → q ≠ b)) (hb : H b = some (.lst [.int x, .int y])) (hf : Hf b = none) (h0 : fx.H0 b = none) (hG : G.all noBg = true) :
    StS X.K X.mg (fx.bagged b) Hf H (σ.set i (some (.ref b))) (G.set i .bg) ⟨x, y, 0, [], false⟩ := by
  refine ⟨⟨st.ste.sub, st.ste.top, fun a o q _ => st.ste.keep a o q (by rw [hfx, hme]; simp), st.ste.dom, st.ste.fresh⟩, ⟨rfl, hb⟩, fun c hc => ?_, by simpa using st.len, fun j z e => ?_, fun j k z w p hjk ex ey ox oy e1 e2 => ?_⟩
  · have hm : (fx.bagged b).me = [] := hme
    rw [hm] at hc ⊢
    have : c = b := by simpa using hc
    subst this
    exact ⟨hf, by rw [hb]; simp, fun z => nomatch z⟩
  · by_cases q : i = j
    · subst q
      have hi : i < G.length := by
        have := (List.getElem?_eq_some_iff.mp e).1
        simpa using this
      rw [List.getElem?_set_self hi] at e
      cases e
      exact ⟨b, [], rfl, List.getElem?_set_self (by rw [st.len]; exact hi)⟩
    · rw [List.getElem?_set_ne q] at e
      rw [List.getElem?_set_ne q]
      have so := st.sl j z e
      cases z with
      | un => trivial
      | im d => exact so
      | bg =>
        have := List.all_eq_true.mp hG _ (List.mem_of_getElem? e)
        cases this
      | ow ds =>
        obtain ⟨p, vs, e1, h, hf', h0', nb, l, hz⟩ := so
        refine ⟨p, vs, e1, h, hf', h0', fun m => ?_, l, hz⟩
        have : p = b := by simpa using m
        exact no j p e1 _ e rfl this
      | od ks ds =>
        obtain ⟨p, vs, e1, h, hf', h0', nb, l, l', hz⟩ := so
        refine ⟨p, vs, e1, h, hf', h0', fun m => ?_, l, l', hz⟩
        have : p = b := by simpa using m
        exact no j p e1 _ e rfl this
      | ob ks ds =>
        obtain ⟨p, C, dx, vs, e1, h, hf', h0', nb, l⟩ := so
        refine ⟨p, C, dx, vs, e1, h, hf', h0', fun m => ?_, l⟩
        have : p = b := by simpa using m
        exact no j p e1 _ e rfl this
  · have nj : i ≠ j := by
      rintro rfl
      have hi : i < G.length := by
        have := (List.getElem?_eq_some_iff.mp ex).1
        simpa using this
      rw [List.getElem?_set_self hi] at ex
      cases ex; cases ox
    have nk : i ≠ k := by
      rintro rfl
      have hi : i < G.length := by
        have := (List.getElem?_eq_some_iff.mp ey).1
        simpa using this
      rw [List.getElem?_set_self hi] at ey
      cases ey; cases oy
    rw [List.getElem?_set_ne nj] at ex e1
    rw [List.getElem?_set_ne nk] at ey e2
    exact st.dis j k z w p hjk ex ey ox oy e1 e2
end
end DL
namespace DL
open PySem L2 PyProof.Rows PySem.Spec
/-! ### the end -/
section
variable {P : Program} {w : World} {K : PySem.W.Frag} {mg mb : Str → Option Value} {k : Nat} {fa a : Addr} {fd : FuncData} {x : Str} {g : List D → R D} {s1 : Shared} {vs : List Value} {ns : List Int}
/-- the module's facts, behind what is tracked -/
theorem mod_hid {H : Hp} (KX : K.In s1.heap) (hns : s1.heap.Ns mainGlobals mg) (hb : s1.heap.Ns builtinsNs mb) (hbb : ∀ x : Str, x ≠ "__name__" → mb x = bootBuiltins x) (hlim : s1.heap.NoLimit)
    (hd : ∀ (b : Addr) (o : Obj) (es : Array DictEntry) (ep : Nat), s1.heap.get? b = some o → o.data = .dict es ep → H b = none) (hk : ∀ b o, K.lookup b = some o → H b = none) : Mod K mg (hidT s1.heap H) := by
  have nsK : ∀ {b : Addr} {m : Str → Option Value}, s1.heap.Ns b m → (hidT s1.heap H).Ns b m := fun {b m} ⟨o, es, ep, e, d, r⟩ => ⟨o, es, ep, hidT_get e (hd _ _ _ _ e d), d, r⟩
  exact ⟨fun b o e => hidT_get (KX b o e) (hk b o e), nsK hns, ⟨mb, nsK hb, hbb⟩, let ⟨mc, h1, h2⟩ := hlim; ⟨mc, nsK h1, h2⟩⟩
/-- the law's def, called on a script that the heap H tells -/
theorem call_at {H : Hp} (KX : K.In s1.heap) (hns : s1.heap.Ns mainGlobals mg) (hb : s1.heap.Ns builtinsNs mb) (hbb : ∀ x : Str, x ≠ "__name__" → mb x = bootBuiltins x) (hlim : s1.heap.NoLimit) (hgn : s1.gens = #[])
    (hd : ∀ (b : Addr) (o : Obj) (es : Array DictEntry) (ep : Nat), s1.heap.get? b = some o → o.data = .dict es ep → H b = none) (hk : ∀ b o, K.lookup b = some o → H b = none) (hf : ∀ b u, H b = some u → ∃ o xs, u = .frz o (.lst xs)) (hok : HOk P w H s1.heap) (hr : Room k callerA)
    (F : ∀ base : Heap, K.In base → base.Ns mainGlobals mg → FnG P w K mg base k fa fd [x] (spR K mg false 1 g)) (hbind : ∀ (s : Shared) (u : Value), BindsTo s fd ⟨[u], []⟩ [(x, u)])
    (hS : SqL K H a (ns.map V.int)) (hl : ns.length ≤ sizeLine) (hg : g [.scr ns] = .ok (.bl true)) :
    codeAny (model P w) callerA (.call (.ref fa) ⟨[.ref a], []⟩) (fun r s' => r = .ok (.ret (.bool true)) ∧ OldK s1.heap s'.heap ∧ s'.os = s1.os ∧ AllBare s'.gens) s1 := by
  have hM := mod_hid (H := H) KX hns hb hbb hlim hd hk
  have e0 : Env0 P w K mg (hidT s1.heap H) callerA [] s1 H := ⟨rfl, hM, fun b o e => of_hidT e, Nat.le_of_eq (hidT_size _ _), trivial, fun b hb => absurd (show b ∈ ([] : List Addr) from hb) (by simp), hok, .of_eq hgn⟩
  have hsp : spR K mg false 1 g [.ref a] H (fun v _ => v = .bl true) (fun _ _ _ => False) := by
    refine ⟨rfl, H, [.scr ns], .refl H, ⟨_, _, rfl, ⟨hl, a, rfl, hS⟩, rfl⟩, ?_⟩
    rw [hg]
    exact fun v Hf' H' _ e => e
  refine codeAny_mono ((F _ hM.kin hM.glob).run callerA [] s1 H ⟨[.ref a], []⟩ [.ref a] [.ref a] _ _ rfl hr e0 (hbind s1 (.ref a)) (.cons rfl .nil) hsp) fun r s' h => ?_
  cases r with
  | error e =>
    have h' : L2.CX P w [] H s1 (fun _ _ _ => False) e s' := h
    obtain ⟨_, _, _, _, _, _, _, _, _, _, _, _, z⟩ := h'
    exact z.elim
  | ok fl =>
    cases fl with
    | next => exact False.elim h
    | brk => exact False.elim h
    | cont => exact False.elim h
    | ret u =>
      obtain ⟨v, H', os, bare, un, hok', r', q⟩ := h
      have q' : v = .bl true := q
      subst q'
      obtain rfl : u = Value.bool true := r'
      refine ⟨rfl, OldK.of_keep fun b o e => ?_, os, bare⟩
      cases q : H b with
      | none => exact un.keep b o e q (by intro z; exact absurd (show b ∈ ([] : List Addr) from z) (by simp)) (by simp)
      | some u =>
        obtain ⟨ob, xs, rfl⟩ := hf b u q
        have z2 := un.frzs b ob _ q
        obtain ⟨e1, _⟩ := hok b _ q
        obtain ⟨e2, _⟩ := hok' b _ z2
        rw [e] at e1; cases e1
        exact e2
/-- the script that one knows as a list object -/
def scrH (a : Addr) (o : Obj) (xs : List V) : Hp := fun b => if b = a then some (.frz o (.lst xs)) else none
theorem scrH_at {a : Addr} {o : Obj} {xs : List V} : scrH a o xs a = some (.frz o (.lst xs)) := if_pos rfl
theorem scrH_ne {a b : Addr} {o : Obj} {xs : List V} (h : b ≠ a) : scrH a o xs b = none := if_neg h
theorem scrH_inv {a b : Addr} {o : Obj} {xs : List V} {u : HO} (h : scrH a o xs b = some u) : b = a ∧ u = .frz o (.lst xs) := by
  by_cases q : b = a
  · subst q
    rw [scrH_at] at h
    exact ⟨rfl, (Option.some.inj h).symm⟩
  · rw [scrH_ne q] at h
    cases h
theorem law_callG (KX : K.In s1.heap) (hns : s1.heap.Ns mainGlobals mg) (hb : s1.heap.Ns builtinsNs mb) (hbb : ∀ x : Str, x ≠ "__name__" → mb x = bootBuiltins x) (hlim : s1.heap.NoLimit) (hgn : s1.gens = #[])
    (ha : s1.heap.get? a = some { cls := .type "list", data := .seq vs.toArray }) (hi : IntsAre vs ns) (hl : ns.length ≤ sizeLine) (hr : Room k callerA)
    (F : ∀ base : Heap, K.In base → base.Ns mainGlobals mg → FnG P w K mg base k fa fd [x] (spR K mg false 1 g)) (hbind : ∀ (s : Shared) (u : Value), BindsTo s fd ⟨[u], []⟩ [(x, u)]) (hg : g [.scr ns] = .ok (.bl true)) :
    codeAny (model P w) callerA (.call (.ref fa) ⟨[.ref a], []⟩) (fun r s' => r = .ok (.ret (.bool true)) ∧ OldK s1.heap s'.heap ∧ s'.os = s1.os ∧ AllBare s'.gens) s1 := by
  have rv := vals_ints hi
  cases hk : K.lookup a with
  | some o =>
    have e := KX a o hk
    rw [ha] at e
    cases e
    refine call_at (H := fun _ => none) KX hns hb hbb hlim hgn (fun _ _ _ _ _ _ => rfl) (fun _ _ _ => rfl) (fun b u z => nomatch z) (fun b u z => nomatch z) hr F hbind (.inr ⟨_, vs.toArray, _, hk, rfl, rfl, rfl, ?_, by simpa using rv⟩) hl hg
    rw [List.size_toArray, hi.length]
    exact hl
  | none =>
    refine call_at (H := scrH a { cls := .type "list", data := .seq vs.toArray } (ns.map V.int)) KX hns hb hbb hlim hgn (fun b o es ep e d => ?_) (fun b o e => ?_) (fun b u z => ⟨_, _, (scrH_inv z).2⟩) (fun b u z => ?_) hr F hbind (.inl (.inr ⟨_, scrH_at⟩)) hl hg
    · refine scrH_ne fun q => ?_
      subst q
      rw [ha] at e; cases e
      have d' : Data.seq vs.toArray _ = Data.dict es ep := d
      cases d'
    · refine scrH_ne fun q => ?_
      subst q
      rw [hk] at e; cases e
    · obtain ⟨rfl, rfl⟩ := scrH_inv z
      exact ⟨ha, by rw [List.length_map]; exact hl, vs, _, rv, ha⟩
end
/-- the goal that k_head leaves, from the law's promise -/
theorem walk_g {l : PySem.W.OpenLaw} {n k : Nat} {q : Program} {loose : List Str} {XP : (Str → Option Value) → Heap → Prop} {YP : World → Heap → Prop} {d : DefRec} {K : Params → PySem.W.Frag} {x : Str} {g : List D → R D}
    (hn : l.most = some n) (hn2 : n ≤ sizeLine) (hdf : d.params.defaults = []) (hr : Room k callerA) (hY : ∀ (w : World) (h : Heap), YP w h → (K w.params).In h)
    (F : ∀ (w : World) (mg : Str → Option Value) (fa : Addr) (h : Heap), (K w.params).In h → h.Ns mainGlobals mg → mg d.name = some (.ref fa) →
      ∃ fd : FuncData, (∀ (s : Shared) (u : Value), BindsTo s fd ⟨[u], []⟩ [(x, u)]) ∧ ∀ base : Heap, (K w.params).In base → base.Ns mainGlobals mg → FnG l.prog w (K w.params) mg base k fa fd [x] (spR (K w.params) mg false 1 g))
    (hg : ∀ ns : List Int, ns.length ≤ n → g [.scr ns] = .ok (.bl true)) :
    PySem.W.WalkO q loose XP YP l.row.toRowW d [] (fun f vs => PySem.call f vs) := by
  refine Att.attach_call hn hdf fun w s0 s1 mg mb fa o pm cd doc a vs ns G Y ho hd hcd hmg hobj hints hlen hgn => ?_
  have KX := hY w _ Y
  obtain ⟨fd, hb, hF⟩ := F w mg fa _ KX G.T.g hmg
  exact law_callG KX G.T.g G.T.b G.T.builtins G.T.nolimit hgn hobj hints (Nat.le_trans hlen hn2) hr hF hb (hg ns hlen)
end DL
namespace DL
open PySem L2
section
variable {X : Cx} {tg l : Expr} {tl : TE}
section
variable {X : Cx} {tg l : Expr} {tl : TE}
/-- a list, a tuple or a text is walked -/
theorem iter_any {pins : List (Addr × Obj)} {σ : L2.St} {H1 : Hp} {s1 : Shared} {R : It → Hp → Prop} {x : V} {v : Value} (I : L2.Inv X pins σ H1 s1) (rel : RelV x v)
    (h : (∃ z : Str, x = .str z ∧ R (Its z) H1) ∨ ∃ a, x = .ref a ∧ (((∃ xs, SqL X.K H1 a xs) ∧ R (Itl X.K a) H1) ∨ ((∃ xs, SqT X.K H1 a xs) ∧ R (Itt X.K a) H1))) :
    wpAny (model X.prog X.w) X.A (pyIter v) (PIE X pins σ tg R) X.xe s1 := by
  rcases h with ⟨z, rfl, q⟩ | ⟨a, rfl, q⟩
  · obtain ⟨t, rfl⟩ := rel
    by_cases narrow : z.cps.all (· < 128) = true
    · exact wpAny_pyIter_ascii narrow (pi_one (tk := s1.toks) I _ (turn_str _ z t "str_ascii_iterator" (.inl rfl)) ⟨_, Heap.get?_push_size _ rfl, rfl, rfl⟩ q)
    · exact wpAny_pyIter_wide (Bool.eq_false_iff.mpr narrow) (pi_one (tk := s1.toks) I _ (turn_str _ z t "str_iterator" (.inr rfl)) ⟨_, Heap.get?_push_size _ rfl, rfl, rfl⟩ q)
  · cases rel
    exact iter_sq I q
theorem pi_any (hl : PE X l tl) : PI X tg l (fun σ H R => tl σ H fun x H1 => (∃ z : Str, x = .str z ∧ R (Its z) H1) ∨ ∃ a, x = .ref a ∧ (((∃ xs, SqL X.K H1 a xs) ∧ R (Itl X.K a) H1) ∨ ((∃ xs, SqT X.K H1 a xs) ∧ R (Itt X.K a) H1))) where
  run pins s σ H R I h := wpAny_mono (hl.run pins s σ H _ I h) (fun v s1 ⟨x, H1, I1, rel, q⟩ => iter_any I1 rel q) fun _ _ z => z
end
end
section
variable {X : Cx} {fx : Fx} {m : Type → Type} [Mo m] {G : List Sl} {tg l c a b : Expr} {x y : m D} {t : m Bool} {pos : Pos} {kk : Nat}
def itD : D → Option (List D)
  | .lst ds => some ds
  | .tup ds => some ds
  | .str s => some (chrs s)
  | .scr is => some (is.map .int)
  | _ => none
theorem yl_scr {K : PySem.W.Frag} {mg : Str → Option Value} {Hf : Hp} {is : List Int} {a : Addr} (hz : is.length ≤ sizeLine) (h : SqL K Hf a (is.map V.int)) : Yl K mg (Itl K a) Hf (is.map .int) := ⟨by simpa using hz, fun Hf2 H s1 s2 i => by
  have hq : SqL K H a (is.map V.int) := s2.sql (s1.sql h)
  have l : IsL K mg Hf (is.map .int) (is.map V.int) := isL_ints is
  refine ⟨fun d hd => ?_, fun hl => ⟨_, hq, by rw [← l.len]; exact hl⟩⟩
  obtain ⟨v, hv, iv⟩ := l.get hd
  exact ⟨⟨_, v, hq, hv⟩, fun x H' ⟨e, f⟩ => by
    subst e
    have := f _ hq
    rw [hv] at this
    cases this
    exact ⟨Hf2, .refl s2, iv.mono s1⟩⟩⟩
theorem di_any (h : PE X l (tE X.K X.mg fx G x)) : PI X tg l (tI X.K X.mg fx G (do let d ← x; ask (itD d))) := piI (pi_any h) fun σ H Q ⟨Hf, s, h⟩ =>
  (h.bind.mono fun v H1 ⟨d, Hf1, s1, sb, r, h1⟩ => by
    obtain ⟨ds, e, q⟩ := h1.ask
    cases d with
    | lst es =>
      cases e
      obtain ⟨hz, a, vs, rfl, t, il⟩ := r
      exact .inr ⟨a, rfl, .inl ⟨⟨vs, .inl (.inl (h1.1.top _ _ t))⟩, q _ Hf1 H1 (.refl h1.1.top) (yl_list hz t il)⟩⟩
    | tup es =>
      cases e
      obtain ⟨hz, a, vs, rfl, t, il⟩ := r
      exact .inr ⟨a, rfl, .inr ⟨⟨vs, h1.1.top.sqt t⟩, q _ Hf1 H1 (.refl h1.1.top) (yl_tup hz t il)⟩⟩
    | str z =>
      cases e
      exact .inl ⟨_, r.1, q _ Hf1 H1 (.refl h1.1.top) (yl_str z r.2)⟩
    | scr is =>
      cases e
      obtain ⟨hz, a, rfl, t⟩ := r
      exact .inr ⟨a, rfl, .inl ⟨⟨_, h1.1.top.sql t⟩, q _ Hf1 H1 (.refl h1.1.top) (yl_scr hz t)⟩⟩
    | _ => cases e).to
/-! ### an own list, read -/
mutual
/-- data that no change of a list reaches -/
def imm : D → Bool
  | .non => true
  | .bl _ => true
  | .int _ => true
  | .str _ => true
  | .tup ds => immL ds
  | .ins _ _ ds => immL ds
  | _ => false
def immL : List D → Bool
  | [] => true
  | d :: ds => imm d && immL ds
end
def flatD (d : D) : Option D := if imm d = true then some d else none
section
variable {K : PySem.W.Frag} {mg : Str → Option Value} {H H' : Hp}
theorem Rd.off {a : Addr} {u : HO} (hh : ∀ a, H' a = H a ∨ ∃ vs, H a = some (.lst vs)) (h : Rd H a u) (hu : ∀ vs, u ≠ .lst vs) : Rd H' a u := by
  rcases h with h | ⟨o, h⟩
  · rcases hh a with e | ⟨vs, e⟩
    · exact .inl (e.trans h)
    · rw [h] at e; cases e; exact absurd rfl (hu vs)
  · rcases hh a with e | ⟨vs, e⟩
    · exact .inr ⟨o, e.trans h⟩
    · rw [h] at e; cases e
mutual
theorem Is.off (hh : ∀ a, H' a = H a ∨ ∃ vs, H a = some (.lst vs)) : ∀ {d : D} {v : V}, imm d = true → Is K mg H d v → Is K mg H' d v
  | .non, _, _, h => h
  | .bl _, _, _, h => h
  | .int _, _, _, h => h
  | .str _, _, _, h => h
  | .tup ds, _, m, h => by
    obtain ⟨z, a, vs, e, t, l⟩ := h
    refine ⟨z, a, vs, e, ?_, IsL.off hh (ds := ds) (by simpa [imm] using m) l⟩
    rcases t with t | t
    · exact .inl (Rd.off hh t fun vs z => by cases z)
    · exact .inr t
  | .ins c ns ds, _, m, h => by
    obtain ⟨a, C, dx, vs, e, q, t, n, l⟩ := h
    refine ⟨a, C, dx, vs, e, q, ?_, n, IsL.off hh (ds := ds) (by simpa [imm] using m) l⟩
    rcases hh a with z | ⟨us, z⟩
    · exact z.trans t
    · rw [t] at z; cases z
  | .lst _, _, m, _ => by simp [imm] at m
  | .dic _ _, _, m, _ => by simp [imm] at m
  | .scr _, _, m, _ => by simp [imm] at m
  | .xc _ _ _ _, _, m, _ => by simp [imm] at m
theorem IsL.off (hh : ∀ a, H' a = H a ∨ ∃ vs, H a = some (.lst vs)) : ∀ {ds : List D} {vs : List V}, immL ds = true → IsL K mg H ds vs → IsL K mg H' ds vs
  | [], _, _, h => h
  | d :: ds, vs, m, h => by
    have m' : imm d = true ∧ immL ds = true := by simpa [immL] using m
    obtain ⟨v, r, e, i, l⟩ := h
    exact ⟨v, r, e, Is.off hh m'.1 i, IsL.off hh m'.2 l⟩
end
end
open Classical in
/-- the frozen heap without the lists that it has gained -/
noncomputable def offH (Hf Hf2 : Hp) : Hp := fun a => if ∃ vs, Hf2 a = some (.lst vs) then Hf a else Hf2 a
theorem offH_or {Hf Hf2 : Hp} (a : Addr) : offH Hf Hf2 a = Hf2 a ∨ ∃ vs, Hf2 a = some (.lst vs) := by
  by_cases c : ∃ vs, Hf2 a = some (.lst vs)
  · exact .inr c
  · exact .inl (if_neg c)
theorem Ste.off {bag : List Addr} {Hf Hf1 H Hf2 H2 : Hp} (sb : Sub Hf Hf1) (nw : ∀ a o, Hf1 a = some o → Hf a = some o ∨ ∃ vs, o = .lst vs) (e : Ste bag Hf1 H Hf2 H2) : Ste bag Hf H (offH Hf Hf2) H2 := by
  have s2 : Sub Hf Hf2 := sb.trans e.sub
  refine ⟨fun a o z => ?_, fun a o z => ?_, e.keep, e.dom, fun a o z => ?_⟩
  · unfold offH
    by_cases c : ∃ vs, Hf2 a = some (.lst vs)
    · rw [if_pos c]; exact z
    · rw [if_neg c]; exact s2 a o z
  · unfold offH at z
    by_cases c : ∃ vs, Hf2 a = some (.lst vs)
    · rw [if_pos c] at z; exact e.top a o (s2 a o z)
    · rw [if_neg c] at z; exact e.top a o z
  · unfold offH at z
    by_cases c : ∃ vs, Hf2 a = some (.lst vs)
    · rw [if_pos c] at z; exact .inl z
    · rw [if_neg c] at z
      rcases e.fresh a o z with h | h
      · rcases nw a o h with h | ⟨vs, h⟩
        · exact .inl h
        · exact absurd ⟨vs, h ▸ z⟩ c
      · exact .inr h
theorem de_thaw {e : Expr} {ds : List D} (i : Nat) (h : PE X e (tE X.K X.mg fx (G.set i (.im (.lst ds))) x)) (hG : G[i]? = some (.ow ds) := by rfl) : PE X e (tE X.K X.mg fx G (do let d ← Mo.noex x; ask (flatD d))) := peI h fun σ H Q ⟨Hf, s, st, w⟩ => by
  obtain ⟨Hf', sb, nw, st'⟩ := st.freeze2 hG
  refine ⟨Hf', s, st', Mo.wp_mono (Mo.wp_noex (Mo.wp_bind w)) (fun a s' k b Hf2 H2 e bg r => ?_) fun _ _ f => f.elim⟩
  have k' := Mo.wp_lift k
  unfold flatD at k'
  by_cases q : imm a = true
  · rw [if_pos q] at k'
    exact k' b (offH Hf Hf2) H2 (e.off sb nw) bg (r.off offH_or q)
  · rw [if_neg q] at k'; exact k'.elim
end
/-! ### a, b = x, y -/
section
variable {X : Cx} {fx : Fx} {m : Type → Type} [Mo m] {G : List Sl} {α β : Type} {kk : Nat} {a b : Expr} {rest : List Stmt} {ex : α → List Sl} {exb : β → List Sl} {pos px py pt pt2 : Pos} {n1 n2 : Str} {kt k2 : Nat}
theorem dss_parFF {x y : m (List D)} {k : List D → List D → m (Fl α β)} (C : Cok X fx kk) (i j : Nat) (ha : PE X a (tF X.K X.mg fx G x)) (hb : PE X b (tF X.K X.mg fx G y)) (hr : ∀ ds es, PSs X rest (tS X.K X.mg fx ((G.set i (.ow ds)).set j (.ow es)) ex exb (k ds es)))
    (hij : i ≠ j := by decide) (hi : X.N[i]? = some n1 := by rfl) (hj : X.N[j]? = some n2 := by rfl) (hx : X.env.scope.names.lookup n1 = some .local := by rfl) (hy : X.env.scope.names.lookup n2 = some .local := by rfl)
    (hw : swappedStores [.Tuple [.Name n1 px, .Name n2 py] kt pt] (.Tuple [a, b] k2 pt2) X.env = pure (some [n1, n2]) := by rfl)
    (hs : swapsWithSole [.Tuple [.Name n1 px, .Name n2 py] kt pt] (.Tuple [a, b] k2 pt2) pos.line X.env = pure false := by rfl)
    (hsa : starEach [a, b] X.env = (false, eval a X.env) :: starEach [b] X.env := by rfl) (hsb : starEach [b] X.env = (false, eval b X.env) :: starEach [] X.env := by rfl) (hg : GxOk fx G := by first | trivial | repeat' (first | exact True.intro | exact Or.inl rfl | exact Or.inr rfl | refine And.intro ?_ ?_)) :
    PSs X (.Assign [.Tuple [.Name n1 px, .Name n2 py] kt pt] (.Tuple [a, b] k2 pt2) pos :: rest) (tS X.K X.mg fx G ex exb (do let ds ← x; let es ← y; k ds es)) :=
  pssI (pss_cons (ps_par C.calm C.nd hi hj hij hx hy (pa_cons ha (pa_cons hb pa_nil hsb) hsa) hw hs) (pss_ex (ι := List D × List D) fun r => hr r.1 r.2)) fun D σ H ⟨Hf, s, h⟩ =>
  ⟨Hf, s, h.1, Mo.wp_mono (Mo.wp_bind h.2) (fun ds s1 w p vs Hf1 H1 e bg hp hf1 hn l hz => by
    have st1 := h.1.step e bg
    have n0 := h.1.new0 hn
    refine ⟨Hf1, s1, st1, Mo.wp_mono (Mo.wp_bind w) (fun es s2 w2 p2 vs2 Hf2 H2 e2 bg2 hp2 hf2 hn2 l2 hz2 => ?_) fun e s' k => exs_ex hg k⟩
    have st2 := st1.step e2 bg2
    have n2 := st1.new0 hn2
    have hpp : H2 p = some (.lst vs) := e2.keep _ _ hp n0.2.1
    have hff : Hf2 p = none := e2.stayNone hf1 (by rw [hp]; simp)
    have ne : p ≠ p2 := fun z => by rw [z, hn2] at hp; cases hp
    have st3 := st2.setOw (i := i) (fun j q e1 x ex ox z => h.1.owNe hn j q e1 x ex ox z) hpp hff n0.1 n0.2.1 (l.mono e2.sub) hz
    refine ⟨.ref p, .ref p2, rfl, (ds, es), Hf2, s2, st3.setOw (i := j) (fun j' q e1 x ex ox z => ?_) hp2 hf2 n2.1 n2.2.1 l2 hz2, Mo.wp_mono w2 (fun f s2 h2 => h2.up (e.sub.trans e2.sub)) fun e s' k => k⟩
    by_cases c : i = j'
    · subst c
      have hi' : i < σ.length := by
        have := (List.getElem?_eq_some_iff.mp ex).1
        rw [h.1.len]
        simpa using this
      rw [List.getElem?_set_self hi'] at e1
      cases e1
      exact ne z
    · rw [List.getElem?_set_ne c] at e1 ex
      exact st1.owNe hn2 j' q e1 x ex ox z) fun e s' k => exs_ex hg k⟩
theorem dss_parEE {x y : m D} {k : D → D → m (Fl α β)} (C : Cok X fx kk) (i j : Nat) (ha : PE X a (tE X.K X.mg fx G x)) (hb : PE X b (tE X.K X.mg fx G y)) (hr : ∀ d e, PSs X rest (tS X.K X.mg fx ((G.set i (.im d)).set j (.im e)) ex exb (k d e)))
    (hij : i ≠ j := by decide) (hi : X.N[i]? = some n1 := by rfl) (hj : X.N[j]? = some n2 := by rfl) (hx : X.env.scope.names.lookup n1 = some .local := by rfl) (hy : X.env.scope.names.lookup n2 = some .local := by rfl)
    (hw : swappedStores [.Tuple [.Name n1 px, .Name n2 py] kt pt] (.Tuple [a, b] k2 pt2) X.env = pure (some [n1, n2]) := by rfl)
    (hs : swapsWithSole [.Tuple [.Name n1 px, .Name n2 py] kt pt] (.Tuple [a, b] k2 pt2) pos.line X.env = pure false := by rfl)
    (hsa : starEach [a, b] X.env = (false, eval a X.env) :: starEach [b] X.env := by rfl) (hsb : starEach [b] X.env = (false, eval b X.env) :: starEach [] X.env := by rfl) (hg : GxOk fx G := by first | trivial | repeat' (first | exact True.intro | exact Or.inl rfl | exact Or.inr rfl | refine And.intro ?_ ?_)) :
    PSs X (.Assign [.Tuple [.Name n1 px, .Name n2 py] kt pt] (.Tuple [a, b] k2 pt2) pos :: rest) (tS X.K X.mg fx G ex exb (do let d ← x; let e ← y; k d e)) :=
  pssI (pss_cons (ps_par C.calm C.nd hi hj hij hx hy (pa_cons ha (pa_cons hb pa_nil hsb) hsa) hw hs) (pss_ex (ι := D × D) fun r => hr r.1 r.2)) fun De σ H ⟨Hf, s, h⟩ =>
    ((h.bind hg).mono fun v H1 ⟨d, Hf1, s1, sb, r, h1⟩ => ((h1.bind hg).mono fun v2 H2 ⟨e, Hf2, s2, sb2, r2, h2⟩ => ⟨v, v2, rfl, (d, e), Hf2, s2, (h2.1.set (r.mono sb2)).set r2, h2.2⟩).to).to
end
end DL
namespace DL
open PySem L2
theorem hu65 {k : Nat} {A : Around} (r : Room k A) : A.units + 65 < cLine := by have := r.un; omega
/-- a global constant is a datum -/
def GlobIs (K : PySem.W.Frag) (mg : Str → Option Value) (n : Str) (d : D) : Prop := ∃ u v, mg n = some u ∧ RelV v u ∧ Is K mg (fun _ => none) d v
theorem de_globI {X : Cx} {fx : Fx} {m : Type → Type} [Mo m] {G : List Sl} {n : Str} {d : D} {pos : Pos} (hg : Gl X n) (h : GlobIs X.K X.mg n d) (hd : (n == ("__debug__" : Str)) = false := by decide) : PE X (.Name n pos) (tE X.K X.mg fx G (pure d : m D)) := by
  obtain ⟨u, v, hm, r, i⟩ := h
  exact de_glob hg hm r i hd
theorem globS {K : PySem.W.Frag} {mg : Str → Option Value} {n : Str} {t : Str} {tk : Tok} {l : List Nat} (h : mg n = some (.str t tk)) (ht : t = ⟨l.toArray⟩) (hl : l.length ≤ 1000) : GlobIs K mg n (.str l) :=
  ⟨_, .str t, h, ⟨tk, rfl⟩, by rw [Is]; exact ⟨by rw [ht], Nat.le_of_lt (small1000 hl)⟩⟩
theorem globI {K : PySem.W.Frag} {mg : Str → Option Value} {n : Str} {i : Int} {tk : Tok} (h : mg n = some (.int i tk)) : GlobIs K mg n (.int i) := ⟨_, .int i, h, ⟨tk, rfl⟩, is_int _⟩
section
variable {X : Cx}
def powC : D → D → Option D
  | .int i, .int j => if 0 ≤ j ∧ j ≤ 100 ∧ i.natAbs < 2 ^ 64 then some (.int (i ^ j.toNat)) else none
  | _, _ => none
theorem od_powC : OpR X (binaryOp .Pow) (rD2 X.K X.mg powC) := by
  intro pins s σ H x y v u Q I rx ry h
  obtain ⟨Hf, dx, dy, d, sb, ix, iy, e, q⟩ := h
  unfold powC at e
  split at e
  · split at e
    · rename_i hc
      cases e; cases ix; cases iy
      exact op_pow pins s σ H _ _ v u Q I rx ry ⟨_, _, rfl, rfl, ⟨hc.1, by omega, hc.2.2⟩, q _ Hf H (.refl sb) (is_int _)⟩
    · cases e
  · cases e
end
/-! arguments -/
def apR1 (f : D → R D) : List D → R D
  | [a] => f a
  | _ => .stuck
def apR2 (f : D → D → R D) : List D → R D
  | [a, b] => f a b
  | _ => .stuck
def apR3 (f : D → D → D → R D) : List D → R D
  | [a, b, c] => f a b c
  | _ => .stuck
def apM0 (f : M D) : List D → M D
  | [] => f
  | _ => fun _ => .stuck
def apM1 (f : D → M D) : List D → M D
  | [a] => f a
  | _ => fun _ => .stuck
def apM2 (f : D → D → M D) : List D → M D
  | [a, b] => f a b
  | _ => fun _ => .stuck
theorem apR1_len (f) : ∀ ds : List D, apR1 f ds ≠ .stuck → ds.length = 1 := fun ds h => by
  unfold apR1 at h
  split at h <;> first | rfl | exact absurd rfl h
theorem apR2_len (f) : ∀ ds : List D, apR2 f ds ≠ .stuck → ds.length = 2 := fun ds h => by
  unfold apR2 at h
  split at h <;> first | rfl | exact absurd rfl h
theorem apR3_len (f) : ∀ ds : List D, apR3 f ds ≠ .stuck → ds.length = 3 := fun ds h => by
  unfold apR3 at h
  split at h <;> first | rfl | exact absurd rfl h
theorem apM0_len (f) : ∀ (ds : List D) s, apM0 f ds s ≠ .stuck → ds.length = 0 := fun ds s h => by
  rcases ds with _ | ⟨a, ds⟩
  · rfl
  · exact absurd rfl h
theorem apM1_len (f) : ∀ (ds : List D) s, apM1 f ds s ≠ .stuck → ds.length = 1 := fun ds s h => by
  rcases ds with _ | ⟨a, ds⟩
  · exact absurd rfl h
  · rcases ds with _ | ⟨_, ds⟩
    · rfl
    · exact absurd rfl h
theorem apM2_len (f) : ∀ (ds : List D) s, apM2 f ds s ≠ .stuck → ds.length = 2 := fun ds s h => by
  rcases ds with _ | ⟨a, ds⟩
  · exact absurd rfl h
  · rcases ds with _ | ⟨_, ds⟩
    · exact absurd rfl h
    · rcases ds with _ | ⟨_, ds⟩
      · rfl
      · exact absurd rfl h
end DL
namespace PySem
namespace OwnX
open PySem.W PySem.Calls PyProof.Rows PySem.HandSPX
/-! ### the text of __init__ -/
def iA (f : Str) (p1 p2 : Pos) : Arguments := { posonlyargs := [], args := [{ arg := "self", annotation := none, pos := p1 }, { arg := f, annotation := none, pos := p2 }], vararg := none, kwonlyargs := [], kw_defaults := [], kwarg := none, defaults := [] }
def iB (f : Str) (q1 q2 q3 q4 : Pos) : List Stmt := [.Assign [.Attribute (.Name "self" q1) f q2] (.Name f q3) q4]
def iS (f : Str) : Scope := { kind := .function, names := [(PySem.Str.ofString "self", .local), (f, .local)], isGenerator := false, isCoroutine := false, more := [] }
theorem lookup_s (f : Str) : (iS f).names.lookup ("self" : Str) = some .local := by
  show List.lookup ("self" : Str) [(PySem.Str.ofString "self", NameKind.local), (f, .local)] = _
  simp [List.lookup]
theorem lookup_f {f : Str} (h : (f == ("self" : Str)) = false) : (iS f).names.lookup f = some .local := by
  have h' : (f == PySem.Str.ofString "self") = false := h
  show List.lookup f [(PySem.Str.ofString "self", NameKind.local), (f, .local)] = _
  simp [List.lookup, h']
theorem kinds2 {f : Str} (h : (f == ("self" : Str)) = false) {u v : Value} : ([(("self" : Str), u), (f, v)].all fun y => (iS f).names.lookup y.1 == some .local || (iS f).names.lookup y.1 == some .cell) = true := by
  simp only [List.all_cons, List.all_nil, lookup_s, lookup_f h]
  rfl
theorem kind_f {f : Str} (h : (f == ("self" : Str)) = false) {name : Str} {L a : Addr} {cd : Value} : (envOfC name (iS f) L a cd).kindOf f = some .local := lookup_f h
theorem kind_s {f : Str} {name : Str} {L a : Addr} {cd : Value} : (envOfC name (iS f) L a cd).kindOf ("self" : Str) = some .local := lookup_s f
theorem binds2_f {f : Str} (h : (f == ("self" : Str)) = false) {name : Str} {L a : Addr} {cd u v : Value} : bindL (envOfC name (iS f) L a cd).kindOf [(("self" : Str), u), (f, v)] (fun _ => none) f = some v := by
  simp [bindL, kind_f h, kind_s]
theorem binds2_s {f : Str} (h : (f == ("self" : Str)) = false) {name : Str} {L a : Addr} {cd u v : Value} : bindL (envOfC name (iS f) L a cd).kindOf [(("self" : Str), u), (f, v)] (fun _ => none) ("self" : Str) = some u := by
  have hne : ¬ (("self" : Str) = f) := fun z => by rw [← z] at h; simp at h
  simp [bindL, kind_f h, kind_s, hne]
/-- what the written part says of Low, at C, and of its __init__, at fI -/
structure OwnTxt (K : Frag) (mg : Str → Option Value) (cn f qn : Str) (C fI : Addr) : Prop where
  fs : (f == ("self" : Str)) = false
  fb : (f == ("__debug__" : Str)) = false
  bind : ∀ (doc pm : Value) (an : Option Addr) (cdv ct u v : Value) (p1 p2 q1 q2 q3 q4 : Pos), bindArgs (fnOf "__init__" qn (iA f p1 p2) (iB f q1 q2 q3 q4) (iS f) .none .none doc pm an cdv ct) ⟨[u, v], []⟩ = pure [(("self" : Str), u), (f, v)]
  gC : mg cn = some (.ref C)
  cls : ∃ nm q N bs bm sn sub ab col dd k0 k1 k2 k3 k5, K.lookup C = some (excClassObj nm q C N bs bm true sn sub ab col dd k0 k1 k2 k3 k5 "ValueError.__new__") ∧ refsVE bm = true
  sa : findIn K (.ref C) "__setattr__" = some (some (.builtin "object.__setattr__"))
  ga : findIn K (.ref C) "__getattribute__" = some (some (.builtin "BaseException.__getattribute__"))
  gg : findIn K (.ref C) "__getattr__" = some none
  noN : findIn K (.ref C) f = some none
  iC : findIn K (.ref C) "__init__" = some (some (.ref fI))
  tC : typeIn K (.ref fI) = some (.type "function")
  kC : keepIn K (.ref C) = true
  exC : subIn K (.ref C) (.type "BaseException") = some true
  tyC : typeIn K (.ref C) = some (.type "type")
  hdC : hasDictIn K C = true
  te : exmOne K (.ref C) (.ref C) = some true
  fn : ∃ (oc : Value) (od : Option Addr) (doc pm : Value) (an : Option Addr) (cdv ct : Value) (osl : Array (Option Value)) (p1 p2 q1 q2 q3 q4 : Pos),
    K.lookup fI = some ⟨oc, od, .func (fnOf "__init__" qn (iA f p1 p2) (iB f q1 q2 q3 q4) (iS f) .none .none doc pm an cdv ct), osl⟩ ∧ codeIn K cdv qn = true
theorem one_size (v : Value) : [v].length ≤ sizeLine := by
  rw [sizeLine_eq]
  exact (by decide : 1 ≤ 16777216)
theorem ldC {M : Model} {s : Shared} {name : Str} {scope : Scope} {L a : Addr} {cd : Value} {m : Str → Option Value} {x : Str} {pos : Pos} {v : Value} {Q : Value → Shared → Prop} {A : Around} {E : Value → Shared → Prop} (hn : s.heap.Ns L m) (hv : m x = some v) (h : Q v s)
    (hk : scope.kind = .function := by rfl) (hl : (envOfC name scope L a cd).kindOf x = some .local := by rfl) (hd : (x == ("__debug__" : Str)) = false := by decide) :
    wpAny M A (eval (.Name x pos) (envOfC name scope L a cd)) Q E s := wpAny_Name (wpAny_loadName_local hk hl hn hv h) hd
/-- what __init__ leaves of a fresh exception at x -/
structure InitEnd (f : Str) (h h' : Heap) (x C dx t1 : Addr) (v : Value) : Prop where
  keep : ∀ b o, b ≠ x → h.get? b = some o → h'.get? b = some o
  obj : h'.get? x = some { cls := .ref C, dict := some dx, data := .fields #[.ref t1, .none, .none, .none, .bool false, .none] }
  dbig : h.objs.size ≤ dx
  dne : dx ≠ x
  ns : h'.Ns1 dx (fun y => if y = f then some v else none)
/-- a made Low -/
structure OwnMade (f : Str) (h h' : Heap) (e C d : Addr) (v : Value) : Prop where
  keep : ∀ b o, h.get? b = some o → h'.get? b = some o
  new : h.objs.size ≤ e
  obj : ∃ oe vs, h'.get? e = some oe ∧ oe.cls = .ref C ∧ oe.dict = some d ∧ oe.data = .fields vs ∧ vs[1]? = some .none
  dbig : h.objs.size ≤ d
  dne : d ≠ e
  ns : h'.Ns1 d (fun y => if y = f then some v else none)
section
variable {prog : Program} {w : World} {A : Around} {E : Value → Shared → Prop} {R : Result → Shared → Prop} {s : Shared} {K : Frag} {mg : Str → Option Value} {cn f qn : Str} {C fI : Addr}
theorem low_init (T : OwnTxt K mg cn f qn C fI) {x t0 : Addr} {v : Value} (X : K.In s.heap) (hlim : s.heap.NoLimit) (hx : s.heap.get? x = some (excO C t0)) (hnx : K.lookup x = none) (hroom : A.depth < recursionLimit)
    (hq : ∀ h' tk dx, InitEnd f s.heap h' x C dx t0 v → R (.ok (.ret .none)) { s with heap := h', toks := tk }) :
    codeAny (model prog w) A (.call (.ref fI) ⟨[.ref x, v], []⟩) R s := by
  obtain ⟨oc, od, doc, pm, an, cdv, ct, osl, p1, p2, q1, q2, q3, q4, ho, hcd⟩ := T.fn
  obtain ⟨nm, q, N, bs, bm, sn, sub, ab, col, dd, k0, k1, k2, k3, k5, hC, hbm⟩ := T.cls
  have hcl : clsIn K C = some { name := nm, bases := bs, mro := .ref C :: bm, ns := N, qualname := q, hasDict := true, slotNames := sn, subclasses := sub, abstract := ab, collection := col, hasDel := false } := by unfold clsIn; rw [hC] <;> rfl
  refine Att.call_fn (binds := [(("self" : Str), .ref x), (f, v)]) X hlim ho hcd hroom (BindsTo.of_eq (T.bind ..)) (kinds2 T.fs) (fun s₁ IC => ?_) rfl rfl rfl
  obtain ⟨h₁, tk₁, rfl⟩ := IC.toInCall.same
  have k : ∀ b o, s.heap.get? b = some o → h₁.get? b = some o := IC.toInCall.keep
  have hn := IC.toInCall.ns
  have hxL : s.heap.objs.size ≠ x := Nat.ne_of_gt (Heap.lt_size hx)
  have X₁ : K.In h₁ := X.keeps k
  have hx₁ := k _ _ hx
  -- self.by = by
  show wpAny _ _ (execs _ _) _ _ _
  refine wpAny_execs_cons (plainObj_wpAny_Assign_Attribute ?_)
  refine ldC (v := v) hn (binds2_f T.fs) (ldC (v := .ref x) hn (binds2_s T.fs) ?_) rfl (kind_f T.fs) T.fb
  refine set_plain X₁ (ox := excO C t0) (od := none) ⟨hx₁, rfl, rfl, trivial⟩ T.sa ?_
  refine exc_osa X₁ hx₁ hcl (show refsVE (.ref C :: bm) = true from hbm) rfl T.noN (fun h₃ tk₃ dx k₃ dn dne hx₃ hn₃ => ?_)
  show wpAny _ _ (execs _ _) _ _ _
  have z : s.heap.objs.size < h₁.objs.size := hn.lt
  exact wpAny_execs_nil (hq h₃ tk₃ dx ⟨fun b o hb e => k₃ b o hb (k b o e), hx₃, Nat.le_of_lt (Nat.lt_of_lt_of_le z dn), dne, hn₃⟩)
theorem low_made (T : OwnTxt K mg cn f qn C fI) {v : Value} (X : K.In s.heap) (hlim : s.heap.NoLimit) (hroom : A.depth + 1 < recursionLimit)
    (hq : ∀ h' tk e d, OwnMade f s.heap h' e C d v → R (.ok (.ret (.ref e))) { s with heap := h', toks := tk }) :
    codeAny (model prog w) A (.call (.ref C) ⟨[v], []⟩) R s := by
  obtain ⟨nm, q, N, bs, bm, sn, sub, ab, col, dd, k0, k1, k2, k3, k5, hC, hbm⟩ := T.cls
  obtain ⟨hp, g, dr, tk, os⟩ := s
  have k : ∀ b o, hp.get? b = some o → ((hp.push (kdv_tup [v])).push (excO C hp.objs.size)).get? b = some o := fun b o e => Heap.get?_push_of_some _ (Heap.get?_push_of_some _ e)
  have hget : ((hp.push (kdv_tup [v])).push (excO C hp.objs.size)).get? (hp.objs.size + 1) = some (excO C hp.objs.size) := by heap_get
  have hnx : K.lookup (hp.objs.size + 1) = none := by
    cases e : K.lookup (hp.objs.size + 1) with
    | none => rfl
    | some o =>
      have z : hp.get? (hp.objs.size + 1) = some o := X _ _ e
      exact absurd (Nat.lt_of_succ_lt (Heap.lt_size z)) (Nat.lt_irrefl _)
  refine call_own F.excBase_ValueError (fun X => refsVE_contains X bm hbm) (X _ _ hC) (looks_findIn X T.iC) (fun self => bind_fn X self T.tC) (one_size v) ?_
  refine low_init (s := ⟨(hp.push (kdv_tup [v])).push (excO C hp.objs.size), g, dr, tk, os⟩) T (X.keeps k) (hlim.keeps k) hget hnx ?_ fun h' tk' dx ⟨k', hx, dn, dne, hns⟩ => ?_
  · show A.depth + 1 < recursionLimit
    exact hroom
  · have old : ∀ b o, hp.get? b = some o → h'.get? b = some o := fun b o e => k' b o (Nat.ne_of_lt (Nat.lt_succ_of_lt (Heap.lt_size e))) (k b o e)
    have z : hp.objs.size + 1 + 1 ≤ dx := by
      first
        | (simpa only [Heap.size_push] using dn)
        | exact dn
        | (have q := dn; rw [Heap.size_push, Heap.size_push] at q; exact q)
    exact ⟨rfl, hq h' tk' (hp.objs.size + 1) dx ⟨old, Nat.le_succ _, ⟨_, _, hx, rfl, rfl, rfl, rfl⟩, Nat.le_trans (Nat.le_trans (Nat.le_succ _) (Nat.le_succ _)) z, dne, hns⟩⟩
end
end OwnX
end PySem
namespace L2
open PySem PySem.Spec PyProof.Rows
theorem relO_low {v : V} {v' : Value} (r : RelV v v') (g f : Str) : RelO (List.lookup f [(g, v)]) (if f = g then some v' else none) := by
  by_cases hw : f = g
  · subst hw
    rw [if_pos rfl]
    have q : List.lookup f [(f, v)] = some v := by simp [List.lookup]
    rw [q]
    exact r
  · rw [if_neg hw]
    have qw : (f == g) = false := by simpa using hw
    have q2 : List.lookup f [(g, v)] = none := by simp [List.lookup, qw]
    rw [q2]
    trivial
section
variable {X : Cx} {cn f qn : Str} {C fI : Addr}
/-- Low(e) -/
def tMkLow (f : Str) (C : Addr) (ta : TA) : St → Hp → XK → Prop := fun σ H Q => ta σ H fun vs H1 => ∃ v, vs = [v] ∧ ∀ d, H1 d = none → Q (.ref C) (some d) (upd H1 d (.xd [(f, v)]))
theorem pmk_low {a : Expr} {ta : TA} {p pos : Pos} {k : Nat} (T : PySem.OwnX.OwnTxt X.K X.mg cn f qn C fI) (hr : Room k X.A) (ha : PA X [a] ta) (hdb : (cn == ("__debug__" : Str)) = false := by decide) (hg : Gl X cn := by rfl)
    (he : starEach (a :: []) X.env = (false, eval a X.env) :: starEach [] X.env := by rfl) (hpl : (backTo pos (starEach [] X.env)).any (·.1) = false := by rfl) :
    PMk X (.Call (.Name cn p) [a] [] pos) (tMkLow f C ta) := by
  intro pins s σ H Q I h
  refine wpAny_Call_Name_kw (ld_glob I hg T.gC ?_ (hd := hdb))
  refine PySem.W.callWith_K (h₀ := X.base) I.ok.mod.kin T.kC (thn (ha.run pos pins s σ H _ I h) fun us s1 hh => ?_) he hpl
  obtain ⟨vs, H1, I1, r1, v, ev, q1⟩ := hh
  subst ev
  refine ⟨I1.kIn, ?_⟩
  cases r1 with
  | cons rv rn =>
    rename_i v' us'
    cases rn
    show wpAny _ _ (call (.ref C) [v']) _ _ _
    have hlim := I1.nolimit
    obtain ⟨hp, g, dr, tk, os⟩ := s1
    refine wpAny_call (PySem.OwnX.low_made T I1.kIn hlim (by have := hr.dp; omega) fun h' tk' e d M => ?_)
    show MkP X pins σ Q (.ref e) ⟨h', g, dr, tk', os⟩
    obtain ⟨oe, fv, hoe, hc, hd, hdat, h1⟩ := M.obj
    have hns := M.ns
    obtain ⟨G', g1, g2⟩ := restrict h' fun b => decide (b ≠ e)
    have gk : ∀ b, b ≠ e → G'.get? b = h'.get? b := fun b hb => g1 b (decide_eq_true hb)
    have ge : G'.get? e = none := g2 e (by simp)
    have old : ∀ b o, hp.get? b = some o → G'.get? b = some o := fun b o q => (gk b (Nat.ne_of_lt (Nat.lt_of_lt_of_le (Heap.lt_size q) M.new))).trans (M.keep b o q)
    have ob : ObjOk X.prog X.w (upd H1 d (.xd [(f, v)])) G' d (.xd [(f, v)]) :=
      ⟨_, hns.at (fun o q => (gk d M.dne).trans q), fun f => relO_low rv _ f⟩
    have J : Inv X pins σ (upd H1 d (.xd [(f, v)])) ⟨G', g, dr, tk', os⟩ := I1.laid (t' := tk') old M.dbig ob
    refine ⟨e, oe, fv, ⟨G', g, dr, tk', os⟩, _, .ref C, some d, rfl, J, fun b o q => ?_, ge, hoe, ⟨hc, hd⟩, hdat, h1, ?_, rfl, I1.bare, raises_own T.exC T.tyC, q1 d (I1.hok.fresh M.dbig)⟩
    · by_cases hb : b = e
      · have q' : G'.get? b = some o := q
        rw [hb, ge] at q'; cases q'
      · exact (gk b hb).symm.trans q
    · rw [upd_ne (Ne.symm M.dne)]
      exact I1.hok.fresh M.new
/-- raise Low(e) -/
def tRaiseLow (f : Str) (C : Addr) (W : WX) (ta : TA) : TS := fun _ σ H => tMkLow f C ta σ H fun cls d H' => W cls d σ H'
theorem ps_raiseLow {a : Expr} {ta : TA} {W : WX} {p pos pos2 : Pos} {k : Nat} (hc : X.calm = true) (T : PySem.OwnX.OwnTxt X.K X.mg cn f qn C fI) (hr : Room k X.A) (tk : Takes X W) (ha : PA X [a] ta) (hdb : (cn == ("__debug__" : Str)) = false := by decide) (hg : Gl X cn := by rfl)
    (he : starEach (a :: []) X.env = (false, eval a X.env) :: starEach [] X.env := by rfl) (hpl : (backTo pos (starEach [] X.env)).any (·.1) = false := by rfl) :
    PS X (.Raise (some (.Call (.Name cn p) [a] [] pos)) none pos2) (tRaiseLow f C W ta) := ps_raise hc tk (pmk_low T hr ha hdb hg he hpl)
end
end L2
/-! ### a tuple, backwards -/
namespace DL
open PySem PySem.Spec PyProof.Rows L2 HT
section
variable {prog : Program} {w : World} {A : Around} {E : Value → Shared → Prop} {s : Shared}
theorem applied_rev {sl : Addr} {t : Tok} {n : Nat} {Q : Int × Int × Nat → Shared → Prop} (hs : s.heap.IsSliceOf sl .none .none (.int (-1) t)) (h : Q ((n : Int) - 1, -1, n) s) : wpAny (model prog w) A (Builtin.Slice.sliceApplied (.ref sl) (pure (n : Int))) Q E s := by
  obtain ⟨os, hos, hcs, hds⟩ := id hs
  unfold Builtin.Slice.sliceApplied Builtin.Slice.sliceFields
  refine wpAny_bind (wpAny_bind (wpAny_field hos hds (x := .none) rfl (wpAny_bind (wpAny_field hos hds (x := .none) rfl (wpAny_bind (wpAny_field hos hds (x := .int (-1) t) rfl (wpAny_pure ?_)))))))
  refine wpAny_bind (slicePart_ (.int (-1) t) ?_)
  show wpAny _ _ (if ((-1 : Int) == 0) = true then _ else _) _ _ s
  rw [if_neg (by decide)]
  refine wpAny_bind (slicePart_ .none (wpAny_bind (slicePart_ .none (wpAny_bind (wpAny_pure ?_)))))
  have e1 : Builtin.Slice.sliceAdjust none none (-1) (n : Int) = ((n : Int) - 1, -1) := by
    unfold Builtin.Slice.sliceAdjust
    simp
  have e2 : Builtin.Slice.slicePlaces ((n : Int) - 1) (-1) (-1) = n := by
    unfold Builtin.Slice.slicePlaces
    simp
    omega
  show wpAny _ _ (match Builtin.Slice.sliceAdjust none none (-1) (n : Int) with | (lo, hi) => pure (lo, (-1 : Int), Builtin.Slice.slicePlaces lo hi (-1))) _ _ s
  rw [e1]
  show wpAny _ _ (pure ((n : Int) - 1, (-1 : Int), Builtin.Slice.slicePlaces ((n : Int) - 1) (-1) (-1))) _ _ s
  rw [e2]
  exact wpAny_pure h
theorem pick_rev_to (xs : Array Value) : ∀ k, k ≤ xs.size → (List.range k).filterMap (fun (m : Nat) => xs[(((xs.size : Int) - 1) + (m : Int) * (-1)).toNat]?) = xs.toList.reverse.take k
  | 0, _ => rfl
  | k + 1, h => by
    rw [List.range_succ, List.filterMap_append, pick_rev_to xs k (by omega), List.take_succ]
    congr 1
    have e : (((xs.size : Int) - 1) + (k : Int) * (-1)).toNat = xs.toList.length - 1 - k := by rw [Array.length_toList]; omega
    rw [List.getElem?_reverse (by rw [Array.length_toList]; omega)]
    simp only [List.filterMap_cons, List.filterMap_nil, e]
    rw [← Array.getElem?_toList]
    cases xs.toList[xs.toList.length - 1 - k]? <;> rfl
theorem pick_rev (xs : Array Value) : ((List.range xs.size).filterMap fun (m : Nat) => xs[(((xs.size : Int) - 1) + (m : Int) * (-1)).toNat]?).toArray = xs.toList.reverse.toArray := by
  rw [pick_rev_to xs xs.size (Nat.le_refl _), List.take_of_length_le (by simp)]
theorem getItem_tuple_rev {tp sl : Addr} {items : Array Value} {t : Tok} {Q : Value → Shared → Prop} (ht : IsTup s.heap tp items) (hs : s.heap.IsSliceOf sl .none .none (.int (-1) t))
    (h : Q (.ref s.heap.objs.size) { s with heap := s.heap.push { cls := .type "tuple", data := .seq items.toList.reverse.toArray } }) (hsz : items.size ≤ sizeLine) : wpAny (model prog w) A (getItem (.ref tp) (.ref sl)) Q E s := by
  have hk : sizeOk (.seq items.toList.reverse.toArray) := by
    show items.toList.reverse.toArray.size ≤ sizeLine
    rw [List.size_toArray, List.length_reverse, Array.length_toList]
    exact hsz
  obtain ⟨os, hos, hcs, hds⟩ := id hs
  have hTs : s.TypeIs (.ref sl) "slice" := ⟨os, hos, hcs⟩
  unfold getItem
  try with_reducible refine wpAny_holding ?_
  first | refine wpAny_bind (wpAny_pure ?_) | skip
  refine wpAny_bind (wpAny_sequenceKey ht.typeIs (by decide) ?_)
  refine wpAny_bind (wpAny_callSpecial?_slot (name := Str.ofString "__getitem__") ht.typeIs PyProof.Rows.slot_tuple_getitem
    (wpAny_call_entry PyProof.Rows.slot_tuple_getitem ht.typeIs entry_tuple_getitem ?_ (args_tuple_getitem _ _)))
  show wpAny _ _ (Builtin.Tuple.tupleItemsOf (.ref tp) >>= _) _ _ s
  refine wpAny_bind (tupleItemsOf_ ht ?_)
  refine wpAny_bind (wpAny_typeOf hTs ?_)
  rw [if_pos (by decide)]
  refine wpAny_bind (applied_rev hs ?_)
  have hno : ¬ ((((items.size : Int) - 1) == 0 && (-1 : Int) == 1 && items.size == items.size) = true) := by simp
  show wpAny _ _ (if ((((items.size : Int) - 1) == 0 && (-1 : Int) == 1 && items.size == items.size) = true) then _ else _) _ _ s
  rw [if_neg hno, pick_rev]
  first
    | exact wpAny_bind (m := Builtin.Tuple.tupleExact _) (wpAny_newObj_type (wpAny_pure ⟨_, rfl, wpAny_pure h⟩) hk)
    | exact wpAny_bind (m := Builtin.Tuple.tupleExact _) (wpAny_newObj_type (wpAny_bind (wpAny_pure (wpAny_pure ⟨_, rfl, wpAny_pure h⟩))) hk)
    | exact wpAny_bind (wpAny_bind (m := Builtin.Tuple.tupleExact _) (wpAny_newObj_type (wpAny_pure (wpAny_pure ⟨_, rfl, wpAny_pure h⟩)) hk))
    | exact wpAny_bind (wpAny_bind (m := Builtin.Tuple.tupleExact _) (wpAny_newObj_type (wpAny_pure ⟨_, rfl, wpAny_pure h⟩) hk))
end
section
variable {X : Cx}
section
variable {X : Cx}
/-- what reading a value backwards gives, by values; the slice object is made already and lies at sl -/
def BackR (X : Cx) (r : V → Hp → VK → Prop) : Prop :=
  ∀ {pins : List (Addr × Obj)} {s : Shared} {σ : L2.St} {H : Hp} {x : V} {v : Value} {sl : Addr} {t : Tok} {Q : VK}, L2.Inv X pins σ H s → RelV x v → s.heap.IsSliceOf sl .none .none (.int (-1) t) → r x H Q →
    ∃ (T : String) (id : String), s.TypeIs v T ∧ typeLookup (.type T) "__getitem__" = pure (some (.builtin id)) ∧ wpAny (model X.prog X.w) X.A (getItem v (.ref sl)) (EP X pins σ Q) X.xe s
/-- the slice object of [::-1] comes to lie somewhere, and nothing else is seen of it -/
theorem slice_back {k : Nat} {p1 p2 p3 : Pos} {pins : List (Addr × Obj)} {s : Shared} {σ : L2.St} {H : Hp} {Q : Value → Shared → Prop} (I : L2.Inv X pins σ H s)
    (h : ∀ (t : Tok) (sl : Addr) (s' : Shared), L2.Inv X pins σ H s' → s'.heap.IsSliceOf sl .none .none (.int (-1) t) → Q (.ref sl) s') :
    wpAny (model X.prog X.w) X.A (eval (.Slice none none (some (.UnaryOp .USub (.Constant (.int 1) k p1) p2)) p3) X.env) Q X.xe s := by
  apply wpAny_Slice
  simp only [evalPart_none, evalPart_some]
  have minus : PE X (.UnaryOp .USub (.Constant (.int 1) k p1) p2) _ := pe_un un_neg pe_int
  refine wpAny_pure (wpAny_pure (wpAny_mono (minus.run pins s σ H (fun x H' => x = .int (-1) ∧ H' = H) I ⟨1, rfl, rfl, rfl⟩) (fun v s' got => ?_) fun _ _ z => z))
  obtain ⟨x, H', I', rel, rfl, rfl⟩ := got
  obtain ⟨t, rfl⟩ := rel
  exact h t _ _ (I'.kept (t' := s'.toks) fun b o e => Heap.get?_push_of_some _ e) (Heap.IsSliceOf.new ..)
/-- e[::-1], by what reading its value backwards gives -/
theorem pe_back {e : Expr} {te : TE} {r : V → Hp → VK → Prop} {k : Nat} {p1 p2 p3 pos : Pos} (hr : BackR X r) (he : PE X e te) :
    PE X (.Subscript e (.Slice none none (some (.UnaryOp .USub (.Constant (.int 1) k p1) p2)) p3) pos) (fun σ H Q => te σ H fun x H1 => r x H1 Q) :=
  ⟨fun pins s σ H Q I h => Subscript_ (wpAny_mono (he.run pins s σ H _ I h) (fun v _ ⟨_, _, I1, rx, q⟩ => slice_back I1 fun _ sl _ I2 at_ =>
    let ⟨_, _, ty, lk, got⟩ := hr I2 rx at_ q
    tail_any (ops := [v, .ref sl]) ty lk got (by with_unfolding_all rfl)) fun _ _ z => z)⟩
def rBackL (K : PySem.W.Frag) : V → Hp → VK → Prop := fun x H Q => ∃ a xs, x = .ref a ∧ SqL K H a xs ∧ ∀ p, H p = none → Q (.ref p) (upd H p (.lst xs.reverse))
def rBackT (K : PySem.W.Frag) : V → Hp → VK → Prop := fun x H Q => ∃ a xs, x = .ref a ∧ SqT K H a xs ∧ ∀ p, H p = none → Q (.ref p) (upd H p (.tup xs.reverse))
theorem back_list : BackR X (rBackL X.K) := fun {pins s σ H x v sl t Q} I rx at_ got => by
  obtain ⟨a, xs, rfl, seq, q⟩ := got
  cases rx
  obtain ⟨its, vals, lies, le⟩ := I.list seq
  have le' : its.toArray.size ≤ sizeLine := by have := vals.length; rw [List.size_toArray]; omega
  refine ⟨"list", _, lies.isList.typeIs, PySem.slot_list_getitem.lookup, wpAny_getItem_list_slice lies.isList at_ .none .none (.int _ _) nofun ?_ le'⟩
  rw [PySem.W.krv_pick]
  exact ⟨.ref _, _, I.laid (t' := s.toks) (o := .lst xs.reverse) (fun b o e => Heap.get?_push_of_some _ e) (Nat.le_refl _) ⟨by rwa [List.length_reverse], _, 0, vals.reverse, Heap.get?_push_size _ rfl⟩, rfl, q _ (I.hok.fresh (Nat.le_refl _))⟩
theorem back_tup : BackR X (rBackT X.K) := fun {pins s σ H x v sl t Q} I rx at_ got => by
  obtain ⟨a, xs, rfl, seq, q⟩ := got
  cases rx
  obtain ⟨its, vals, lies, le⟩ := I.tuple seq
  have le' : its.toArray.size ≤ sizeLine := by have := vals.length; rw [List.size_toArray]; omega
  have fits : xs.reverse.length ≤ sizeLine := by have := vals.length; rw [List.length_reverse]; rw [List.size_toArray] at le'; omega
  have pair : IsTup s.heap a its.toArray := lies
  exact ⟨"tuple", _, pair.typeIs, PyProof.Rows.slot_tuple_getitem.lookup, getItem_tuple_rev pair at_ ⟨.ref _, _, I.laid (t' := s.toks) (o := .tup xs.reverse) (fun b o e => Heap.get?_push_of_some _ e) (Nat.le_refl _)
    ⟨fits, _, vals.reverse, _, Heap.get?_push_size _ rfl, rfl, _, rfl⟩, rfl, q _ (I.hok.fresh (Nat.le_refl _))⟩ le'⟩
/-- x[::-1], a list or a tuple -/
theorem pe_rev {e : Expr} {te : TE} {k : Nat} {p1 p2 p3 pos : Pos} (he : PE X e te) : PE X (.Subscript e (.Slice none none (some (.UnaryOp .USub (.Constant (.int 1) k p1) p2)) p3) pos)
    (fun σ H Q => te σ H fun x H1 => ∃ a xs, x = .ref a ∧ ((SqL X.K H1 a xs ∧ ∀ p, H1 p = none → Q (.ref p) (upd H1 p (.lst xs.reverse))) ∨ (SqT X.K H1 a xs ∧ ∀ p, H1 p = none → Q (.ref p) (upd H1 p (.tup xs.reverse))))) :=
  pe_back (r := fun x H Q => ∃ a xs, x = .ref a ∧ ((SqL X.K H a xs ∧ ∀ p, H p = none → Q (.ref p) (upd H p (.lst xs.reverse))) ∨ (SqT X.K H a xs ∧ ∀ p, H p = none → Q (.ref p) (upd H p (.tup xs.reverse)))))
    (fun I rx at_ ⟨a, xs, e, q⟩ => q.elim (fun ⟨z, q⟩ => back_list I rx at_ ⟨a, xs, e, z, q⟩) fun ⟨z, q⟩ => back_tup I rx at_ ⟨a, xs, e, z, q⟩) he
end
end
/-! rules -/
section
variable {X : Cx} {fx : Fx} {m : Type → Type} [Mo m] {G : List Sl} {α β : Type} {kk : Nat} {a b e : Expr} {rest : List Stmt} {ex : α → List Sl} {exb : β → List Sl} {pos p1 p2 p3 : Pos} {x : m D} {ys : m (List D)}
def revD : D → Option D
  | .lst ds => some (.lst ds.reverse)
  | .tup ds => some (.tup ds.reverse)
  | _ => none
theorem de_rev {k : Nat} (he : PE X e (tE X.K X.mg fx G x)) : PE X (.Subscript e (.Slice none none (some (.UnaryOp .USub (.Constant (.int 1) k p1) p2)) p3) pos) (tE X.K X.mg fx G (do let d ← x; ask (revD d))) :=
  peI (pe_rev he) fun σ H Q ⟨Hf, s, h⟩ =>
  (h.bind.mono fun v H1 ⟨d, Hf1, s1, sb, r, h1⟩ => by
    obtain ⟨e, q0, q⟩ := h1.ask
    cases d with
    | lst ds =>
      cases q0
      obtain ⟨hz, a, vs, rfl, t, l⟩ := r
      refine ⟨a, vs, rfl, .inl ⟨.inl (.inl (h1.1.top _ _ t)), fun p hp => q _ _ _ (.new h1.1.top hp) ⟨by rw [List.length_reverse]; exact hz, p, _, rfl, upd_same, l.reverse.mono (Ste.new (bag := []) h1.1.top hp).sub⟩⟩⟩
    | tup ds =>
      cases q0
      obtain ⟨hz, a, vs, rfl, t, l⟩ := r
      refine ⟨a, vs, rfl, .inr ⟨h1.1.top.sqt t, fun p hp => q _ _ _ (.new h1.1.top hp) ⟨by rw [List.length_reverse]; exact hz, p, _, rfl, .inl (.inl upd_same), l.reverse.mono (Ste.new (bag := []) h1.1.top hp).sub⟩⟩⟩
    | _ => cases q0).to
/-! zip -/
end
end DL
namespace DL
open PySem L2
/-! ### a, b = x, y: one a datum, one an own list -/
/-! ### raise of an own error -/
section
variable {X : Cx} {fx : Fx} {m : Type → Type} [Mo m] {G : List Sl} {α β : Type} {kk : Nat} {a : Expr} {rest : List Stmt} {ex : α → List Sl} {exb : β → List Sl} {p pos pos2 : Pos} {cn f qn : Str} {C fI : Addr}
def raiseX {m : Type → Type} [Mo m] {γ : Type} (c f : Str) (d : D) : m γ := Mo.lift (R.ex ⟨c, f, d⟩)
theorem dss_raise {x : m D} (Ck : Cok X fx kk) (T : PySem.OwnX.OwnTxt X.K X.mg cn f qn C fI) (ha : PE X a (tE X.K X.mg fx G x)) (hdb : (cn == ("__debug__" : Str)) = false := by decide) (hg : Gl X cn := by rfl)
    (he : starEach (a :: []) X.env = (false, eval a X.env) :: starEach [] X.env := by rfl) (hpl : (backTo pos (starEach [] X.env)).any (·.1) = false := by rfl) (hx : GxOk fx G := by first | trivial | repeat' (first | exact True.intro | exact Or.inl rfl | exact Or.inr rfl | refine And.intro ?_ ?_)) :
    PSs X (.Raise (some (.Call (.Name cn p) [a] [] pos)) none pos2 :: rest) (tS X.K X.mg fx G ex exb (do let d ← x; raiseX cn f d : m (Fl α β))) :=
  pssI (pss_cons (ps_raiseLow Ck.calm T Ck.rm Ck.tk (pa_cons ha pa_nil he) hdb hg he hpl) pss_never) fun De σ H ⟨Hf, s, h⟩ =>
    ((h.bind hx).mono fun v H1 ⟨d, Hf1, s1, sb, r, h1⟩ => by
      refine ⟨v, rfl, fun p hp => ?_⟩
      have w := Mo.wp_lift h1.2
      have e1 : Ste fx.bag Hf1 H1 (upd Hf1 p (.xd [(f, v)])) (upd H1 p (.xd [(f, v)])) := .new h1.1.top hp
      have nb := (h1.1.new0 hp).2.1
      have st2 := h1.1.step e1 (h1.1.bag.upd nb)
      exact exs_ex hx w _ _ _ _ st2 ⟨C, p, v, T.gC, rfl, rfl, upd_same, r.mono e1.sub⟩).to
end
/-- an error of the class at S is what «except S» names -/
theorem exm_self {K : PySem.W.Frag} {S : Addr} (h1 : PySem.W.subIn K (.ref S) (.type "BaseException") = some true) (h2 : PySem.W.isClsIn K S = true) (h3 : PySem.W.typeIn K (.ref S) = some (.type "type")) (h4 : PySem.W.subIn K (.ref S) (.ref S) = some true) :
    PySem.W.exmOne K (.ref S) (.ref S) = some true := by
  have e1 : (PySem.W.subIn K (.ref S) (.type "BaseException") == some true) = true := by rw [h1] <;> rfl
  have e2 : ((PySem.W.clsIn K S).isSome && PySem.W.typeIn K (.ref S) == some (.type "type")) = true := by
    have h2' : (PySem.W.clsIn K S).isSome = true := h2
    rw [h2', h3] <;> rfl
  show (if (PySem.W.subIn K (.ref S) (.type "BaseException") == some true) = true then (if ((PySem.W.clsIn K S).isSome && PySem.W.typeIn K (.ref S) == some (.type "type")) = true then PySem.W.subIn K (.ref S) (.ref S) else none) else none) = some true
  rw [if_pos e1, if_pos e2]
  exact h4
theorem exm_sub {K : PySem.W.Frag} {S Y : Addr} {b : Bool} (h1 : PySem.W.subIn K (.ref S) (.type "BaseException") = some true) (h2 : PySem.W.isClsIn K S = true) (h3 : PySem.W.typeIn K (.ref S) = some (.type "type")) (h4 : PySem.W.subIn K (.ref Y) (.ref S) = some b) :
    PySem.W.exmOne K (.ref Y) (.ref S) = some b := by
  have e1 : (PySem.W.subIn K (.ref S) (.type "BaseException") == some true) = true := by rw [h1] <;> rfl
  have e2 : ((PySem.W.clsIn K S).isSome && PySem.W.typeIn K (.ref S) == some (.type "type")) = true := by
    have h2' : (PySem.W.clsIn K S).isSome = true := h2
    rw [h2', h3] <;> rfl
  show (if (PySem.W.subIn K (.ref S) (.type "BaseException") == some true) = true then (if ((PySem.W.clsIn K S).isSome && PySem.W.typeIn K (.ref S) == some (.type "type")) = true then PySem.W.subIn K (.ref Y) (.ref S) else none) else none) = some b
  rw [if_pos e1, if_pos e2]
  exact h4
theorem kit_subO {K : PySem.W.Frag} {S : Addr} {t : Value} {b : Bool} (h2 : PySem.W.isClsIn K S = true) (h3 : PySem.W.typeIn K (.ref S) = some (.type "type")) (h5 : PySem.W.subIn K (.ref S) (.ref S) = some true) (h4 : PySem.W.subIn K t (.ref S) = some b) : PySem.W.kitOne K t (.ref S) = some b := by
  have e2 : ((PySem.W.clsIn K S).isSome && PySem.W.typeIn K (.ref S) == some (.type "type")) = true := by
    have h2' : (PySem.W.clsIn K S).isSome = true := h2
    rw [h2', h3] <;> rfl
  show (if (t == .ref S) = true then some true else (if ((PySem.W.clsIn K S).isSome && PySem.W.typeIn K (.ref S) == some (.type "type")) = true then PySem.W.subIn K t (.ref S) else none)) = some b
  by_cases c : (t == .ref S) = true
  · have e : t = .ref S := eq_of_beq c
    subst e
    rw [if_pos c, ← h4, h5]
  · rw [if_neg c, if_pos e2]
    exact h4
end DL
namespace DL
open PySem L2
/-! ### try, except -/
abbrev Fx.tried (fx : Fx) (W : WX) (B : Hp) (g : List Sl) : Fx := { fx with Hf0 := B, W := W, gx := some g }
section
variable {K : PySem.W.Frag} {mg : Str → Option Value} {fx : Fx} {Hf H : Hp} {σ : L2.St} {G : List Sl} {s : S}
theorem StS.tried (st : StS K mg fx Hf H σ G s) (W : WX) (g : List Sl) : StS K mg (fx.tried W Hf g) Hf H σ G s := ⟨⟨.refl _, st.top, st.ste.keep, st.ste.dom, fun _ _ e => .inl e⟩, st.bag, st.bagg, st.len, fun i x e => by
  have so := st.sl i x e
  cases x with
  | un => trivial
  | im d => exact so
  | ow ds => exact so
  | od ks ds => exact so
  | ob ns ds => exact so
  | bg => exact so, st.dis⟩
theorem Ste.back {bag : List Addr} {Hf0 H0 Hf H Hf' H' : Hp} (a : Ste bag Hf0 H0 Hf H) (b : Ste bag Hf H0 Hf' H') : Ste bag Hf0 H0 Hf' H' := ⟨a.sub.trans b.sub, b.top, b.keep, b.dom, fun x o e => by
  rcases b.fresh x o e with h | h
  · exact a.fresh x o h
  · exact .inr h⟩
theorem StS.back {Hf1 H1 : Hp} {σ1 : L2.St} {G1 : List Sl} {s1 : S} {W : WX} {g : List Sl} (st : StS K mg fx Hf H σ G s) (st1 : StS K mg (fx.tried W Hf g) Hf1 H1 σ1 G1 s1) : StS K mg fx Hf1 H1 σ1 G1 s1 := ⟨st.ste.back st1.ste, st1.bag, st1.bagg, st1.len, fun i x e => by
  have so := st1.sl i x e
  cases x with
  | un => trivial
  | im d => exact so
  | ow ds => exact so
  | od ks ds => exact so
  | ob ns ds => exact so
  | bg => exact so, st1.dis⟩
/-- a forgotten slot is emptied -/
theorem StS.empty (st : StS K mg fx Hf H σ G s) {i : Nat} (hi : G[i]? = some .un) : StS K mg fx Hf H (σ.set i none) G s := by
  refine ⟨st.ste, st.bag, st.bagg, by simpa using st.len, fun j x e => ?_, fun j k x y p hjk ex ey ox oy e1 e2 => ?_⟩
  · by_cases q : i = j
    · subst q
      rw [hi] at e
      cases e
      trivial
    · rw [List.getElem?_set_ne q]
      exact st.sl j x e
  · have nj : i ≠ j := fun z => by subst z; rw [hi] at ex; cases ex; cases ox
    have nk : i ≠ k := fun z => by subst z; rw [hi] at ey; cases ey; cases oy
    rw [List.getElem?_set_ne nj] at e1
    rw [List.getElem?_set_ne nk] at e2
    exact st.dis j k x y p hjk ex ey ox oy e1 e2
end
theorem unNox {K : PySem.W.Frag} {mg : Str → Option Value} {fx : Fx} {Hf H : Hp} {σ : L2.St} {G : List Sl} {s : S} (st : StS K mg fx.nox Hf H σ G s) : StS K mg fx Hf H σ G s := ⟨st.ste, st.bag, st.bagg, st.len, fun i x e => by
  have so := st.sl i x e
  cases x with
  | un => trivial
  | im d => exact so
  | ow ds => exact so
  | od ks ds => exact so
  | ob ns ds => exact so
  | bg => exact so, st.dis⟩
/-- the errors that may come, and which of them a clause names -/
def Known (K : PySem.W.Frag) (mg : Str → Option Value) (L : List (Str × Str)) (c : Str) (C : Addr) : Prop := ∀ q ∈ L, ∀ C', mg q.1 = some (.ref C') → PySem.W.exmOne K (.ref C') (.ref C) = some (decide (q.1 = c))
end DL
namespace DL
open PySem L2
/-! ### text methods -/
theorem spl_len (S : List Nat) : ∀ (l : List Nat) (k : Nat) (acc : List Nat), (∀ p ∈ TL.spl S k acc l, p.length ≤ acc.length + l.length) ∧ (TL.spl S k acc l).length ≤ l.length + 1
  | [], k, acc => by
    rw [TL.spl_nil]
    simp
  | c :: r, 0, acc => by
    by_cases h : TL.pre S (c :: r) = true
    · rw [TL.spl_hit h]
      obtain ⟨h1, h2⟩ := spl_len S r (S.length - 1) []
      refine ⟨fun p hp => ?_, by rw [List.length_cons, List.length_cons]; omega⟩
      rcases List.mem_cons.mp hp with rfl | hp
      · omega
      · have := h1 p hp
        rw [List.length_nil] at this
        rw [List.length_cons]
        omega
    · rw [TL.spl_miss (by simpa using h)]
      obtain ⟨h1, h2⟩ := spl_len S r 0 (acc ++ [c])
      refine ⟨fun p hp => ?_, by rw [List.length_cons]; omega⟩
      have := h1 p hp
      rw [List.length_append, List.length_singleton] at this
      rw [List.length_cons]
      omega
  | c :: r, k + 1, acc => by
    have e : TL.spl S (k + 1) acc (c :: r) = TL.spl S k acc r := rfl
    rw [e]
    obtain ⟨h1, h2⟩ := spl_len S r k acc
    refine ⟨fun p hp => ?_, by rw [List.length_cons]; omega⟩
    have := h1 p hp
    rw [List.length_cons]
    omega
def splitD (a b : D) : Option (List D) := match a, b with
  | .str z, .str [c] => if c < 256 ∧ z.length ≤ 1000000 then some ((TL.spl [c] 0 [] z).map .str) else none
  | _, _ => none
theorem isL_strsV {K : PySem.W.Frag} {mg : Str → Option Value} {H : Hp} : ∀ {ps : List (List Nat)}, (∀ p ∈ ps, p.length ≤ sizeLine) → IsL K mg H (ps.map .str) (ps.map fun p => V.str ⟨p.toArray⟩)
  | [], _ => rfl
  | p :: ps, h => ⟨_, _, rfl, ⟨rfl, h p (.head _)⟩, isL_strsV fun q m => h q (.tail _ m)⟩
section
variable {X : Cx} {fx : Fx} {m : Type → Type} [Mo m] {G : List Sl} {o e : Expr} {apos pos : Pos} {x y : m D}
theorem df_split (ho : PE X o (tE X.K X.mg fx G x)) (he : PE X e (tE X.K X.mg fx G y)) (hs : starEach [e] X.env = [(false, eval e X.env)] := by rfl) (hbase : attributeBase o "split" X.env (eval o X.env) = eval o X.env := by rfl) (hline : (apos.endLine == pos.line) = true := by rfl) :
    PE X (.Call (.Attribute o "split" apos) [e] [] pos) (tF X.K X.mg fx G (do let u ← x; let _ ← ask (strOf u); let v ← y; ask (splitD u v))) := peI (pe_split ho he hs hbase hline) fun σ H Q ⟨Hf, s, st, w⟩ =>
  ⟨Hf, s, st, Mo.wp_mono (Mo.wp_bind w) (fun d1 s1 k v1 Hf1 H1 e1 bg1 r1 => by
    have k' := Mo.wp_lift (Mo.wp_bind k)
    have st1 := st.step e1 bg1
    cases d1 with
    | str z =>
      obtain ⟨rfl, hz1⟩ := r1
      refine ⟨⟨_, rfl⟩, Hf1, s1, st1, Mo.wp_mono (Mo.wp_bind k') (fun d2 s2 k2 v2 Hf2 H2 e2 bg2 r2 => ?_) fun e s' k => k⟩
      have k3 := Mo.wp_lift k2
      cases hsp : splitD (.str z) d2 with
      | none => rw [hsp] at k3; exact k3.elim
      | some ds =>
        rw [hsp] at k3
        unfold splitD at hsp
        split at hsp
        · rename_i z' c hz'
          cases hz'
          split at hsp
          · rename_i hc
            cases hsp
            obtain ⟨rfl, _⟩ := r2
            have hsz : sizeLine = 16777216 := sizeLine_eq
            have hk : (⟨#[c]⟩ : Str).cps.all (· < 256) = true := by simpa using hc.1
            have es := TL.split_spl ⟨z.toArray⟩ ⟨#[c]⟩ (by simp [TL.tl]) (TL.kind_ok hk)
            have es' : Txt.split ⟨z.toArray⟩ ⟨#[c]⟩ = (TL.spl [c] 0 [] z).map fun p => (⟨p.toArray⟩ : Str) := by
              have e3 : (TL.spl (TL.tl ⟨#[c]⟩) 0 [] (TL.tl ⟨z.toArray⟩)) = TL.spl [c] 0 [] z := by simp [TL.tl]
              rw [e3] at es
              rw [← es, List.map_map]
              conv => lhs; rw [← List.map_id (Txt.split ⟨z.toArray⟩ ⟨#[c]⟩)]
              exact List.map_congr_left fun p _ => (TL.mk_tl p).symm
            obtain ⟨h1, h2⟩ := spl_len [c] z 0 []
            refine ⟨⟨z.toArray⟩, ⟨#[c]⟩, rfl, rfl, rfl, by rw [str_len]; omega, fun p hp => ?_⟩
            rw [es', List.map_map]
            have hn : H p = none := by
              cases q : H p with
              | none => rfl
              | some o => exact absurd hp ((e1.trans e2).dom p (by rw [q]; simp))
            have st2 := st1.step e2 bg2
            have n2 := st2.new0 hp
            exact k3 p _ Hf2 _ ((e1.trans e2).upd hn n2.2.2) (bg2.upd n2.2.1) upd_same n2.2.2 hn (isL_strsV fun q m => by have := h1 q m; simp at this; omega) (by rw [List.length_map]; omega)
          · cases hsp
        · cases hsp
    | _ => exact k'.elim) fun e s' k => k⟩
/-- a text method of one text that answers at once -/
def strM (g : List Nat → List Nat → D) (a b : D) : Option D := match a, b with
  | .str x, .str y => some (g x y)
  | _, _ => none
theorem de_starts (ho : PE X o (tE X.K X.mg fx G x)) (he : PE X e (tE X.K X.mg fx G y)) (hs : starEach [e] X.env = [(false, eval e X.env)] := by rfl) (hbase : attributeBase o "startswith" X.env (eval o X.env) = eval o X.env := by rfl) (hline : (apos.endLine == pos.line) = true := by rfl) :
    PE X (.Call (.Attribute o "startswith" apos) [e] [] pos) (tE X.K X.mg fx G (do let u ← x; let _ ← ask (strOf u); let v ← y; ask (strM (fun a b => .bl (Txt.startswith ⟨a.toArray⟩ ⟨b.toArray⟩)) u v))) :=
  peI (pe_m1 PySem.F.slot_str_startswith PySem.F.type_str_startswith mt_startswith ho he hs hbase hline) fun σ H Q ⟨Hf, s, h⟩ =>
  (h.bind.mono fun v1 H1 ⟨d1, Hf1, s1, sb1, r1, h1⟩ => by
    have k := Mo.wp_lift (Mo.wp_bind h1.2)
    cases d1 with
    | str S =>
      obtain ⟨rfl, hz1⟩ := r1
      refine ⟨⟨_, rfl⟩, ?_⟩
      have h2 : tX X.K X.mg fx G (fun H d v => Is X.K X.mg H d v) (do let v ← y; ask (strM (fun a b => .bl (Txt.startswith ⟨a.toArray⟩ ⟨b.toArray⟩)) (.str S) v) : m D) Hf1 s1 σ H1 Q := ⟨h1.1, k⟩
      refine (h2.bind.mono fun v2 H2 ⟨d2, Hf2, s2, sb2, r2, h3⟩ => ?_).to
      obtain ⟨d, e, q⟩ := h3.ask
      cases d2 with
      | str T =>
        cases e
        obtain ⟨rfl, _⟩ := r2
        exact ⟨_, _, rfl, rfl, q _ Hf2 H2 (.refl h3.1.top) (is_bl _)⟩
      | _ => cases e
    | _ => exact k.elim).to
end
end DL
/-! ### try with several clauses, each with a name or without -/
namespace DL
open PySem PySem.Spec PyProof.Rows L2
abbrev Clause := Value × Option Nat × (Addr → Value → Option Addr → TS)
/-- the ends of a suite whose name is let go -/
def goneE (i : Nat) (De : Ends) : Ends := { nx := fun σ' H' => De.nx (σ'.set i none) H', rt := De.rt, bk := fun σ' H' => De.bk (σ'.set i none) H', ct := fun σ' H' => De.ct (σ'.set i none) H' }
def wCl (De : Ends) (σ : L2.St) (H : Hp) (cls : Value) (d : Option Addr) (a : Addr) : Option Nat × (Addr → Value → Option Addr → TS) → Prop
  | (some i, ts) => ts a cls d (goneE i De) (σ.set i (some (.ref a))) H
  | (none, ts) => ts a cls d De σ H
def wCls (K : PySem.W.Frag) (Wout : WX) (De : Ends) : List Clause → WX
  | [] => Wout
  | (c, p) :: r => fun cls d σ H => ∃ b, PySem.W.exmOne K cls c = some b ∧ (b = true → ∀ a, H a = none → wCl De σ H cls d a p) ∧ (b = false → wCls K Wout De r cls d σ H)
inductive HdC (X : Cx) : List ExceptHandler → List Clause → Prop
  | nil : HdC X [] []
  | named {x n : Str} {i : Nat} {c : Value} {ts : Addr → Value → Option Addr → TS} {b0 : Stmt} {suite : List Stmt} {np pos : Pos} {hds : List ExceptHandler} {l : List Clause} (hc : Names X x c) (hi : X.N[i]? = some n) (hln : X.env.kindOf n = some .local)
      (hsu : ∀ (a : Addr) (oe : Obj) (cls : Value) (d : Option Addr) (pn : List (Addr × Obj)), Zc cls d oe → (∃ vs, oe.data = .fields vs) → PSs (X.suite a ((a, oe) :: pn)) (b0 :: suite) (ts a cls d)) (r : HdC X hds l) :
      HdC X (.ExceptHandler (some (.Name x np)) (some n) (b0 :: suite) pos :: hds) ((c, some i, ts) :: l)
  | plain {x : Str} {c : Value} {ts : Addr → Value → Option Addr → TS} {b0 : Stmt} {suite : List Stmt} {np pos : Pos} {hds : List ExceptHandler} {l : List Clause} (hc : Names X x c)
      (hsu : ∀ (a : Addr) (oe : Obj) (cls : Value) (d : Option Addr) (pn : List (Addr × Obj)), Zc cls d oe → (∃ vs, oe.data = .fields vs) → PSs (X.suite a ((a, oe) :: pn)) (b0 :: suite) (ts a cls d)) (r : HdC X hds l) :
      HdC X (.ExceptHandler (some (.Name x np)) none (b0 :: suite) pos :: hds) ((c, none, ts) :: l)
section
variable {X : Cx} {body : List Stmt} {h0 : ExceptHandler} {hds : List ExceptHandler} {l : List Clause} {pos : Pos} {tb : WX → TS} {Wout : WX}
/-- the exception at a has landed before the clauses; sI is what the body left behind, s the state as it is now -/
structure Stood (X : Cx) (pins : List (Addr × Obj)) (Z : Obj → Prop) (σ : L2.St) (H : Hp) (a : Addr) (B : Heap) (sI s : Shared) : Prop where
  left : L2.Inv X pins σ H sI
  apart : ∀ b o, sI.heap.get? b = some o → b ∉ frs X.stack → B.get? b = some o
  since : sI.heap.UpToSlots s.heap
  fly : HandSPX.FlyingZ B (X.env :: X.outer) a Z s.heap
  free : H a = none
  os : s.os = sI.os
  bare : AllBare s.gens
section
variable {X : Cx} {pins : List (Addr × Obj)} {Z : Obj → Prop} {σ : L2.St} {H : Hp} {a : Addr} {B : Heap} {sI s : Shared}
namespace Stood
/-- the def's state holds, too -/
theorem inv (S : Stood X pins Z σ H a B sI s) : L2.Inv X pins σ H s := S.left.landed S.apart S.fly.1 S.since S.os S.bare
/-- other places of the heap have changed -/
theorem moved (S : Stood X pins Z σ H a B sI s) {h : Heap} (f : HandSPX.FlyingZ B (X.env :: X.outer) a Z h) (up : s.heap.UpToSlots h) : Stood X pins Z σ H a B sI { s with heap := h } :=
  { left := S.left, apart := S.apart, since := S.since.trans up, fly := f, free := S.free, os := S.os, bare := S.bare }
/-- the record of the exception is no frame -/
theorem noFrame (S : Stood X pins Z σ H a B sI s) : a ∉ frs (X.env :: X.outer) := by
  intro isFrame
  obtain ⟨oe, vs, lies, _, rec⟩ := S.fly.there
  obtain ⟨-, o, lies', notRec⟩ := S.fly.2.2.1.mem isFrame
  cases lies.symm.trans lies'
  exact notRec vs rec
theorem notOwn (S : Stood X pins Z σ H a B sI s) (hf : X.env.frame = some X.env.locals) : a ≠ X.env.locals := by
  rintro rfl
  exact S.noFrame (List.mem_filterMap.mpr ⟨X.env, by simp, hf⟩)
theorem notOuter (S : Stood X pins Z σ H a B sI s) : a ∉ X.fs := by
  intro m
  obtain ⟨env, k, e⟩ := List.mem_filterMap.mp m
  exact S.noFrame (List.mem_filterMap.mpr ⟨env, by simp [k], e⟩)
/-- the clause's own context -/
theorem enter (S : Stood X pins Z σ H a B sI s) (hf : X.env.frame = some X.env.locals) :
    ∃ oe, Z oe ∧ (∃ vs, oe.data = .fields vs) ∧ s.heap.get? a = some oe ∧ L2.Inv (X.suite a ((a, oe) :: (X.pn ++ pins))) [] σ H s :=
  let ⟨oe, vs, lies, z, rec⟩ := S.fly.there
  ⟨oe, z, ⟨vs, rec⟩, lies, S.inv.suite lies rec S.free (S.notOwn hf) S.notOuter⟩
/-- a class is read by its name -/
theorem word (S : Stood X pins Z σ H a B sI s) (hf : X.env.frame = some X.env.locals) {x : Str} {c : Value} {np : Pos} (nm : Names X x c) {Q E : Value → Shared → Prop} (q : Q c s) :
    wpAny (model X.prog X.w) (X.A.mark (some (.ref a))) (eval (.Name x np) X.env) Q E s := by
  obtain ⟨oe, -, -, -, I⟩ := S.enter hf
  obtain ⟨gl, nd, own | ⟨noOwn, boot, ne⟩⟩ := nm
  · exact ld_glob I gl own q nd
  · exact ld_blt I gl noOwn boot q ne nd
/-- a clause asks whether the exception is one of its class -/
theorem asked {cls c : Value} {b : Bool} (S : Stood X pins Z σ H a B sI s) (hZ : ∀ o, Z o → o.cls = cls) (is : PySem.W.exmOne X.K cls c = some b) {A : Around} {Q : Bool → Shared → Prop} {E : Value → Shared → Prop} (q : Q b s) :
    wpAny (model X.prog X.w) A (excMatches (.ref a) c) Q E s := by
  obtain ⟨oe, vs, lies, z, rec⟩ := S.fly.there
  exact (PySem.W.exm_one S.inv.kIn (fun _ _ _ t keeps q' => wpAny_typeOf_ref (keeps _ _ lies) (by rwa [hZ oe z])) is).here q
/-- no clause is left: the exception goes on -/
theorem on (S : Stood X pins Z σ H a B sI s) (hf : X.env.frame = some X.env.locals) {De : Ends}
    (out : ∀ h, HandSPX.HeldZ B (X.env :: X.outer) a Z X.env.locals h → s.heap.UpToSlots h → X.xe (.ref a) { s with heap := h }) :
    wpAny (model X.prog X.w) X.A (handleBy (.ref a) X.env []) (SP X pins De) X.xe s := by
  have flies : wpAny (model X.prog X.w) X.A (setFlight (.ref a) X.env.frame) (fun _ s' => wpAny (model X.prog X.w) X.A (throw (.ref a) : Sem Flow) (SP X pins De) X.xe s') X.xe s := by
    rw [hf]
    exact HandSPX.setFlight_upZ S.fly fun h held up => wpAny_throw (out h held up)
  obtain ⟨-, -, -, oe, vs, T, -, -, lies, -, rec, tb, -⟩ := id S.fly
  apply wpAny_handleBy_nil
  simp only [PySem.passOn]
  refine wpAny_bind (wpAny_field lies rec tb ?_)
  have hasTb : (Value.ref T == Value.none) = false := rfl
  rw [hasTb]
  first
    | exact wpAny_bind (wpAny_pure (wpAny_bind flies))
    | exact wpAny_bind flies
end Stood
/-- two contexts whose states are alike end alike -/
theorem SP.carry {Y : Cx} {pins' : List (Addr × Obj)} {De : Ends} {f : Flow} {s' : Shared} (h : SP Y pins' De f s') (c : ∀ {σ : L2.St} {H : Hp}, L2.Inv Y pins' σ H s' → L2.Inv X pins σ H s') : SP X pins De f s' := by
  unfold SP at h ⊢
  split at h
  all_goals first
    | (obtain ⟨σ1, H1, I, q⟩ := h; exact ⟨σ1, H1, c I, q⟩)
    | (obtain ⟨v, σ1, H1, I, r, q⟩ := h; exact ⟨v, σ1, H1, c I, r, q⟩)
/-- an exception of a body comes before the clauses -/
theorem stand {W : WX} {xe : Value → Shared → Prop} {hds : List ExceptHandler} {De : Ends} {u : Value} {s' : Shared} (hs : X.stack = X.env :: X.outer) (hf : X.env.frame = some X.env.locals) (ok : X.Ok) (xx : L2.XE (X.tr (X.pn ++ pins) xe) W u s')
    (go : ∀ (a : Addr) (B : Heap) (sI s : Shared) (σ : L2.St) (H : Hp) (cls : Value) (d : Option Addr), Stood X pins (Zc cls d) σ H a B sI s → W cls d σ H → wpAny (model X.prog X.w) X.A (handleBy (.ref a) X.env hds) (SP X pins De) X.xe s) :
    wpAny (model X.prog X.w) X.A (noteFrame u X.env) (fun _ s2 => wpAny (model X.prog X.w) X.A (setFlight u none) (fun _ s3 => wpAny (model X.prog X.w) X.A (handleBy u X.env hds) (SP X pins De) X.xe s3) X.xe s2) X.xe s' := by
  obtain ⟨a, B, sI, pins', σ, H, cls, d, rfl, I, apart, since, sky, free, os, bare, w⟩ := xx
  have sky' : L2.Sky B (X.env :: X.outer) a (Zc cls d) X.env.locals s'.heap := hs ▸ sky
  exact L2.Sky.land Zc.steady (by rw [ok.frames, hs]) hf sky' fun h f up => go a B sI _ σ H cls d ⟨I.ofTry ok, apart, since.trans up, f, free, os, bare⟩ w
end
section
variable {X : Cx} {pins : List (Addr × Obj)} {Z : Obj → Prop} {σ : L2.St} {H : Hp} {a : Addr} {B : Heap} {sI s : Shared} {De : Ends}
/-- the suite of a clause with a name runs, and the name goes -/
theorem suite_named {n : Str} {i : Nat} {pos' : Pos} {b0 : Stmt} {suite : List Stmt} {ts : TS} {R : Result → Shared → Prop} {E : Value → Shared → Prop} (S : Stood X pins Z σ H a B sI s) (ok : X.Ok) (hN : X.N.Nodup) (hf : X.env.frame = some X.env.locals) (hi : X.N[i]? = some n) (hln : X.env.kindOf n = some .local)
    (hsu : ∀ oe : Obj, Z oe → (∃ vs, oe.data = .fields vs) → PSs (X.suite a ((a, oe) :: (X.pn ++ pins))) (b0 :: suite) ts) (w : ts (goneE i De) (σ.set i (some (.ref a))) H)
    (hR : ∀ f s', (wpAny (model X.prog X.w) X.A (do bindName X.env n .none; unbindBehindTheSuite X.env n pos') (fun _ s7 => SP X pins De f s7) E s') → R (.ok f) s') :
    codeAny (model X.prog X.w) (X.A.mark (some (.ref a))) (.handlers (.ref a) [.ExceptHandler none (some n) (b0 :: suite) pos'] X.env) R s := by
  refine codeAny_handlers_suite_as (HandSPX.lands_againZ S.fly fun h f up => ?_)
  obtain ⟨oe, z, rec, -, I⟩ := (S.moved f up).enter hf
  refine store_ok (X := X.suite a ((a, oe) :: (X.pn ++ pins))) (v := .ref a) I hN hi (.inl hln) rfl (fun s5 I5 => ?_) (.inr hln)
  refine wpAny_mono ((hsu oe z rec).run [] s5 _ H _ I5 w) (fun fl s6 ends => hR fl s6 ?_) fun _ _ none => False.elim none
  have back : ∀ {σ6 : L2.St} {H6 : Hp} {Q : Shared → Prop}, L2.Inv (X.suite a ((a, oe) :: (X.pn ++ pins))) [] σ6 H6 s6 → (∀ s7, L2.Inv X pins (σ6.set i none) H6 s7 → Q s7) → wpAny (model X.prog X.w) X.A (do bindName X.env n .none; unbindBehindTheSuite X.env n pos') (fun _ s7 => Q s7) E s6 :=
    fun I6 q => gone_ok (I6.unsuite ok) hN hi hln q
  unfold SP at ends ⊢
  split at ends
  all_goals first
    | (obtain ⟨σ6, H6, I6, q⟩ := ends; exact back I6 fun _ I7 => ⟨_, _, I7, q⟩)
    | (obtain ⟨v, σ6, H6, I6, r, q⟩ := ends; exact back I6 fun _ I7 => ⟨v, _, _, I7, r, q⟩)
/-- the suite of a clause without a name runs -/
theorem suite_plain {pos' : Pos} {b0 : Stmt} {suite : List Stmt} {ts : TS} {R : Result → Shared → Prop} (S : Stood X pins Z σ H a B sI s) (ok : X.Ok) (hf : X.env.frame = some X.env.locals)
    (hsu : ∀ oe : Obj, Z oe → (∃ vs, oe.data = .fields vs) → PSs (X.suite a ((a, oe) :: (X.pn ++ pins))) (b0 :: suite) ts) (w : ts De σ H) (hR : ∀ f s', SP X pins De f s' → R (.ok f) s') :
    codeAny (model X.prog X.w) (X.A.mark (some (.ref a))) (.handlers (.ref a) [.ExceptHandler none none (b0 :: suite) pos'] X.env) R s := by
  refine codeAny_handlers_suite (HandSPX.lands_againZ S.fly fun h f up => ?_)
  obtain ⟨oe, z, rec, -, I⟩ := (S.moved f up).enter hf
  exact wpAny_mono ((hsu oe z rec).run [] _ σ H _ I w) (fun fl s6 ends => hR fl s6 (SP.carry ends fun I6 => I6.unsuite ok)) fun _ _ none => False.elim none
end
section
variable {X : Cx} {pins : List (Addr × Obj)} {σ : L2.St} {H : Hp} {a : Addr} {B : Heap} {sI s : Shared} {De : Ends}
/-- one clause after the other -/
theorem clauses {Wout : WX} {cls : Value} {d : Option Addr} (ok : X.Ok) (hf : X.env.frame = some X.env.locals) (hN : X.N.Nodup) (S : Stood X pins (Zc cls d) σ H a B sI s)
    (out : Wout cls d σ H → ∀ h, HandSPX.HeldZ B (X.env :: X.outer) a (Zc cls d) X.env.locals h → s.heap.UpToSlots h → X.xe (.ref a) { s with heap := h }) :
    ∀ {hds : List ExceptHandler} {l : List Clause}, HdC X hds l → wCls X.K Wout De l cls d σ H → wpAny (model X.prog X.w) X.A (handleBy (.ref a) X.env hds) (SP X pins De) X.xe s := by
  intro hds l hh
  induction hh with
  | nil => exact fun w => S.on hf (out w)
  | named nm hi hln hsu _ ih =>
    rintro ⟨b, is, yes, no⟩
    refine wpAny_handleBy_cons (codeAny_handlers_test (S.word hf nm (S.asked (fun _ z => z.1) is ?_))) nofun
    cases b
    · exact ih (no rfl)
    · exact suite_named (ts := _) S ok hN hf hi hln (fun oe z rec => hsu a oe cls d _ z rec) (yes rfl a S.free) fun f s' z => z
  | plain nm hsu _ ih =>
    rintro ⟨b, is, yes, no⟩
    refine wpAny_handleBy_cons (codeAny_handlers_test (S.word hf nm (S.asked (fun _ z => z.1) is ?_))) nofun
    cases b
    · exact ih (no rfl)
    · exact suite_plain (ts := _) S ok hf (fun oe z rec => hsu a oe cls d _ z rec) (yes rfl a S.free) fun f s' z => z
end
section
variable {X : Cx} {body : List Stmt} {h0 : ExceptHandler} {hds : List ExceptHandler} {l : List Clause} {pos : Pos} {tb : WX → TS} {Wout : WX}
theorem ps_tryC (hs : X.stack = X.env :: X.outer) (hf : X.env.frame = some X.env.locals) (hN : X.N.Nodup) (tk : Takes X Wout)
    (hb : ∀ (W : WX) (pn : List (Addr × Obj)) (xe : Value → Shared → Prop), Takes (X.tr pn xe) W → PassesOwn (model X.prog X.w) X.A X.env xe → PSs (X.tr pn xe) body (tb W)) (hh : HdC X (h0 :: hds) l) :
    PS X (.Try body (h0 :: hds) [] [] pos) (fun De σ H => tb (wCls X.K Wout De l) De σ H) where
  run pins s σ H De I h := by
    have ok := I.ok
    refine wpAny_Try_except (wpAny_mono ((hb (wCls X.K Wout De l) (X.pn ++ pins) (fun e s1 => wpAny (model X.prog X.w) X.A (noteFrame e X.env) (fun _ s2 => wpAny (model X.prog X.w) X.A (setFlight e none) (fun _ s3 => wpAny (model X.prog X.w) X.A (handleBy e X.env (h0 :: hds)) (SP X pins De) X.xe s3) X.xe s2) X.xe s1)
      (fun u s' xx => ?_) PassesOwn.looking).run [] s σ H De (I.toTry _) h) (fun f s1 ends => ?_) fun _ _ e => e)
    · exact stand hs hf ok xx fun a B sI s2 σ2 H2 cls d S w => clauses ok hf hN S (fun out h held up => tk _ _ ⟨a, B, sI, pins, σ2, H2, cls, d, rfl, S.left, S.apart, S.since.trans up, .inr (.inr (hs ▸ held)), S.free, S.os, S.bare, out⟩) hh w
    · have ends' := SP.carry ends fun J => J.ofTry ok
      cases f
      · exact wpAny_execs_nil ends'
      all_goals exact ends'
end
end
end DL
namespace DL
open PySem L2
def pickC {m : Type → Type} [Mo m] {α β : Type} : List (Str × (D → m (Fl α β))) → Exn → m (Fl α β)
  | [], e => Mo.lift (.ex e)
  | (c, h) :: r, e => if e.c = c then Mo.noex (h e.d) else pickC r e
def tryFs {m : Type → Type} [Mo m] {α β : Type} (L : List (Str × Str)) (x : m (Fl α β)) (hs : List (Str × (D → m (Fl α β)))) : m (Fl α β) :=
  Mo.tryC x fun e => if (e.c, e.f) ∈ L then pickC hs e else Mo.lift .stuck
section
variable {X : Cx} {fx : Fx} {m : Type → Type} [Mo m] {G G' : List Sl} {α β ε : Type} {kk : Nat} {exA : ε → List Sl} {exb : β → List Sl} {L : List (Str × Str)}
/-- the clauses, read as data -/
inductive HdS (X : Cx) (fx : Fx) (L : List (Str × Str)) (G' : List Sl) {m : Type → Type} [Mo m] {ε β : Type} (exA : ε → List Sl) (exb : β → List Sl) : List ExceptHandler → List (Str × (D → m (Fl ε β))) → Prop
  | nil : HdS X fx L G' exA exb [] []
  | named {x n : Str} {C : Addr} {f0 : Str} {b0 : Stmt} {suite : List Stmt} {np pos : Pos} {hds : List ExceptHandler} {l : List (Str × (D → m (Fl ε β)))} {xs : D → m (Fl ε β)} (i : Nat) (hkn : Known X.K X.mg L x C) (hL0 : ∀ q ∈ L, q.1 = x → q.2 = f0) (hmg : X.mg x = some (.ref C)) (hun : ∀ a, (exA a)[i]? = some .un) (hunb : ∀ b, (exb b)[i]? = some .un)
      (hi : X.N[i]? = some n) (hln : X.env.kindOf n = some .local) (hg : Gl X x) (hdb : (x == ("__debug__" : Str)) = false)
      (hs : ∀ (a : Addr) (oe : Obj) (dd : Addr) (d : D) (pn : List (Addr × Obj)), Zc (.ref C) (some dd) oe → (∃ vs, oe.data = .fields vs) → PSs (X.suite a ((a, oe) :: pn)) (b0 :: suite) (tS X.K X.mg fx.nox (G'.set i (.im (.xc a dd f0 d))) exA exb (xs d))) (r : HdS X fx L G' exA exb hds l) :
      HdS X fx L G' exA exb (.ExceptHandler (some (.Name x np)) (some n) (b0 :: suite) pos :: hds) ((x, xs) :: l)
  | plain {x : Str} {C : Addr} {b0 : Stmt} {suite : List Stmt} {np pos : Pos} {hds : List ExceptHandler} {l : List (Str × (D → m (Fl ε β)))} {xs : m (Fl ε β)} (hkn : Known X.K X.mg L x C) (hmg : X.mg x = some (.ref C)) (hg : Gl X x) (hdb : (x == ("__debug__" : Str)) = false)
      (hs : ∀ (a : Addr) (oe : Obj) (pn : List (Addr × Obj)), PSs (X.suite a ((a, oe) :: pn)) (b0 :: suite) (tS X.K X.mg fx.nox G' exA exb xs)) (r : HdS X fx L G' exA exb hds l) :
      HdS X fx L G' exA exb (.ExceptHandler (some (.Name x np)) none (b0 :: suite) pos :: hds) ((x, fun _ => xs) :: l)
theorem hdS_ok {hds : List ExceptHandler} {l : List (Str × (D → m (Fl ε β)))} (hx' : GxOk fx G') (h : HdS X fx L G' exA exb hds l) : ∃ cl : List Clause, HdC X hds cl ∧ ∀ {De : Ends} {Hf Hf1 H1 : Hp} {σ1 : L2.St} {s1 : S} {e : Exn} {cls : Value} {dd : Option Addr}, Sub Hf Hf1 → StS X.K X.mg fx Hf1 H1 σ1 G' s1 → (e.c, e.f) ∈ L → ExIs X.K X.mg Hf1 H1 e cls dd →
    Mo.wp (pickC l e) s1 (FP X.K X.mg fx Hf exA exb De) (EXS X.K X.mg fx) → wCls X.K fx.W De cl cls dd σ1 H1 := by
  induction h with
  | nil => exact ⟨[], .nil, fun {De Hf Hf1 H1 σ1 s1 e cls dd} sb st hL xi w => exs_ex hx' (Mo.wp_lift w) _ _ Hf1 H1 st xi⟩
  | @named x n C f0 b0 suite np pos hds l xs i hkn hL0 hmg hun hunb hi hln hg hdb hs r ih =>
    obtain ⟨cl, hcl, hw⟩ := ih
    refine ⟨(.ref C, some i, fun a cls d De σ H => ∃ p : Addr × DL.D, cls = .ref C ∧ d = some p.1 ∧ tS X.K X.mg fx.nox (G'.set i (.im (.xc a p.1 f0 p.2))) exA exb (xs p.2) De σ H) :: cl, .named ⟨hg, hdb, .inl hmg⟩ hi hln (fun a oe cls d pn hz hf => ⟨fun pins s σ H De I ⟨p, ec, ed, q⟩ => by
      subst ec ed
      exact (hs a oe p.1 p.2 pn hz hf).run pins s σ H De I q⟩) hcl, ?_⟩
    intro De Hf Hf1 H1 σ1 s1 e cls dd sb st hL xi w
    obtain ⟨C1, p, v, m1, e1, e2, hd, is1⟩ := id xi
    subst e1 e2
    refine ⟨decide (e.c = x), hkn _ hL C1 m1, fun hb a ha => ?_, fun hb => ?_⟩
    · have ec : e.c = x := of_decide_eq_true hb
      have w' : Mo.wp (if e.c = x then Mo.noex (xs e.d) else pickC l e) s1 _ _ := w
      rw [if_pos ec] at w'
      have eC : C1 = C := by rw [ec, hmg] at m1; cases m1; rfl
      subst eC
      have ef : e.f = f0 := hL0 _ hL ec
      rw [ef] at hd
      refine ⟨(p, e.d), rfl, rfl, Hf1, s1, StS.nox (st.set (v := .ref a) (d := .xc a p f0 e.d) ⟨rfl, v, hd, is1⟩), Mo.wp_mono (Mo.wp_noex w') (fun f s2 h2 => ?_) fun _ _ z => z.elim⟩
      cases f with
      | nx a' => exact fun Hf' H' σ' sb' st' => h2 Hf' H' _ (sb.trans sb') (StS.empty (unNox st') (hun a'))
      | rt d => exact fun v Hf' H' e bg r => h2 v Hf' H' e bg r
      | bk b => exact fun Hf' H' σ' sb' st' => h2 Hf' H' _ (sb.trans sb') (StS.empty (unNox st') (hunb b))
      | ct b => exact fun Hf' H' σ' sb' st' => h2 Hf' H' _ (sb.trans sb') (StS.empty (unNox st') (hunb b))
    · have ec : ¬ e.c = x := of_decide_eq_false hb
      have w' : Mo.wp (if e.c = x then Mo.noex (xs e.d) else pickC l e) s1 _ _ := w
      rw [if_neg ec] at w'
      exact hw sb st hL xi w'
  | @plain x C b0 suite np pos hds l xs hkn hmg hg hdb hs r ih =>
    obtain ⟨cl, hcl, hw⟩ := ih
    refine ⟨(.ref C, none, fun a cls d De σ H => tS X.K X.mg fx.nox G' exA exb xs De σ H) :: cl, .plain ⟨hg, hdb, .inl hmg⟩ (fun a oe cls d pn hz hf => hs a oe pn) hcl, ?_⟩
    intro De Hf Hf1 H1 σ1 s1 e cls dd sb st hL xi w
    obtain ⟨C1, p, v, m1, e1, e2, hd, is1⟩ := id xi
    subst e1 e2
    refine ⟨decide (e.c = x), hkn _ hL C1 m1, fun hb a ha => ?_, fun hb => ?_⟩
    · have ec : e.c = x := of_decide_eq_true hb
      have w' : Mo.wp (if e.c = x then Mo.noex xs else pickC l e) s1 _ _ := w
      rw [if_pos ec] at w'
      refine ⟨Hf1, s1, StS.nox st, Mo.wp_mono (Mo.wp_noex w') (fun f s2 h2 => ?_) fun _ _ z => z.elim⟩
      cases f with
      | nx a' => exact fun Hf' H' σ' sb' st' => h2 Hf' H' _ (sb.trans sb') (unNox st')
      | rt d => exact fun v Hf' H' e bg r => h2 v Hf' H' e bg r
      | bk b => exact fun Hf' H' σ' sb' st' => h2 Hf' H' _ (sb.trans sb') (unNox st')
      | ct b => exact fun Hf' H' σ' sb' st' => h2 Hf' H' _ (sb.trans sb') (unNox st')
    · have ec : ¬ e.c = x := of_decide_eq_false hb
      have w' : Mo.wp (if e.c = x then Mo.noex xs else pickC l e) s1 _ _ := w
      rw [if_neg ec] at w'
      exact hw sb st hL xi w'
variable {body rest : List Stmt} {h0 : ExceptHandler} {hds : List ExceptHandler} {ex : α → List Sl} {xb : m (Fl ε β)} {l : List (Str × (D → m (Fl ε β)))} {k : ε → m (Fl α β)} {pos : Pos}
theorem dss_tryC (Ck : Cok X fx kk) (hst : X.stack = X.env :: X.outer) (hfr : X.env.frame = some X.env.locals)
    (hb : ∀ W pn xe B, Cok (X.tr pn xe) (fx.tried W B G') kk → PSs (X.tr pn xe) body (tS X.K X.mg (fx.tried W B G') G exA exb xb)) (hh : HdS X fx L G' exA exb (h0 :: hds) l)
    (hr : ∀ a, PSs X rest (tS X.K X.mg fx (exA a) ex exb (k a)))
    (hx' : GxOk fx G' := by first | trivial | repeat' (first | exact True.intro | exact Or.inl rfl | exact Or.inr rfl | refine And.intro ?_ ?_)) :
    PSs X (.Try body (h0 :: hds) [] [] pos :: rest) (tS X.K X.mg fx G ex exb (seqF (tryFs L xb l) k)) := by
  obtain ⟨cl, hcl, hw⟩ := hdS_ok hx' hh
  refine pssI (pss_cons (ps_tryC (tb := fun W D σ H => ∃ B, tS X.K X.mg (fx.tried W B G') G exA exb xb D σ H) (Wout := fx.W) hst hfr Ck.nd Ck.tk (fun W pn xe tk hp => pss_ex fun B => hb W pn xe B ⟨Ck.calm, hp, tk, Ck.rm, Ck.nd, Ck.gd⟩) hcl) (pss_ex hr)) fun De σ H ⟨Hf, s, h⟩ => ?_
  obtain ⟨st, w⟩ := h.seq (exA := exA)
  refine ⟨Hf, Hf, s, st.tried _ _, Mo.wp_mono (Mo.wp_try w) (fun f s1 h1 => ?_) (fun e s1 h1 => ?_)⟩
  · cases f with
    | nx a => exact fun Hf' H' σ' sb st' => h1 Hf' H' σ' sb (st.back st')
    | rt d => exact fun v Hf' H' e bg r => h1 v Hf' H' (st.ste.back e) bg r
    | bk b => exact fun Hf' H' σ' sb st' => h1 Hf' H' σ' sb (st.back st')
    | ct b => exact fun Hf' H' σ' sb st' => h1 Hf' H' σ' sb (st.back st')
  · intro cls dd σ1 Hf1 H1 xs1 xi
    have st1 : StS X.K X.mg (fx.tried _ Hf G') Hf1 H1 σ1 G' s1 := xs1
    by_cases hL : (e.c, e.f) ∈ L
    · rw [if_pos hL] at h1
      exact hw st1.ste.sub (st.back st1) hL xi h1
    · rw [if_neg hL] at h1
      exact (Mo.wp_lift h1).elim
end
end DL
/-! ### isinstance of the caught error -/
namespace DL
open PySem PySem.Spec PyProof.Rows L2
end DL
/-! ### calls by their shape; classes: objects as data -/
namespace DL
open PySem PySem.Spec PyProof.Rows L2
theorem guards_make {A : Around} {C : Addr} {us : List Value} {kw : List (Str × Value)} (h : A.guards = some []) : (A.under (.builtin "type.__call__" ⟨.ref C :: us, kw⟩)).guards = some [] := by
  first | exact h | simp [Around.under, Code.weight, Code.isCreation, Code.isGuard, Code.isCaller, Code.frames, Code.isFrame, guardIds, h]
/-- a promise by a call's shape: values by position, then those by the names ks -/
def FnP (P : Program) (w : World) (K : PySem.W.Frag) (mg : Str → Option Value) (base : Heap) (k : Nat) (f : Addr) (ks : List Str) (sp : Sp) : Prop :=
  ∀ (A : Around) (outer : List Env) (s : Shared) (H : Hp) (us ws : List Value) (vs : List V) (Q : VK) (E : XK), A.guards = some [] → Room k A → Env0 P w K mg base A outer s H → ws.length = ks.length → Vals vs (us ++ ws) → sp vs H Q E →
    codeAny (model P w) A (.call (.ref f) ⟨us, ks.zip ws⟩) (CR (L2.CX P w) outer P w H s Q E) s
section
variable {P : Program} {w : World} {K : PySem.W.Frag} {mg : Str → Option Value} {base : Heap} {j k : Nat} {f : Addr} {fd : FuncData} {ps ks : List Str} {sp sp' : Sp}
theorem FnP.mono (F : FnP P w K mg base j f ks sp) (h : j ≤ k) : FnP P w K mg base k f ks sp := fun A outer s H us ws vs Q E hg hr => F A outer s H us ws vs Q E hg (hr.mono h)
theorem FnP.imp (F : FnP P w K mg base k f ks sp) (h : ∀ vs H Q E, sp' vs H Q E → sp vs H Q E) : FnP P w K mg base k f ks sp' := fun A outer s H us ws vs Q E hg hr e0 hw r hs => F A outer s H us ws vs Q E hg hr e0 hw r (h _ _ _ _ hs)
/-- by position -/
theorem FnG.pos (F : FnG P w K mg base k f fd ps sp) (hb : Binds K fd ps []) : FnP P w K mg base k f [] sp := fun A outer s H us ws vs Q E hg hr e0 hw r hs => by
  have e : ws = [] := List.length_eq_zero_iff.mp hw
  subst e
  rw [List.append_nil] at r
  have hl : (us ++ []).length = ps.length := by
    rw [List.append_nil, ← r.length]
    exact F.len _ _ _ _ hs
  have b := hb s us (e0.mod.kin.keeps fun b o e => (e0.bs b o e).1) hl
  rw [List.append_nil] at b
  exact F.run A outer s H ⟨us, []⟩ us vs Q E hg hr e0 b r hs
end
section
variable {X : Cx} {k : Nat} {f C : Addr} {ks : List Str} {sp : Sp} {E : L2.St → XK} {x m : Str} {p pos apos : Pos} {e o : Expr} {es : List Expr} {kws : List Keyword} {ta : TE} {t tk : TA}
/-- a class is called -/
theorem run_makeP {pins : List (Addr × Obj)} {σ : L2.St} {H : Hp} {s : Shared} {Q : VK} {us ws : List Value} {vs : List V} (M : Mk X.K C f) (F : FnP X.prog X.w X.K X.mg X.base k f ks sp) (hg : X.A.guards = some []) (hr : Room (k + 1) X.A)
    (hx : PassesAt (L2.CX X.prog X.w) X σ (E σ)) (I : L2.Inv X pins σ H s) (hw : ws.length = ks.length) (r : Vals vs (us ++ ws))
    (h : ∀ x dx, H x = none → H dx = none → dx ≠ x → sp (.ref x :: vs) (upd (upd H dx (.own x)) x (.ins C dx [])) (fun v H2 => v = .non ∧ Q (.ref x) H2) (E σ)) :
    wpAny (model X.prog X.w) X.A (call (.ref C) us (ks.zip ws)) (EP X pins σ Q) X.xe s := by
  have hq := h (s.heap.objs.size + 1) s.heap.objs.size (I.hok.fresh (Nat.le_succ _)) (I.hok.fresh (Nat.le_refl _)) (Nat.ne_of_lt (Nat.lt_succ_self _))
  have I2 := L2.Inv.made (C := C) I
  have r2 : Vals (V.ref (s.heap.objs.size + 1) :: vs) ((Value.ref (s.heap.objs.size + 1) :: us) ++ ws) := .cons rfl r
  refine wpAny_call (make_map (f := f) I.kIn M.makes M.init (beq_iff_eq.mp M.fn) (codeAny_mono (F _ X.stack _ _ (Value.ref (s.heap.objs.size + 1) :: us) ws _ _ (E σ) (guards_make hg) (hr.make C us (ks.zip ws))
    (I2.env0.make C us (ks.zip ws)) hw r2 hq) fun r s' hq' => ?_))
  cases r with
  | error e => exact hx pins _ _ e s' I2 hq'
  | ok fl =>
    cases fl with
    | ret u =>
      obtain ⟨v, H', I3, rv, ev, q3⟩ := I2.after hq'
      subst ev
      exact ⟨rv, ⟨V.ref (s.heap.objs.size + 1), H', I3, rfl, q3⟩⟩
    | next => exact False.elim hq'
    | brk => exact False.elim hq'
    | cont => exact False.elim hq'
end
theorem evalArgs_kw0 {M : Model} {A : Around} {E : Value → Shared → Prop} {s : Shared} {f : Value} {keywords : List (Option Str × Sem Value)} {Q : Args → Shared → Prop}
    (hall : keywords.all (·.1.isSome) = true)
    (h : wpAny M A (spliced []) (fun vs s₁ => wpAny M A (evalAll (keywords.map (·.2))) (fun ks s₂ => Q ⟨vs, (keywords.filterMap (·.1)).zip ks⟩ s₂) E s₁) E s) :
    wpAny M A (evalArgs f true [] keywords) Q E s := by
  unfold evalArgs
  show wpAny M A (spliced [] >>= _) Q E s
  refine wpAny_bind (wpAny_mono h (fun vs s₁ h₁ => ?_) fun _ _ x => x)
  refine wpAny_bind (wpAny_pure ?_)
  refine wpAny_holding ?_
  simp only [hall, if_true]
  refine wpAny_bind (wpAny_mono h₁ (fun ks s₂ h₂ => ?_) fun _ _ x => x)
  exact wpAny_bind (wpAny_pure (wpAny_pure h₂))
def ArgHd (env : Env) : List Expr → Prop
  | [] => True
  | e :: es => starEach (e :: es) env = (false, eval e env) :: starEach es env
/-- the arguments of a call, by position and by name -/
theorem args_run {X : Cx} {es : List Expr} {kws : List Keyword} {ks : List Str} {t tk : TA} {pos : Pos} {f : Value} {first : List Value} {pins : List (Addr × Obj)} {s : Shared} {σ : L2.St} {H : Hp} {Q : VK}
    (hkp : PySem.W.keepIn X.K f = true) (ha : PA X es t) (hk : PK X kws tk) (I : L2.Inv X pins σ H s)
    (h : t σ H fun vs H1 => tk σ H1 fun zs H2 => zs.length = ks.length ∧ ∀ s2 us ws, L2.Inv X pins σ H2 s2 → ws.length = ks.length → Vals (vs ++ zs) (us ++ ws) → wpAny (model X.prog X.w) X.A (call f (first ++ us) (ks.zip ws)) (EP X pins σ Q) X.xe s2)
    (he : ArgHd X.env es := by first | exact True.intro | exact rfl)
    (hks : (backToKw pos (keywordEach kws X.env)).filterMap (·.1) = ks := by rfl)
    (hall : (backToKw pos (keywordEach kws X.env)).all (·.1.isSome) = true := by rfl)
    (hpl : ((backTo pos (starEach es X.env)).any (·.1) || (backToKw pos (keywordEach kws X.env)).any (·.1.isNone)) = false := by rfl) :
    wpAny (model X.prog X.w) X.A (callWith pos f first (backTo pos (starEach es X.env)) (backToKw pos (keywordEach kws X.env))) (EP X pins σ Q) X.xe s := by
  have fin : ∀ {us : List Value} {vs : List V} {H1 : Hp} {s1 : Shared}, L2.Inv X pins σ H1 s1 → Vals vs us → (tk σ H1 fun zs H2 => zs.length = ks.length ∧ ∀ s2 us ws, L2.Inv X pins σ H2 s2 → ws.length = ks.length → Vals (vs ++ zs) (us ++ ws) → wpAny (model X.prog X.w) X.A (call f (first ++ us) (ks.zip ws)) (EP X pins σ Q) X.xe s2) →
      wpAny (model X.prog X.w) X.A (evalAll ((backToKw pos (keywordEach kws X.env)).map (·.2))) (fun ws s₂ => X.K.In s₂.heap ∧ wpAny (model X.prog X.w) X.A (call f (first ++ us) (((backToKw pos (keywordEach kws X.env)).filterMap (·.1)).zip ws)) (EP X pins σ Q) X.xe s₂) X.xe s1 := by
    intro us vs H1 s1 I1 r q
    refine thn (hk.run pos pins s1 σ H1 _ I1 q) fun ws s2 ⟨zs, H2, I2, rz, hz, q2⟩ => ⟨I2.kIn, ?_⟩
    rw [hks]
    exact q2 s2 us ws I2 (rz.length.symm.trans hz) (r.append rz)
  cases es with
  | nil => exact PySem.W.callWith_of hpl (PySem.W.keeps_K hkp) (evalArgs_kw0 hall (thn (ha.run pos pins s σ H _ I h) fun us s1 ⟨vs, H1, I1, r, q⟩ => fin I1 r q))
  | cons e es => exact PySem.W.callWith_of hpl (PySem.W.keeps_K hkp) (evalArgs_kw2 hall (thn (ha.run pos pins s σ H _ I h) fun us s1 ⟨vs, H1, I1, r, q⟩ => fin I1 r q) he)
/-! ### the making of an object -/
def runI : R (Fl (List D) Empty) → R (List D)
  | .ok (.nx es) => .ok es
  | .ok (.rt _) => .stuck
  | .ok (.bk b) => b.elim
  | .ok (.ct b) => b.elim
  | .ex e => .ex e
  | .stuck => .stuck
def spI (K : PySem.W.Frag) (mg : Str → Option Value) (ns : List Str) (L : Nat → Prop) (g : List D → R (List D)) : Sp := fun vs H Q E => L vs.length ∧ ∃ x C dx rest Hf ds, vs = .ref x :: rest ∧ Sub Hf H ∧ Hf x = none ∧ H x = some (.ins C dx []) ∧ Cls K C ∧ (∀ f ∈ ns, NoAttr K C f) ∧ IsL K mg Hf ds rest ∧ (match g ds with
  | .ok es => ∀ us Hf' H', Ste [x] Hf H Hf' H' → H' x = some (.ins C dx (ns.zip us)) → ns.length = us.length → IsL K mg Hf' es us → Hf' x = none → Q .non H'
  | .ex e => ∀ cls dd Hf' H', Ste [x] Hf H Hf' H' → ExIs K mg Hf' H' e cls dd → E cls dd H'
  | .stuck => False)
abbrev fxI (ns : List Str) (x : Addr) (H Hf : Hp) (E : XK) : Fx := ⟨[], H, Hf, fun cls d _ H' => E cls d H', none, false, [x], ns⟩
def GI (N : List Str) (ds : List D) : List Sl := .ob [] [] :: (ds.map Sl.im ++ List.replicate (N.length - ds.length - 1) .un)
def exI (N ns : List Str) (es : List D) : List Sl := .ob ns es :: (N.tail.map fun _ => .un)
section
variable {K : PySem.W.Frag} {mg : Str → Option Value}
theorem StS.initI {Hf H : Hp} {E : XK} {ds : List D} {vs : List V} {N : List Str} {s : S} {x C dx : Addr} (sb : Sub Hf H) (hf : Hf x = none) {ns : List Str} (hx : H x = some (.ins C dx [])) (c : Cls K C) (na : ∀ f ∈ ns, NoAttr K C f) (l : IsL K mg Hf ds vs) (hn : vs.length + 1 ≤ N.length) :
    StS K mg (fxI ns x H Hf E) Hf H (start N (.ref x :: vs)) (GI N ds) s := by
  refine ⟨.refl sb, trivial, fun b m => ?_, ?_, fun i y e => ?_, fun i j y z p ne ey ez oy oz e1 e2 => ?_⟩
  · have : b = x := by
      rcases List.mem_append.mp m with m | m
      · simpa using m
      · cases m
    subst this
    exact ⟨hf, by rw [hx]; simp, fun _ => by show H b ≠ none; rw [hx]; simp⟩
  · rw [start_len (by simpa using hn)]
    unfold GI
    have := l.len
    simp
    omega
  · cases i with
    | zero =>
      cases e
      exact ⟨x, C, dx, [], start_at rfl, hx, hf, ⟨by simp, [], hx⟩, by simp, ⟨c, na⟩, rfl, rfl⟩
    | succ i =>
      have e' : (ds.map Sl.im ++ List.replicate (N.length - ds.length - 1) .un)[i]? = some y := e
      have q := slOk_G0 (fx := fxI ns x H Hf E) (H := H) (N := N) l e'
      cases y with
      | un => trivial
      | im d =>
        obtain ⟨v, hv, hi⟩ := q
        refine ⟨v, ?_, hi⟩
        cases h : vs[i]? with
        | none => rw [h] at hv; cases hv
        | some w => rw [h] at hv; cases hv; exact start_at (by simpa using h)
      | ow ds => exact (isOw_im e' rfl).elim
      | od ks ds => exact (isOw_im e' rfl).elim
      | ob ns ds => exact (isOw_im e' rfl).elim
      | bg =>
        obtain ⟨b, r, e, _⟩ := q
        cases e
  · have z1 : i = 0 := by
      cases i with
      | zero => rfl
      | succ i => exact (isOw_im (n := N.length - ds.length - 1) (ds := ds) (i := i) ey oy).elim
    have z2 : j = 0 := by
      cases j with
      | zero => rfl
      | succ j => exact (isOw_im (n := N.length - ds.length - 1) (ds := ds) (i := j) ez oz).elim
    exact ne (z1.trans z2.symm)
end
theorem runI_read {K : PySem.W.Frag} {mg : Str → Option Value} {ns N : List Str} {o C dx : Addr} {H Hf : Hp} {E : XK} {Q : VK} {body : R (Fl (List D) Empty)} {s : S} (hx : H o = some (.ins C dx []))
    (q : match runI body with
      | .ok es => ∀ us Hf' H', Ste [o] Hf H Hf' H' → H' o = some (.ins C dx (ns.zip us)) → ns.length = us.length → IsL K mg Hf' es us → Hf' o = none → Q .non H'
      | .ex e => ∀ cls dd Hf' H', Ste [o] Hf H Hf' H' → ExIs K mg Hf' H' e cls dd → E cls dd H'
      | .stuck => False) :
    Mo.wp body s (FP K mg (fxI ns o H Hf E) Hf (exI N ns) Empty.elim { nx := fun _ H' => Q .non H', rt := Q }) (EXS K mg (fxI ns o H Hf E)) := by
  show R.wp body _ _ _
  cases body with
  | ok f =>
    cases f with
    | nx es =>
      refine fun Hf' H' σ' _ st => ?_
      obtain ⟨p, C', dx', us, ep, hp', hf', ⟨hm, f0, h00⟩, _, _, hl2, l2⟩ := st.sl 0 _ rfl
      have e1 : p = o := by simpa using hm
      subst e1
      have e2 : C' = C ∧ dx' = dx := by
        have z : H p = some (.ins C' dx' f0) := h00
        rw [hx] at z
        cases z
        exact ⟨rfl, rfl⟩
      obtain ⟨rfl, rfl⟩ := e2
      exact q us Hf' H' st.ste hp' hl2 l2 hf'
    | rt d => exact (show False from q).elim
    | bk b => exact b.elim
    | ct b => exact b.elim
  | ex e => exact fun cls dd σ' Hf' H' st x => q cls dd Hf' H' st.1 x
  | stuck => exact q
section
variable {P : Program} {w : World} {K : PySem.W.Frag} {mg : Str → Option Value} {base : Heap}
/-- an __init__ by its body -/
theorem fnI {x qual : Str} {st : Stmt} {f : Addr} {fd : FuncData} {N ps ns : List Str} {k n : Nat} {g : List D → R (List D)} (F : Fun K x qual st f fd) (Sc : FnScope N ps (defScope st)) (hn : ps.length = n + 1) (hN : n + 1 ≤ N.length)
    (hb : ∀ (cdv : Value) (A : Around) (outer : List Env) (s : Shared) (H Hf : Hp) (E : XK) (o : Addr) (ds : List D), Cok (cxOf (L2.CX P w) P w K mg base N qual (defScope st) f cdv A outer s H E) (fxI ns o H Hf E) k → ds.length = n →
      ∃ body : R (Fl (List D) Empty), PSs (cxOf (L2.CX P w) P w K mg base N qual (defScope st) f cdv A outer s H E) (defBody st)
        (tS (cxOf (L2.CX P w) P w K mg base N qual (defScope st) f cdv A outer s H E).K (cxOf (L2.CX P w) P w K mg base N qual (defScope st) f cdv A outer s H E).mg (fxI ns o H Hf E) (GI N ds) (exI N ns) Empty.elim body) ∧ g ds = runI body) :
    FnG P w K mg base (k + 1) f fd ps (spI K mg ns (fun l => l = n + 1) g) := by
  refine fn_g F Sc (fun vs H Q E h => h.1.trans hn.symm) (fun cdv A outer s H vs Q E gd hr h => ?_)
  obtain ⟨hl, o, C, dx, rest, Hf, ds, rfl, sb, hf, hx, c, na, l, q⟩ := h
  have Ck : Cok (cxOf (L2.CX P w) P w K mg base N qual (defScope st) f cdv A outer s H E) (fxI ns o H Hf E) k := ⟨rfl, passes_of rfl, takes_of rfl rfl rfl rfl, hr, Sc.nd, gd⟩
  have hl' : rest.length = n := by simpa using hl
  obtain ⟨body, hp, hg⟩ := hb cdv A outer s H Hf E o ds Ck (l.len.trans hl')
  refine ⟨_, hp, Hf, ⟨0, 0, 0, [], false⟩, .initI sb hf hx c na l (by omega), ?_⟩
  rw [hg] at q
  exact runI_read hx q
end
section
variable {X : Cx} {fx : Fx} {m : Type → Type} [Mo m] {G : List Sl} {α β : Type} {kk : Nat} {e : Expr} {rest : List Stmt} {ex : α → List Sl} {exb : β → List Sl} {pos pos' : Pos} {x : m D} {k : D → m (Fl α β)} {f n : Str} {np : Pos} {ns : List Str} {ds : List D}
theorem putF_new {f : Str} {y : V} : ∀ {ns : List Str} {vs : List V}, ns.length = vs.length → f ∉ ns → putF f y (ns.zip vs) = (ns ++ [f]).zip (vs ++ [y])
  | [], [], _, _ => rfl
  | g :: ns, v :: vs, hl, hn => by
    have h1 : g ≠ f := fun z => hn (by simp [z])
    show putF f y ((g, v) :: ns.zip vs) = (g, v) :: (ns ++ [f]).zip (vs ++ [y])
    unfold putF
    rw [if_neg h1, putF_new (by simpa using hl) fun z => hn (List.mem_cons_of_mem _ z)]
  | [], _ :: _, hl, _ => by simp at hl
  | _ :: _, [], hl, _ => by simp at hl
/-- self.f = e, in __init__ -/
theorem dss_fld (i : Nat) (he : PE X e (tE X.K X.mg fx G x)) (hr : ∀ d, PSs X rest (tS X.K X.mg fx (G.set i (.ob (ns ++ [f]) (ds ++ [d]))) ex exb (k d))) (hG : G[i]? = some (.ob ns ds) := by rfl) (hN : X.N[i]? = some n := by rfl) (hf : f ∉ ns := by decide +kernel) (hm : f ∈ fx.nas := by decide +kernel) (hz : ns.length < 1000 := by decide)
    (hv : Vis X.env.scope n := by first | exact Or.inl rfl | exact Or.inr (Or.inl rfl) | exact Or.inr (Or.inr rfl)) (hd : (n == ("__debug__" : Str)) = false := by decide) (hcd : (n == ("__classdict__" : Str)) = false := by decide)
    (hs : swapsWith e (some (.Attribute (.Name n np) f pos')) pos.line X.env = pure false := by rfl) (hg : GxOk fx G := by first | trivial | repeat' (first | exact True.intro | exact Or.inl rfl | exact Or.inr rfl | refine And.intro ?_ ?_)) :
    PSs X (.Assign [.Attribute (.Name n np) f pos'] e pos :: rest) (tS X.K X.mg fx G ex exb (x >>= k)) := pssI (pss_cons (ps_fld (pe_var hN hv hd hcd) he hs) (pss_ex hr)) fun De σ H ⟨Hf, s, h⟩ =>
  ((h.bind hg).mono fun v H1 ⟨d, Hf1, s1, sb, r, h1⟩ => by
    obtain ⟨p, C, dx, vs, ep, hp, hf', h0, nb, ⟨c, na⟩, hl, l⟩ := h1.1.sl i _ hG
    refine ⟨.ref p, ep, p, C, dx, ns.zip vs, rfl, hp, c, na _ hm, ?_, d, Hf1, s1, ?_, h1.2⟩
    · rw [List.length_zip, ← hl, Nat.min_self]; exact hz
    · refine h1.1.updAt hG rfl ep rfl ⟨p, C, dx, vs ++ [v], rfl, ?_, hf', h0, nb, ⟨c, na⟩, by simp [hl], l.app (.cons r .nil)⟩
      rw [upd_same, putF_new hl hf]).to
theorem lookup_zip {f : Str} : ∀ {ns : List Str} {vs : List V} {j : Nat} {v : V}, ns.idxOf? f = some j → vs[j]? = some v → (ns.zip vs).lookup f = some v
  | [], _, _, _, e, _ => by cases e
  | g :: ns, [], _, _, _, e => by simp at e
  | g :: ns, v :: vs, j, w, e, e2 => by
    by_cases h : g = f
    · subst h
      have z : j = 0 := by simpa [List.idxOf?, List.findIdx?_cons] using e.symm
      subst z
      simp at e2
      subst e2
      simp
    · have h' : (f == g) = false := by simpa using Ne.symm h
      have h2 : (g == f) = false := by simpa using h
      cases j with
      | zero =>
        exfalso
        simp [List.idxOf?, List.findIdx?_cons, h2] at e
      | succ j =>
        have e' : ns.idxOf? f = some j := by
          simp [List.idxOf?, List.findIdx?_cons, h2] at e ⊢
          exact e
        have := lookup_zip e' (by simpa using e2)
        simpa [List.lookup, h'] using this
/-- self.f, in __init__ -/
theorem de_self (i j : Nat) {d : D} (hG : G[i]? = some (.ob ns ds) := by rfl) (hj : ns.idxOf? f = some j := by decide +kernel) (hd' : ds[j]? = some d := by rfl) (hm : f ∈ fx.nas := by decide +kernel) (hN : X.N[i]? = some n := by rfl)
    (hv : Vis X.env.scope n := by first | exact Or.inl rfl | exact Or.inr (Or.inl rfl) | exact Or.inr (Or.inr rfl)) (hd : (n == ("__debug__" : Str)) = false := by decide) (hcd : (n == ("__classdict__" : Str)) = false := by decide)
    (hb : attributeBase (.Name n np) f X.env (eval (.Name n np) X.env) = eval (.Name n np) X.env := by rfl) :
    PE X (.Attribute (.Name n np) f pos) (tE X.K X.mg fx G (pure d : m D)) := peI (pe_fld (pe_var hN hv hd hcd) hb) fun σ H Q ⟨Hf, s, h⟩ => by
  obtain ⟨p, C, dx, vs, ep, hp, hf', h0, nb, ⟨c, na⟩, hl, l⟩ := h.1.sl i _ hG
  obtain ⟨v, ev, iv⟩ := l.get hd'
  exact ⟨.ref p, ep, p, C, dx, _, v, rfl, hp, c, na _ hm, lookup_zip hj ev, h.pure iv⟩
end
end DL
/-! ### objects: made, read, asked -/
namespace DL
open PySem PySem.Spec PyProof.Rows L2
/-- a class of the program -/
structure ClsN (K : PySem.W.Frag) (mg : Str → Option Value) (c : Str) (C : Addr) : Prop where
  mg : mg c = some (.ref C)
  cl : Cls K C
  ca : PySem.W.findIn K (.ref C) "__class__" = some (some (.builtin "object.__class__"))
  cn : PySem.W.specialIn K (.builtin "object.__class__") "__get__" = some (some (.builtin "getset_descriptor.__get__"))
  ct : PySem.W.takesIn K (.builtin "object.__class__") = some true
  cm : PySem.W.mroIn K C (.type "object") = some true
section
variable {X : Cx} {fx : Fx} {m : Type → Type} [Mo m] {G : List Sl} {es : List Expr} {kws : List Keyword} {ks : List Str} {pos p : Pos} {ys zz : m (List D)} {kk j n : Nat} {c : Str} {C fI : Addr} {ns : List Str} {g : List D → R (List D)}
def kwR {α : Type} (n : Nat) (g : List D → R α) (ds zs : List D) : R α := if zs.length = n then g (ds ++ zs) else .stuck
theorem dk_nil : PK X [] (tA X.K X.mg fx G (pure [] : m (List D))) := ⟨fun pos pins s σ H Q I ⟨Hf, s0, h⟩ => pk_nil.run pos pins s σ H Q I (h.pure rfl)⟩
theorem dk_cons {nm : Option Str} {e : Expr} {x : m D} {kws : List Keyword} {kpos : Pos} (ha : PE X e (tE X.K X.mg fx G x)) (hr : PK X kws (tA X.K X.mg fx G zz)) : PK X (⟨nm, e, kpos⟩ :: kws) (tA X.K X.mg fx G (do let d ← x; let ds ← zz; pure (d :: ds))) :=
  ⟨fun pos pins s σ H Q I ⟨Hf, s0, h⟩ => (pk_cons ha hr).run pos pins s σ H Q I ((h.bind.mono fun v1 H1 ⟨d1, Hf1, s1, sb1, r1, h1⟩ => (h1.bind.mono fun v2 H2 ⟨d2, Hf2, s2, sb2, r2, h2⟩ => h2.pure (IsL.cons (r1.mono sb2) r2)).to).to)⟩
/-- an object is made: what __init__ is asked -/
theorem make_core {vs : List V} {ds : List D} {Hf : Hp} {s : S} {σ : L2.St} {H : Hp} {Q : VK} {x dx : Addr} (cn : ClsN X.K X.mg c C) (na : ∀ f ∈ ns, NoAttr X.K C f) {L : Nat → Prop} (hn : L (ds.length + 1)) (r : IsL X.K X.mg Hf ds vs) (h : tX X.K X.mg fx G (fun H d v => Is X.K X.mg H d v) (Mo.lift (g ds) >>= fun es => pure (.ins c ns es) : m D) Hf s σ H Q) (hx : H x = none) (hdx : H dx = none) (hne : dx ≠ x) :
    spI X.K X.mg ns L g (.ref x :: vs) (upd (upd H dx (.own x)) x (.ins C dx [])) (fun v H2 => v = .non ∧ Q (.ref x) H2) (WE fx.W σ) := by
  have w := Mo.wp_lift (Mo.wp_bind h.2)
  have hl := r.len
  have e2 : ∀ a o, H a = some o → upd (upd H dx (.own x)) x (.ins C dx []) a = some o := fun a o q => by rw [upd_ne (ne_of_none q hx), upd_ne (ne_of_none q hdx)]; exact q
  have hfx : Hf x = none := h.1.top.none hx
  have up : ∀ {Hf' H' : Hp}, Ste [x] Hf (upd (upd H dx (.own x)) x (.ins C dx [])) Hf' H' → Ste [] Hf H Hf' H' := fun {Hf' H'} st => ⟨st.sub, st.top, fun a o q _ => st.keep a o (e2 a o q) (by simpa using ne_of_none q hx), fun a q => st.dom a (by
    cases z : H a with
    | none => exact absurd z q
    | some o => rw [e2 a o z]; simp), fun a o q => by
    rcases st.fresh a o q with z | z
    · exact .inl z
    · refine .inr ?_
      cases y : H a with
      | none => rfl
      | some u => rw [e2 a u y] at z; cases z⟩
  refine ⟨by rw [List.length_cons, ← hl]; exact hn, x, C, dx, vs, Hf, ds, rfl, fun a o q => e2 a o (h.1.top a o q), hfx, upd_same, cn.cl, na, r, ?_⟩
  cases z : g ds with
  | ok es =>
    rw [z] at w
    intro us Hf' H' st hp hnl l hf'
    refine ⟨rfl, ?_⟩
    have w' := Mo.wp_pure w
    have st0 := up st
    have sb : Sub Hf' (upd Hf' x (.ins C dx (ns.zip us))) := fun a o q => by
      have ne : a ≠ x := fun z => by rw [z, hf'] at q; cases q
      rw [upd_ne ne]; exact q
    have st1 : Ste [] Hf H (upd Hf' x (.ins C dx (ns.zip us))) H' := ⟨st0.sub.trans sb, fun a o q => by
        by_cases c : a = x
        · subst c; rw [upd_same] at q; cases q; exact hp
        · rw [upd_ne c] at q; exact st0.top a o q, st0.keep, st0.dom, fun a o q => by
        by_cases c : a = x
        · subst c; exact .inr hx
        · rw [upd_ne c] at q; exact st0.fresh a o q⟩
    exact w' (.ref x) _ H' st1.wide (st1.bag h.1.bag) ⟨x, C, dx, us, rfl, cn.mg, upd_same, hnl, l.mono sb⟩
  | ex e =>
    rw [z] at w
    exact fun cls dd Hf' H' st xi => w cls dd Hf' H' (h.1.step (up st).wide ((up st).bag h.1.bag)) xi
  | stuck => rw [z] at w; exact w
/-- C(e, ..) -/
theorem de_make {L : Nat → Prop} (Ck : Cok X fx kk) (cn : ClsN X.K X.mg c C) (na : ∀ f ∈ ns, NoAttr X.K C f) (M : Mk X.K C fI) (F : FnP X.prog X.w X.K X.mg X.base j fI [] (spI X.K X.mg ns L g)) (ha : PA X es (tA X.K X.mg fx G ys)) (hn : ∀ ds : List D, g ds ≠ .stuck → L (ds.length + 1))
    (hj : j + 1 ≤ kk := by decide) (hg : Gl X c := by rfl) (hdb : (c == ("__debug__" : Str)) = false := by decide)
    (he : ArgHd X.env es := by first | exact True.intro | exact rfl)
    (hpl : ((backTo pos (starEach es X.env)).any (·.1) || (backToKw pos (keywordEach [] X.env)).any (·.1.isNone)) = false := by rfl) :
    PE X (.Call (.Name c p) es [] pos) (tE X.K X.mg fx G (do let ds ← ys; let es ← Mo.lift (g ds); pure (.ins c ns es))) := by
  refine ⟨fun pins s σ H Q I ⟨Hf, s0, h⟩ => ?_⟩
  refine wpAny_Call_Name_kw (ld_glob I hg cn.mg ?_ hdb)
  refine args_run (ks := []) (tk := tNil) M.kp ha pk_nil I ?_ he rfl rfl hpl
  refine (h.bind.mono fun vs H1 ⟨ds, Hf1, s1, sb, r, h1⟩ => ?_).to
  refine ⟨rfl, fun s2 us ws I2 hw rv => ?_⟩
  rw [List.append_nil] at rv
  have hlen : L (ds.length + 1) := hn ds fun z => by
    have w := Mo.wp_lift (Mo.wp_bind h1.2)
    rw [z] at w
    exact w
  exact run_makeP (E := WE fx.W) M F Ck.gd (Ck.rm.mono hj) (passAt Ck.tk σ) I2 hw rv fun x dx hx hdx hne => make_core cn na hlen r h1 hx hdx hne
/-- C(e, .., k = v, ..) -/
theorem de_makeK {L : Nat → Prop} (Ck : Cok X fx kk) (cn : ClsN X.K X.mg c C) (na : ∀ f ∈ ns, NoAttr X.K C f) (M : Mk X.K C fI) (F : FnP X.prog X.w X.K X.mg X.base j fI ks (spI X.K X.mg ns L g)) (ha : PA X es (tA X.K X.mg fx G ys)) (hk : PK X kws (tA X.K X.mg fx G zz)) (hn : ∀ ds : List D, g ds ≠ .stuck → L (ds.length + 1))
    (hj : j + 1 ≤ kk := by decide) (hg : Gl X c := by rfl) (hdb : (c == ("__debug__" : Str)) = false := by decide)
    (he : ArgHd X.env es := by first | exact True.intro | exact rfl)
    (hks : (backToKw pos (keywordEach kws X.env)).filterMap (·.1) = ks := by rfl)
    (hall : (backToKw pos (keywordEach kws X.env)).all (·.1.isSome) = true := by rfl)
    (hpl : ((backTo pos (starEach es X.env)).any (·.1) || (backToKw pos (keywordEach kws X.env)).any (·.1.isNone)) = false := by rfl) :
    PE X (.Call (.Name c p) es kws pos) (tE X.K X.mg fx G (do let ds ← ys; let zs ← zz; let es ← Mo.lift (kwR ks.length g ds zs); pure (.ins c ns es))) := by
  refine ⟨fun pins s σ H Q I ⟨Hf, s0, h⟩ => ?_⟩
  refine wpAny_Call_Name_kw (ld_glob I hg cn.mg ?_ hdb)
  refine args_run (ks := ks) M.kp ha hk I ?_ he hks hall hpl
  refine (h.bind.mono fun vs H1 ⟨ds, Hf1, s1, sb, r, h1⟩ => ?_).to
  refine (h1.bind.mono fun us H2 ⟨zs, Hf2, s2, sb2, r2, h2⟩ => ?_).to
  have hz : zs.length = ks.length := by
    have w := Mo.wp_lift (Mo.wp_bind h2.2)
    by_cases q : zs.length = ks.length
    · exact q
    · unfold kwR at w
      rw [if_neg q] at w
      exact w.elim
  have h3 : tX X.K X.mg fx G (fun H d v => Is X.K X.mg H d v) (Mo.lift (g (ds ++ zs)) >>= fun es => pure (.ins c ns es) : m D) Hf2 s2 σ H2 Q := by
    have e : kwR ks.length g ds zs = g (ds ++ zs) := if_pos hz
    rw [e] at h2
    exact h2
  refine ⟨r2.len.symm.trans hz, fun s2' us' ws I2 hw rv => ?_⟩
  have hlen : L ((ds ++ zs).length + 1) := hn _ fun z => by
    have w := Mo.wp_lift (Mo.wp_bind h3.2)
    rw [z] at w
    exact w
  exact run_makeP (E := WE fx.W) M F Ck.gd (Ck.rm.mono hj) (passAt Ck.tk σ) I2 hw rv fun x dx hx hdx hne => make_core cn na hlen ((r.mono sb2).app r2) h3 hx hdx hne
end
/-! ### attributes, methods, properties -/
def fldD (cs : List Str) (f : Str) : D → Option D
  | .ins c ns ds => if c ∈ cs then (ns.idxOf? f).bind (ds[·]?) else none
  | _ => none
def FldOk (K : PySem.W.Frag) (mg : Str → Option Value) (f : Str) (cs : List Str) : Prop := ∀ c ∈ cs, ∃ C, mg c = some (.ref C) ∧ Cls K C ∧ NoAttr K C f
def PropG (P : Program) (w : World) (K : PySem.W.Frag) (mg : Str → Option Value) (base : Heap) (k : Nat) (f : Str) (c : Str) (g : List D → R D) : Prop :=
  ∃ C p gf, mg c = some (.ref C) ∧ Cls K C ∧ PropOf K C f p gf ∧ FnP P w K mg base k gf [] (spR K mg false 1 g)
theorem lookup_mem {α : Type} {c : Str} {g : α} : ∀ {L : List (Str × α)}, L.lookup c = some g → (c, g) ∈ L
  | [], h => by cases h
  | (d, a) :: L, h => by
    by_cases q : c = d
    · subst q
      simp [List.lookup] at h
      subst h
      exact .head _
    · have q' : (c == d) = false := by simpa using q
      simp [List.lookup, q'] at h
      exact .tail _ (lookup_mem h)
section
variable {X : Cx} {fx : Fx} {m : Type → Type} [Mo m] {G : List Sl} {o : Expr} {es : List Expr} {pos p apos : Pos} {x : m D} {ys : m (List D)} {kk j : Nat} {f mn : Str} {cs : List Str}
theorem de_fld (cs : List Str) (ho : PE X o (tE X.K X.mg fx G x)) (hf : FldOk X.K X.mg f cs) (hb : attributeBase o f X.env (eval o X.env) = eval o X.env := by rfl) : PE X (.Attribute o f pos) (tE X.K X.mg fx G (do let u ← x; DL.ask (fldD cs f u))) :=
  peI (pe_fld ho hb) fun σ H Q ⟨Hf, s, h⟩ => (h.bind.mono fun v1 H1 ⟨d1, Hf1, s1, sb1, r1, h1⟩ => by
    obtain ⟨d, e, q⟩ := h1.ask
    cases d1 with
    | ins c ns ds =>
      have e' : (if c ∈ cs then (ns.idxOf? f).bind (ds[·]?) else none) = some d := e
      by_cases hc : c ∈ cs
      · rw [if_pos hc] at e'
        obtain ⟨C, mC, cl, na⟩ := hf c hc
        obtain ⟨a, C', dx, vs, ea, mC', ha, hl, l⟩ := r1
        rw [mC] at mC'
        cases mC'
        cases e1 : ns.idxOf? f with
        | none => rw [e1] at e'; cases e'
        | some i =>
          rw [e1] at e'
          obtain ⟨v, ev, iv⟩ := l.get (show ds[i]? = some d from e')
          exact ⟨a, C, dx, _, v, ea, h1.1.top _ _ ha, cl, na, lookup_zip e1 ev, q v Hf1 H1 (.refl h1.1.top) iv⟩
      · rw [if_neg hc] at e'; cases e'
    | _ => cases e).to
end
end DL
/-! ### properties, isinstance, calls by names -/
namespace DL
open PySem PySem.Spec PyProof.Rows L2
/-- an attribute that is a field of some classes (cs), a property of others (L) -/
def attrD (cs : List Str) (L : List (Str × (List D → R D))) (f : Str) : D → R D
  | .ins c ns ds => match L.lookup c with
    | some g => R.nx (g [.ins c ns ds])
    | none => match fldD cs f (.ins c ns ds) with
      | some d => .ok d
      | none => .stuck
  | _ => .stuck
section
variable {X : Cx} {fx : Fx} {m : Type → Type} [Mo m] {G : List Sl} {o : Expr} {es : List Expr} {pos p apos : Pos} {x : m D} {ys : m (List D)} {kk j : Nat} {f mn : Str} {cs : List Str}
theorem getprop_P {pins : List (Addr × Obj)} {σ : L2.St} {H : Hp} {s : Shared} {Q : VK} {b : Bool} {E' : Value → Shared → Prop} {a C dx p g : Addr} {fs : List (Str × V)} {sp : Sp} (I : L2.Inv X pins σ H s) (ea : H a = some (.ins C dx fs)) (c : Cls X.K C) (hp : PropOf X.K C f p g)
    (F : FnP X.prog X.w X.K X.mg X.base j g [] sp) (hg : X.A.guards = some []) (hr : Room (j + 1) X.A) (h : sp [.ref a] H Q (fun _ _ _ => False)) :
    wpAny (model X.prog X.w) X.A (getAttr (.ref a) f b) (EP X pins σ Q) E' s := by
  obtain ⟨mA, O, _, _, _, _⟩ := ins_get I.hok ea
  obtain ⟨od, J, _⟩ := O.look
  obtain ⟨rest, hrec⟩ := hp.rec_
  have I1 := I.tok (s.toks + 1)
  have hc : (PySem.W.clsIn X.K C).isSome = true := by
    obtain ⟨cd, hc, _⟩ := PySem.W.any_some c.hd
    rw [hc]
    rfl
  refine PySem.W.get_bind I.kIn J (PySem.W.plainGet_of (c.get f)).1 (PySem.W.findObj_data hc hp.at_ hp.get hp.tak) (PySem.W.plainGet_of (c.get f)).2 (wpAny_call (PySem.W.prop_get (s := { s with toks := s.toks + 1 }) I.kIn hrec ?_))
  refine codeAny_mono (F X.A.in1 X.stack { s with toks := s.toks + 1 } H [.ref a] [] [.ref a] Q (fun _ _ _ => False) hg hr.in1 I1.env0.in1 rfl (.cons rfl .nil) h) fun r s' hq => ?_
  cases r with
  | error er =>
    obtain ⟨_, _, _, _, _, _, _, _, _, _, _, _, z⟩ := hq
    exact z.elim
  | ok fl =>
    cases fl with
    | ret u =>
      obtain ⟨v, H', I3, rv, q3⟩ := I1.after hq
      show wpAny _ _ (handedOut u) _ _ _
      rw [PySem.W.handedOut_of (handed_of rv)]
      exact wpAny_pure ⟨v, H', I3, rv, q3⟩
    | next => exact False.elim hq
    | brk => exact False.elim hq
    | cont => exact False.elim hq
theorem de_attr (cs : List Str) {L : List (Str × (List D → R D))} (Ck : Cok X fx kk) (ho : PE X o (tE X.K X.mg fx G x)) (hf : FldOk X.K X.mg f cs) (hL : ∀ q ∈ L, PropG X.prog X.w X.K X.mg X.base j f q.1 q.2) (hj : j + 1 ≤ kk := by decide) (hb : attributeBase o f X.env (eval o X.env) = eval o X.env := by rfl) :
    PE X (.Attribute o f pos) (tE X.K X.mg fx G (do let u ← x; Mo.lift (attrD cs L f u))) := by
  refine ⟨fun pins s σ H Q I ⟨Hf, s0, h⟩ => ?_⟩
  refine attr_of hb (thn (ho.run pins s σ H _ I (h.bind.to)) fun u s1 ⟨v, H1, I1, rx, d1, Hf1, s1', sb1, r1, h1⟩ => ?_)
  have w1 := Mo.wp_lift h1.2
  cases d1 with
  | ins c ns vs =>
    have r1' := r1
    obtain ⟨a, C', dx, us, ea, mC', hH, hl, l⟩ := r1
    subst ea
    cases (show u = Value.ref a from rx)
    cases hlk : L.lookup c with
    | some g =>
      obtain ⟨C, pp, gf, mC, cl, hp, F⟩ := hL _ (lookup_mem hlk)
      rw [mC'] at mC
      cases mC
      have e1 : attrD cs L f (.ins c ns vs) = R.nx (g [.ins c ns vs]) := by simp only [attrD, hlk]
      rw [e1] at w1
      refine getprop_P I1 (h1.1.top _ _ hH) cl hp F Ck.gd (Ck.rm.mono hj) ⟨rfl, Hf1, [.ins c ns vs], h1.1.top, .cons r1' .nil, ?_⟩
      cases z : g [.ins c ns vs] with
      | ok d =>
        rw [z] at w1
        rw [show (c, g).snd [D.ins c ns vs] = R.ok d from z]
        intro v Hf' H' st i; exact w1 v Hf' H' (Ste.wide st) (Ste.bag st h1.1.bag) i
      | ex e => rw [z] at w1; exact w1.elim
      | stuck => rw [z] at w1; exact w1.elim
    | none =>
      cases hfd : fldD cs f (.ins c ns vs) with
      | none =>
        have e1 : attrD cs L f (.ins c ns vs) = .stuck := by simp only [attrD, hlk, hfd]
        rw [e1] at w1
        exact w1.elim
      | some d =>
        have e1 : attrD cs L f (.ins c ns vs) = .ok d := by simp only [attrD, hlk, hfd]
        rw [e1] at w1
        have e' : (if c ∈ cs then (ns.idxOf? f).bind (vs[·]?) else none) = some d := hfd
        by_cases hc : c ∈ cs
        · rw [if_pos hc] at e'
          obtain ⟨C, mC, cl, na⟩ := hf c hc
          rw [mC] at mC'
          cases mC'
          cases e2 : ns.idxOf? f with
          | none => rw [e2] at e'; cases e'
          | some i =>
            rw [e2] at e'
            obtain ⟨v, ev, iv⟩ := l.get (show vs[i]? = some d from e')
            exact getattr_ok I1 (h1.1.top _ _ hH) cl na (lookup_zip e2 ev) fun u' s2 I2 ru => ⟨v, H1, I2, ru, w1 v Hf1 H1 (.refl h1.1.top) h1.1.bag iv⟩
        · rw [if_neg hc] at e'; cases e'
  | _ => exact w1.elim
end
/-! isinstance -/
/-- what isinstance says of a class tv: of the program's classes, of the built-in ones -/
structure IsT (K : PySem.W.Frag) (mg : Str → Option Value) (tv : Value) (L : List (Str × Bool)) (B : List (String × Bool)) : Prop where
  own : ∀ q ∈ L, ∃ C, ClsN K mg q.1 C ∧ PySem.W.kitOne K (.ref C) tv = some q.2
  bl : ∀ q ∈ B, PySem.W.kitOne K (.type q.1) tv = some q.2
def isiT (L : List (Str × Bool)) (B : List (String × Bool)) : D → Option D
  | .ins c _ _ => (L.lookup c).map .bl
  | d => match tyD d with
    | some a => (B.lookup a).map .bl
    | none => none
theorem lookup_mem' {α β : Type} [BEq α] [LawfulBEq α] {c : α} {g : β} : ∀ {L : List (α × β)}, L.lookup c = some g → (c, g) ∈ L
  | [], h => by cases h
  | (d, a) :: L, h => by
    by_cases q : c = d
    · subst q
      simp [List.lookup] at h
      subst h
      exact .head _
    · have q' : (c == d) = false := by simpa using q
      simp [List.lookup, q'] at h
      exact .tail _ (lookup_mem' h)
section
variable {X : Cx} {fx : Fx} {m : Type → Type} [Mo m] {G : List Sl} {e e2 : Expr} {pos p : Pos} {x : m D}
theorem isi_call {pins : List (Addr × Obj)} {σ : L2.St} {H Hf : Hp} {s : Shared} {Q : VK} {d r : D} {v : V} {u tv : Value} {L : List (Str × Bool)} {B : List (String × Bool)} (T : IsT X.K X.mg tv L B) (I : L2.Inv X pins σ H s) (sb : Sub Hf H) (i : Is X.K X.mg Hf d v) (ru : L2.RelV v u) (hr : isiT L B d = some r)
    (q : ∀ w Hf' H', Ste [] Hf H Hf' H' → Is X.K X.mg Hf' r w → Q w H') : wpAny (model X.prog X.w) X.A (call (.builtin "isinstance") [u, tv]) (EP X pins σ Q) X.xe s := by
  have other : ∀ {a : String} {b : Bool}, tyD d = some a → B.lookup a = some b → r = .bl b → wpAny (model X.prog X.w) X.A (call (.builtin "isinstance") [u, tv]) (EP X pins σ Q) X.xe s := by
    intro a b e1 e2 e3
    subst e3
    obtain ⟨P, Z, p, hx⟩ := kit_of I ru (tyD_is sb i e1)
    exact PySem.W.kia_one Z I.kIn p (T.bl _ (lookup_mem' e2)) hx fun tk => ⟨.bl b, H, I.tok tk, rfl, q _ Hf H (.refl sb) (is_bl _)⟩
  cases d with
  | ins c ns ds =>
    have e' : (L.lookup c).map D.bl = some r := hr
    cases hb : L.lookup c with
    | none => rw [hb] at e'; cases e'
    | some b =>
      rw [hb] at e'
      cases e'
      obtain ⟨C, cn, hk⟩ := T.own _ (lookup_mem hb)
      obtain ⟨a, C', dx, us, ea, mC', hH, hl, l⟩ := i
      subst ea
      cases (show u = Value.ref a from ru)
      have mC := cn.mg
      rw [mC'] at mC
      cases mC
      obtain ⟨mA, O, _⟩ := ins_get I.hok (sb _ _ hH)
      obtain ⟨od, J, _⟩ := O.look
      have ic : PySem.W.isClsIn X.K C = true := by
        obtain ⟨cd, hc, _⟩ := PySem.W.any_some cn.cl.hd
        show (PySem.W.clsIn X.K C).isSome = true
        rw [hc]
        rfl
      exact PySem.W.kia_one (OwX.kitx_slt ic (cn.cl.get _) cn.ca cn.cn cn.ct cn.cm) I.kIn J hk (fun z => nomatch z) fun tk => ⟨.bl b, H, I.tok _, rfl, q _ Hf H (.refl sb) (is_bl _)⟩
  | _ =>
    simp only [isiT] at hr
    split at hr
    · rename_i a e1
      cases e2 : B.lookup a with
      | none => rw [e2] at hr; cases hr
      | some b => rw [e2] at hr; cases hr; exact other e1 e2 rfl
    · cases hr
/-- a class's name as a value -/
theorem pe_own {c : Str} {C : Addr} (h : X.mg c = some (.ref C)) (hg : Gl X c := by rfl) (hd : (c == ("__debug__" : Str)) = false := by decide) : PE X (.Name c p) (fun _ H Q => Q (.ref C) H) := pe_glob hg h (v := .ref C) rfl hd
def rIsT (X : Cx) (L : List (Str × Bool)) (B : List (String × Bool)) (c : V) : List V → Hp → VK → Prop := fun xs H Q => ∃ Hf d v r, xs = [v, c] ∧ Sub Hf H ∧ Is X.K X.mg Hf d v ∧ isiT L B d = some r ∧ ∀ w Hf' H', Ste [] Hf H Hf' H' → Is X.K X.mg Hf' r w → Q w H'
theorem call_isT {tv : Value} {c : V} {L : List (Str × Bool)} {B : List (String × Bool)} (k : ClsV c tv) (T : IsT X.K X.mg tv L B) : CallR X (.builtin "isinstance") (rIsT X L B c) := by
  intro pins s σ H xs us Q I r h
  obtain ⟨Hf, d, v, rr, rfl, sb, i, e, q⟩ := h
  obtain ⟨u1, u2, rfl, r1, r2⟩ := vals2 r
  have e2 := k.eq r2
  subst e2
  exact isi_call T I sb i r1 e q
theorem de_isT {tv : Value} {cv : V} {L : List (Str × Bool)} {B : List (String × Bool)} (k : ClsV cv tv) (T : IsT X.K X.mg tv L B) (he : PE X e (tE X.K X.mg fx G x)) (hc : PE X e2 (fun _ H Q => Q cv H)) (hg : Gl X "isinstance") (hm : X.mg "isinstance" = none)
    (hs : starEach [e, e2] X.env = (false, eval e X.env) :: starEach [e2] X.env := by rfl) (hs2 : starEach [e2] X.env = (false, eval e2 X.env) :: starEach [] X.env := by rfl) (hpl : (backTo pos (starEach [e2] X.env)).any (·.1) = false := by rfl) :
    PE X (.Call (.Name "isinstance" p) [e, e2] [] pos) (tE X.K X.mg fx G (do let d ← x; DL.ask (isiT L B d))) :=
  peI (pe_callB (call_isT k T) hg hm rfl (pa_cons he (pa_cons hc pa_nil hs2) hs) (by decide) (by decide) hs hpl) fun σ H Q ⟨Hf, s, h⟩ =>
  (h.bind.mono fun v1 H1 ⟨d1, Hf1, s1, sb1, r1, h1⟩ => by
    obtain ⟨d, e, q⟩ := h1.ask
    exact ⟨Hf1, d1, v1, d, rfl, h1.1.top, r1, e, q⟩).to
end
end DL
/-! ### == by an own __eq__ -/
namespace DL
open PySem PySem.Spec PyProof.Rows L2
def toO : R D → Option D
  | .ok d => some d
  | _ => none
def okR (Ls : List Str) : D → Bool
  | .ins c _ _ => decide (c ∈ Ls)
  | d => (tyD d).isSome
def eqO (L : List (Str × (List D → R D))) (a b : D) : Option D := match a with
  | .ins c ns ds => if okR (L.map Prod.fst) b = true then (L.lookup c).bind fun g => toO (g [.ins c ns ds, b]) else none
  | a => eqD a b
def baseTys : List String := ["NoneType", "bool", "int", "str", "tuple", "list", "dict"]
def EqC (P : Program) (w : World) (K : PySem.W.Frag) (mg : Str → Option Value) (base : Heap) (k : Nat) (Ls : List Str) (c : Str) (g : List D → R D) : Prop :=
  ∃ C f, ClsN K mg c C ∧ PySem.W.findIn K (.ref C) "__eq__" = some (some (.ref f)) ∧ PySem.W.isFn K (.ref f) = true ∧ FnP P w K mg base k f [] (spR K mg false 2 g) ∧ (∀ T ∈ baseTys, PySem.W.notFirst K C (.type T) = true) ∧ (∀ c' ∈ Ls, ∀ C', mg c' = some (.ref C') → PySem.W.notFirst K C (.ref C') = true) ∧
    PySem.W.findIn K (.ref C) "__ne__" = some (some (.builtin "object.__ne__"))
theorem tyD_base {d : D} {T : String} (h : tyD d = some T) : T ∈ baseTys := by
  cases d <;> cases h <;> simp [baseTys]
theorem ex_false {P : Program} {w : World} {outer : List Env} {H : Hp} {s s' : Shared} {e : Value} (h : L2.CX P w outer H s (fun _ _ _ => False) e s') : False := by
  obtain ⟨_, _, _, _, _, _, _, _, _, _, _, _, z⟩ := h
  exact z
section
variable {X : Cx} {k n : Nat} {L : List (Str × (List D → R D))}
/-- a def that lets nothing out, called below -/
theorem dun_run {A : Around} {E : Value → Shared → Prop} {pins : List (Addr × Obj)} {σ : L2.St} {H Hf : Hp} {s : Shared} {Q : VK} {f : Addr} {g : List D → R D} {ds : List D} {vs : List V} {us : List Value} {d : D} (F : FnP X.prog X.w X.K X.mg X.base k f [] (spR X.K X.mg false n g)) (hg : A.guards = some []) (hr : Room k A) (e0 : Env0 X.prog X.w X.K X.mg X.base A X.stack s H) (I : L2.Inv X pins σ H s)
    (sb : Sub Hf H) (i : IsL X.K X.mg Hf ds vs) (hn : vs.length = n) (r : Vals vs us) (e : toO (g ds) = some d) (q : ∀ u Hf' H', Ste [] Hf H Hf' H' → Is X.K X.mg Hf' d u → Q u H') : wpAny (model X.prog X.w) A (call (.ref f) us) (EP X pins σ Q) E s := by
  refine wpAny_call (codeAny_mono (F A X.stack s H us [] vs Q (fun _ _ _ => False) hg hr e0 rfl (by rw [List.append_nil]; exact r) ⟨hn, Hf, ds, sb, i, ?_⟩) fun r s' hq => ?_)
  · cases z : g ds with
    | ok d' => rw [z] at e; cases e; exact fun v Hf' H' st i => q v Hf' H' st i
    | ex e2 => rw [z] at e; cases e
    | stuck => rw [z] at e; cases e
  · cases r with
    | error e => exact (ex_false hq).elim
    | ok fl =>
      cases fl with
      | ret u => exact I.after hq
      | next => exact False.elim hq
      | brk => exact False.elim hq
      | cont => exact False.elim hq
theorem right_ty {pins : List (Addr × Obj)} {σ : L2.St} {H Hf : Hp} {s : Shared} {d : D} {v : V} {u : Value} {Ls : List Str} (I : L2.Inv X pins σ H s) (sb : Sub Hf H) (i : Is X.K X.mg Hf d v) (r : L2.RelV v u) (h : okR Ls d = true) :
    ∃ tb, PySem.W.Looks (model X.prog X.w) s.heap (typeOf u) tb ∧ ((∃ T ∈ baseTys, tb = .type T) ∨ ∃ c ∈ Ls, ∃ C, X.mg c = some (.ref C) ∧ tb = .ref C) := by
  have other : ∀ {T : String}, tyD d = some T → ∃ tb, PySem.W.Looks (model X.prog X.w) s.heap (typeOf u) tb ∧ ((∃ T ∈ baseTys, tb = .type T) ∨ ∃ c ∈ Ls, ∃ C, X.mg c = some (.ref C) ∧ tb = .ref C) := by
    intro T e
    obtain ⟨P, Z, p, _⟩ := kit_of I r (tyD_is sb i e)
    exact ⟨.type T, Z.ty _ _ I.kIn p, .inl ⟨T, tyD_base e, rfl⟩⟩
  cases d with
  | ins c ns ds =>
    have hc : c ∈ Ls := of_decide_eq_true h
    obtain ⟨a, C, dx, us, ea, mC, hH, hl, l⟩ := i
    subst ea
    cases (show u = Value.ref a from r)
    obtain ⟨mA, O, _⟩ := ins_get I.hok (sb _ _ hH)
    obtain ⟨od, J, _⟩ := O.look
    exact ⟨.ref C, J.type, .inr ⟨c, hc, C, mC, rfl⟩⟩
  | scr _ => exact other rfl
  | xc _ _ _ _ => cases h
  | non => exact other rfl
  | bl _ => exact other rfl
  | int _ => exact other rfl
  | str _ => exact other rfl
  | tup _ => exact other rfl
  | lst _ => exact other rfl
  | dic _ _ => exact other rfl
theorem od_eqO (hL : ∀ q ∈ L, EqC X.prog X.w X.K X.mg X.base k (L.map Prod.fst) q.1 q.2) (hg : X.A.guards = some []) (hr : Room k X.A) (hb : OpR X (compareOp .Eq) (rD2 X.K X.mg eqD)) : OpR X (compareOp .Eq) (rD2 X.K X.mg (eqO L)) := by
  intro pins s σ H x y v u Q I rx ry h
  obtain ⟨Hf, dx, dy, d, sb, ix, iy, e, q⟩ := h
  have other : eqD dx dy = some d → wpAny (model X.prog X.w) X.A (compareOp .Eq v u) (EP X pins σ Q) X.xe s := fun e => hb pins s σ H x y v u Q I rx ry ⟨Hf, dx, dy, d, sb, ix, iy, e, q⟩
  cases dx with
  | ins c ns ds =>
    have e' : (if okR (L.map Prod.fst) dy = true then (L.lookup c).bind fun g => toO (g [.ins c ns ds, dy]) else none) = some d := e
    by_cases hk : okR (L.map Prod.fst) dy = true
    · rw [if_pos hk] at e'
      cases hlk : L.lookup c with
      | none => rw [hlk] at e'; cases e'
      | some g =>
        rw [hlk] at e'
        have e2 : toO (g [.ins c ns ds, dy]) = some d := e'
        obtain ⟨C, f, cn, hs, hf, F, n1, n2, _⟩ := hL _ (lookup_mem hlk)
        have ix' := ix
        obtain ⟨a, C', dx', us, ea, mC, hH, hl, l⟩ := ix
        rw [cn.mg] at mC
        cases mC
        subst ea
        cases (show v = Value.ref a from rx)
        obtain ⟨mA, O, _⟩ := ins_get I.hok (sb _ _ hH)
        obtain ⟨od, J, _⟩ := O.look
        obtain ⟨tb, ht, hn⟩ := right_ty I sb iy ry hk
        have hn' : PySem.W.notFirst X.K C tb = true := by
          rcases hn with ⟨T, hT, rfl⟩ | ⟨c', hc', C', mC', rfl⟩
          · exact n1 T hT
          · exact n2 c' hc' C' mC'
        obtain ⟨m', hF⟩ := I.fr
        refine PySem.W.cmp_K (op := .Eq) (tb := tb) hr.units0 hF I.ok.mod.kin J ht hn' hs hf ?_
        refine wpAny_mono (dun_run (us := [.ref a, u]) (Q := Q) F hg hr I.env0 I sb (.cons ix' (.cons iy .nil)) rfl (.cons rfl (.cons ry .nil)) e2 q) (fun w s' z => ?_) fun _ _ z => z
        obtain ⟨z', H', I', rz, qz⟩ := z
        exact SlX.cmpback rz ⟨z', H', I', rz, qz⟩
    · rw [if_neg hk] at e'; cases e'
  | _ => exact other e
end
/-! ### != by object's __ne__, in, len, str -/
end DL
/-! ### in, len, str of instances; str of ints; f-strings -/
namespace DL
open PySem PySem.Spec PyProof.Rows L2
section
variable {X : Cx} {k : Nat} {L : List (Str × (List D → R D))}
/-! len -/
/-! str -/
def numD (i : Int) : List Nat := (Str.ofString (toString i)).cps.toList
def strD : List D → Option D
  | [.int i] => if i.natAbs.log2 < 1920 then some (.str (numD i)) else none
  | [.str s] => some (.str s)
  | _ => none
theorem numD_is {K : PySem.W.Frag} {mg : Str → Option Value} {H : Hp} {i : Int} (h : i.natAbs.log2 < 1920) : Is K mg H (.str (numD i)) (.str (toString i : String)) := by
  refine ⟨by unfold numD; simp, ?_⟩
  have := int_text_fits h
  simpa [numD, Str.length] using this
theorem oc_str : CallR X (.type "str") (rDs X.K X.mg strD) := by
  intro pins s σ H xs us Q I r h
  obtain ⟨Hf, ds, d, sb, l, e, q⟩ := h
  unfold strD at e
  split at e
  · split at e
    · rename_i i hi
      cases e
      obtain ⟨v, r1, rfl, rfl, rfl⟩ := l
      exact call_str_int pins s σ H _ us Q I r ⟨i, rfl, hi, q _ Hf H (.refl sb) (numD_is hi)⟩
    · cases e
  · cases e
    obtain ⟨v, r1, rfl, ⟨rfl, hz⟩, rfl⟩ := l
    exact SkE.call_str_str pins s σ H _ us Q I r ⟨_, rfl, q _ Hf H (.refl sb) ⟨rfl, hz⟩⟩
  · cases e
end
end DL
/-! ### more statements: unpacking, three at once, augmented, while -/
namespace DL
open PySem PySem.Spec PyProof.Rows L2
def setN : List Nat → Nat → List D → List Sl → List Sl
  | [], _, _, G => G
  | i :: is, k, c, G => setN is (k + 1) c (G.set i (.im (c.getD k .non)))
def unN (n : Nat) : D → Option (List D)
  | .tup ds => if ds.length = n then some ds else none
  | _ => none
def gsOf : List Nat → TGs
  | [] => gNil
  | i :: is => gCons (gName i) (gsOf is)
section
variable {X : Cx} {fx : Fx} {kk : Nat} {pos : Pos}
/-- plain names as targets -/
inductive Tgts (X : Cx) : List Expr → List Nat → Prop
  | nil : Tgts X [] []
  | cons {n : Str} {p : Pos} {es : List Expr} {is : List Nat} (i : Nat) (r : Tgts X es is) (hi : X.N[i]? = some n := by rfl) (hx : Loc X.env.scope n := by first | exact Or.inl rfl | exact Or.inr rfl) (hf : X.fn n = true ∨ X.env.scope.names.lookup n = some .local := by first | exact .inl rfl | exact .inr rfl) : Tgts X (.Name n p :: es) (i :: is)
theorem tgts_pgs (nd : X.N.Nodup) {es : List Expr} {is : List Nat} (h : Tgts X es is) : PGs X es (gsOf is) := by
  induction h with
  | nil => exact pgs_nil
  | cons i r hi hx hf ih => exact pgs_cons (pg_name nd hi hx hf) ih
theorem gs_read {Hf H : Hp} {s : S} {Q : L2.St → Hp → Prop} : ∀ (is : List Nat) (k : Nat) (c ds : List D) (vs : List V) {σ : L2.St} {G : List Sl}, StS X.K X.mg fx Hf H σ G s → IsL X.K X.mg Hf ds vs → c.drop k = ds → ds.length = is.length →
    (∀ σ', (∀ j, j ∉ is → σ'[j]? = σ[j]?) → σ'.length = σ.length → StS X.K X.mg fx Hf H σ' (setN is k c G) s → Q σ' H) → gsOf is vs σ H Q
  | [], k, c, ds, vs, σ, G, st, l, e, hl, q => by
    cases ds with
    | nil => cases l; exact ⟨rfl, q σ (fun _ _ => rfl) rfl st⟩
    | cons d ds => simp at hl
  | i :: is, k, c, ds, vs, σ, G, st, l, e, hl, q => by
    cases ds with
    | nil => simp at hl
    | cons d ds =>
      obtain ⟨v, r, rfl, iv, l'⟩ := l
      have hk : c.getD k .non = d := by
        have : c[k]? = some d := by
          have := congrArg (fun z => z[0]?) e
          simpa using this
        simp [List.getD, this]
      refine ⟨v, r, rfl, ?_⟩
      refine gs_read is (k + 1) c ds r (st.set (i := i) iv) l' ?_ (by simpa using hl) fun σ' h1 h2 st' => q σ' (fun j hj => ?_) (by simpa using h2) ?_
      · have := congrArg (List.drop 1) e
        simpa [List.drop_drop, Nat.add_comm] using this
      · rw [h1 j fun z => hj (List.mem_cons_of_mem _ z), List.getElem?_set_ne fun z => hj (by simp [z])]
      · show StS X.K X.mg fx Hf H σ' (setN is (k + 1) c (G.set i (.im (c.getD k .non)))) s
        rw [hk]; exact st'
theorem pgd_tupN (C : Cok X fx kk) {es : List Expr} {is : List Nat} {k : Nat} (n : Nat) (h : Tgts X es is) (hn : is.length = n := by rfl) (hl : (assignEach es X.env).length = n := by rfl) (hst : (assignEach es X.env).findIdx? (·.1) = none := by rfl) :
    PGd X fx (.Tuple es k pos) (gTup X.K n (gsOf is)) (unN n) (fun G c => setN is 0 c G) is :=
  ⟨pg_tup C.calm (tgts_pgs C.nd h) hl hst, fun {G Hf d v σ H s c Q} st r e q => by
    cases d with
    | tup ds =>
      obtain ⟨hz, a, vs, rfl, t, l⟩ := r
      have e' : (if ds.length = n then some ds else none) = some c := e
      by_cases hd : ds.length = n
      · rw [if_pos hd] at e'
        cases e'
        exact ⟨a, vs, rfl, st.top.sqt t, l.len.symm.trans hd, gs_read is 0 c c vs st l rfl (hd.trans hn.symm) q⟩
      · rw [if_neg hd] at e'; cases e'
    | _ => cases e⟩
end
section
variable {X : Cx} {fx : Fx} {m : Type → Type} [Mo m] {G : List Sl} {α β γ : Type} {kk : Nat} {e : Expr} {rest : List Stmt} {ex : α → List Sl} {exb : β → List Sl} {pos : Pos} {x : m D}
/-- a, b, .. = e -/
theorem dss_unp {tg : Expr} {g : TG} {u : D → Option γ} {st : List Sl → γ → List Sl} {is : List Nat} {k : γ → m (Fl α β)} (hg : PGd X fx tg g u st is) (he : PE X e (tE X.K X.mg fx G x)) (hr : ∀ c, PSs X rest (tS X.K X.mg fx (st G c) ex exb (k c)))
    (hs : swapsWithSole [tg] e pos.line X.env = pure false := by rfl) (hw : swappedStores [tg] e X.env = pure none := by rfl) (h1 : (assignEach [tg] X.env).map (·.2) = [assign tg X.env] := by rfl)
    (hgx : GxOk fx G := by first | trivial | repeat' (first | exact True.intro | exact Or.inl rfl | exact Or.inr rfl | refine And.intro ?_ ?_)) :
    PSs X (.Assign [tg] e pos :: rest) (tS X.K X.mg fx G ex exb (do let d ← x; let c ← DL.ask (u d); k c)) := pssI (pss_cons (ps_asg he hg.1 hs hw h1) (pss_ex hr)) fun De σ H ⟨Hf, s, h⟩ =>
  ((h.bind hgx).mono fun v H1 ⟨d, Hf1, s1, sb, r, h1⟩ => by
    have w1 := Mo.wp_lift (Mo.wp_bind h1.2)
    cases hu : u d with
    | none => rw [hu] at w1; exact w1.elim
    | some c =>
      rw [hu] at w1
      exact hg.2 h1.1 r hu fun σ' _ _ st' => ⟨c, Hf1, s1, st', w1⟩).to
end
section
variable {X : Cx} {fx : Fx} {m : Type → Type} [Mo m] {G : List Sl} {α β : Type} {ex : α → List Sl} {exb : β → List Sl} {sts : List Stmt}
/-- a part that is not reached -/
theorem dss_stuck : PSs X sts (tS X.K X.mg fx G ex exb (Mo.lift R.stuck : m (Fl α β))) := pssI pss_never fun D σ H ⟨Hf, s, h⟩ => Mo.wp_lift h.2
end
end DL
/-! ### dicts: displays with text keys, d[k] -/
namespace DL
open PySem PySem.Spec PyProof.Rows L2
section
variable {X : Cx} {fx : Fx} {m : Type → Type} [Mo m] {G : List Sl} {pos : Pos}
/-- the pairs of a display whose keys are written texts -/
inductive KVs (X : Cx) (fx : Fx) (m : Type → Type) [Mo m] (G : List Sl) : List (Option Expr) → List Expr → List (List Nat) → m (List D) → List (TE × TE) → Prop
  | nil : KVs X fx m G [] [] [] (pure []) []
  | cons {t : Str} {j : Nat} {p : Pos} {ks : List (Option Expr)} {v : Expr} {vs : List Expr} {ls : List (List Nat)} {x : m D} {ys : m (List D)} {trs : List (TE × TE)} (l : List Nat) (hv : PE X v (tE X.K X.mg fx G x)) (r : KVs X fx m G ks vs ls ys trs) (ht : t = ⟨l.toArray⟩ := by first | rfl | decide +kernel) (hl : l.length ≤ 1000 := by decide) :
      KVs X fx m G (some (.Constant (.str t) j p) :: ks) (v :: vs) (l :: ls) (do let d ← x; let ds ← ys; pure (d :: ds)) ((fun σ H Q => Q (.str ⟨l.toArray⟩) H, tE X.K X.mg fx G x) :: trs)
theorem KVs.some {ks : List (Option Expr)} {vs : List Expr} {ls : List (List Nat)} {ys : m (List D)} {trs : List (TE × TE)} (h : KVs X fx m G ks vs ls ys trs) : ks.all (·.isSome) = true ∧ ks.length = vs.length ∧ ks.length = ls.length := by
  induction h with
  | nil => exact ⟨rfl, rfl, rfl⟩
  | cons l hv r ht hl ih => exact ⟨by simp [ih.1], by simp [ih.2.1], by simp [ih.2.2]⟩
end
end DL
/-! ### defs with a star; star calls -/
namespace DL
open PySem PySem.Spec PyProof.Rows L2 StX
end DL
/-! ### partition, ints of texts, f-strings, constants of classes, defs called by names -/
namespace DL
open PySem PySem.Spec PyProof.Rows L2
def partD (a b : D) : Option D := match a, b with
  | .str z, .str s => if s ≠ [] ∧ z.length ≤ 1000000 then some (match TL.par s [] z with
    | some (p, q) => .tup [.str p, .str s, .str q]
    | none => .tup [.str z, .str [], .str []]) else none
  | _, _ => none
theorem par_len {s : List Nat} : ∀ {z acc p q : List Nat}, TL.par s acc z = some (p, q) → p.length + q.length ≤ acc.length + z.length := by
  intro z
  induction z with
  | nil =>
    intro acc p q h
    unfold TL.par at h
    cases h
  | cons c z ih =>
    intro acc p q h
    unfold TL.par at h
    split at h
    · cases h
      have : (List.drop s.length (c :: z)).length ≤ (c :: z).length := by rw [List.length_drop]; omega
      omega
    · have := ih h
      simp at this ⊢
      omega
def digs (z : List Nat) : Bool := z.all fun c => decide (48 ≤ c) && decide (c ≤ 57)
def intXD : List D → Option D
  | [.str z] => if digs z = true ∧ z ≠ [] ∧ z.length ≤ 640 then some (.int ((NumText.digitsVal z : Nat) : Int)) else none
  | ds => intD ds
section
variable {X : Cx} {fx : Fx} {m : Type → Type} [Mo m] {G : List Sl} {o e : Expr} {apos pos : Pos} {x y : m D}
theorem de_part (ho : PE X o (tE X.K X.mg fx G x)) (he : PE X e (tE X.K X.mg fx G y)) (hs : starEach [e] X.env = [(false, eval e X.env)] := by rfl) (hbase : attributeBase o "partition" X.env (eval o X.env) = eval o X.env := by rfl) (hline : (apos.endLine == pos.line) = true := by rfl) :
    PE X (.Call (.Attribute o "partition" apos) [e] [] pos) (tE X.K X.mg fx G (do let u ← x; let _ ← DL.ask (strOf u); let v ← y; DL.ask (partD u v))) :=
  peI (pe_partition ho he hs hbase hline) fun σ H Q ⟨Hf, s, h⟩ =>
  (h.bind.mono fun v1 H1 ⟨d1, Hf1, s1, sb1, r1, h1⟩ => by
    have k := Mo.wp_lift (Mo.wp_bind h1.2)
    cases d1 with
    | str z =>
      obtain ⟨rfl, hz1⟩ := r1
      refine ⟨⟨_, rfl⟩, ?_⟩
      have h2 : tX X.K X.mg fx G (fun H d v => Is X.K X.mg H d v) (do let v ← y; DL.ask (partD (.str z) v) : m D) Hf1 s1 σ H1 Q := ⟨h1.1, k⟩
      refine (h2.bind.mono fun v2 H2 ⟨d2, Hf2, s2, sb2, r2, h3⟩ => ?_).to
      have w3 := Mo.wp_lift h3.2
      cases d2 with
      | str S =>
        obtain ⟨rfl, hS⟩ := r2
        by_cases hc : S ≠ [] ∧ z.length ≤ 1000000
        · have hsz : sizeLine = 16777216 := sizeLine_eq
          refine ⟨⟨z.toArray⟩, ⟨S.toArray⟩, rfl, rfl, by simpa [Str.length] using hc.1, by rw [str_len]; omega, fun p hp => ?_⟩
          have hn := h3.1.new0 hp
          have st : Ste fx.bag Hf2 H2 (upd Hf2 p (.tup [.str (Txt.partition ⟨z.toArray⟩ ⟨S.toArray⟩).1, .str (Txt.partition ⟨z.toArray⟩ ⟨S.toArray⟩).2.1, .str (Txt.partition ⟨z.toArray⟩ ⟨S.toArray⟩).2.2])) (upd H2 p (.tup [.str (Txt.partition ⟨z.toArray⟩ ⟨S.toArray⟩).1, .str (Txt.partition ⟨z.toArray⟩ ⟨S.toArray⟩).2.1, .str (Txt.partition ⟨z.toArray⟩ ⟨S.toArray⟩).2.2])) := .new h3.1.top hp
          cases hp' : TL.par S [] z with
          | some pq =>
            obtain ⟨p1, q1⟩ := pq
            have e1 : partD (.str z) (.str S) = some (.tup [.str p1, .str S, .str q1]) := by
              show (if S ≠ [] ∧ z.length ≤ 1000000 then _ else none) = _
              rw [if_pos hc, hp']
            rw [e1] at w3
            have e2 := SX.partition_some (a := z) (b := S) hc.1 hp'
            rw [show (⟨z.toArray⟩ : Str) = SX.S z from rfl, show (⟨S.toArray⟩ : Str) = SX.S S from rfl, e2] at st ⊢
            have hl := par_len hp'
            rw [List.length_nil] at hl
            exact w3 (.ref p) _ _ st (h3.1.bag.upd hn.2.1) ⟨by show 3 ≤ sizeLine; omega, p, _, rfl, .inl (.inl upd_same), .cons ⟨rfl, by omega⟩ (.cons ⟨rfl, hS⟩ (.cons ⟨rfl, by omega⟩ .nil))⟩
          | none =>
            have e1 : partD (.str z) (.str S) = some (.tup [.str z, .str [], .str []]) := by
              show (if S ≠ [] ∧ z.length ≤ 1000000 then _ else none) = _
              rw [if_pos hc, hp']
            rw [e1] at w3
            have e2 := SX.partition_none (a := z) (b := S) hc.1 hp'
            rw [show (⟨z.toArray⟩ : Str) = SX.S z from rfl, show (⟨S.toArray⟩ : Str) = SX.S S from rfl, e2] at st ⊢
            exact w3 (.ref p) _ _ st (h3.1.bag.upd hn.2.1) ⟨by show 3 ≤ sizeLine; omega, p, _, rfl, .inl (.inl upd_same), .cons ⟨rfl, by omega⟩ (.cons ⟨rfl, by simp⟩ (.cons ⟨rfl, by simp⟩ .nil))⟩
        · have e1 : partD (.str z) (.str S) = none := if_neg hc
          rw [e1] at w3
          exact w3.elim
      | _ => exact w3.elim
    | _ => exact k.elim).to
theorem oc_intX : CallR X (.type "int") (rDs X.K X.mg intXD) := by
  intro pins s σ H xs us Q I r h
  obtain ⟨Hf, ds, d, sb, l, e, q⟩ := h
  unfold intXD at e
  split at e
  · split at e
    · rename_i z hz
      cases e
      obtain ⟨v, r1, rfl, ⟨rfl, hl⟩, rfl⟩ := l
      exact call_int_str pins s σ H _ us Q I r ⟨_, _, rfl, SX.int_S hz.1 hz.2.1 (by omega), by rw [str_len]; exact hz.2.2, q _ Hf H (.refl sb) (is_int _)⟩
    · cases e
  · exact oc_int pins s σ H xs us Q I r ⟨Hf, ds, d, sb, l, e, q⟩
end
/-! f-strings -/
end DL
/-! ### constants of classes, static methods, keyword-only parameters with defaults -/
namespace DL
open PySem PySem.Spec PyProof.Rows L2 StX
/-! keyword-only parameters -/
def pickL {α : Type} (pk : List Nat) (xs : List α) : List α := pk.filterMap (xs[·]?)
theorem pickL_len {α : Type} {xs : List α} : ∀ {pk : List Nat}, (∀ i ∈ pk, i < xs.length) → (pickL pk xs).length = pk.length
  | [], _ => rfl
  | i :: pk, h => by
    have hi : i < xs.length := h i (.head _)
    have ih := pickL_len (pk := pk) (xs := xs) fun j hj => h j (.tail _ hj)
    unfold pickL at ih ⊢
    rw [List.filterMap_cons, List.getElem?_eq_getElem hi]
    simp [ih]
theorem pickL_up {α : Type} {x : α} {xs : List α} : ∀ {pk : List Nat}, pickL (pk.map (· + 1)) (x :: xs) = pickL pk xs
  | [] => rfl
  | i :: pk => by
    have ih := pickL_up (x := x) (xs := xs) (pk := pk)
    unfold pickL at ih ⊢
    rw [List.map_cons, List.filterMap_cons, List.filterMap_cons, ih]
    rfl
theorem pickL_vals {vs : List V} {us : List Value} (r : Vals vs us) : ∀ pk : List Nat, Vals (pickL pk vs) (pickL pk us)
  | [] => .nil
  | i :: pk => by
    have ih := pickL_vals r pk
    unfold pickL at ih ⊢
    rw [List.filterMap_cons, List.filterMap_cons]
    cases e : vs[i]? with
    | none => rw [r.none_of e]; exact ih
    | some v =>
      obtain ⟨u, hu, ru⟩ := r.get e
      rw [hu]
      exact .cons ru ih
theorem pickL_is {K : PySem.W.Frag} {mg : Str → Option Value} {H : Hp} {ds : List D} {vs : List V} (r : IsL K mg H ds vs) : ∀ pk : List Nat, IsL K mg H (pickL pk ds) (pickL pk vs)
  | [] => .nil
  | i :: pk => by
    have ih := pickL_is r pk
    unfold pickL at ih ⊢
    rw [List.filterMap_cons, List.filterMap_cons]
    cases e : ds[i]? with
    | none =>
      have : vs[i]? = none := by
        rw [List.getElem?_eq_none_iff] at e ⊢
        rw [← r.len]; exact e
      rw [this]; exact ih
    | some d =>
      obtain ⟨v, hv, iv⟩ := r.get e
      rw [hv]
      exact .cons iv ih
def kwI {α : Type} (pk : List Nat) (dm : List D) (len : Nat) (g : List D → R α) (ds : List D) : R α := if ds.length = len then g (pickL pk (ds ++ dm)) else .stuck
section
variable {P : Program} {w : World} {K : PySem.W.Frag} {mg : Str → Option Value} {base : Heap} {k : Nat} {f : Addr} {fd : FuncData} {ps ks ns : List Str} {g : List D → R (List D)}
theorem is_tupK {T : Addr} {od : Option Addr} {its : List Value} {vs : List V} {ds : List D} {n : Nat} {sl : Array (Option Value)} (l : K.lookup T = some ⟨.type "tuple", od, .seq its.toArray n, sl⟩) (hs : IsL K mg (fun _ => none) ds vs) (hv : Vals vs its) (hz : ds.length ≤ 1000) :
    Is K mg (fun _ => none) (.tup ds) (.ref T) := by
  have hsz : sizeLine = 16777216 := sizeLine_eq
  have h1 := hs.len
  have h2 := hv.length
  exact ⟨by omega, T, vs, rfl, .inr ⟨_, its.toArray, n, l, rfl, rfl, by rw [List.size_toArray]; omega, by simpa using hv⟩, hs⟩
end
end DL
namespace DL
open PySem PySem.Spec PyProof.Rows L2
theorem kwI_len {α : Type} {pk : List Nat} {dm : List D} {len : Nat} {g : List D → R α} {ds : List D} (h : kwI pk dm len g ds ≠ .stuck) : ds.length = len := by
  by_cases c : ds.length = len
  · exact c
  · exact absurd (if_neg c) h
def apI1 (fn : D → R (List D)) : List D → R (List D)
  | [a] => fn a
  | _ => .stuck
theorem apI1_len (f) : ∀ ds : List D, apI1 f ds ≠ .stuck → ds.length = 1 := fun ds h => by
  unfold apI1 at h
  split at h <;> first | rfl | exact absurd rfl h
def apI3 (fn : D → D → D → R (List D)) : List D → R (List D)
  | [a, b, c] => fn a b c
  | _ => .stuck
theorem apI3_len (f) : ∀ ds : List D, apI3 f ds ≠ .stuck → ds.length = 3 := fun ds h => by
  unfold apI3 at h
  split at h <;> first | rfl | exact absurd rfl h
end DL
namespace DL
open PySem PySem.Spec PyProof.Rows L2
end DL
namespace DL
open PySem
/-- isinstance of plain data against an own class -/
def noneOfB : List (String × Bool) := [("NoneType", false), ("bool", false), ("int", false), ("str", false), ("tuple", false), ("list", false), ("dict", false)]
end DL
/-! ### a, b, c = [..], [..], 'text' -/
namespace DL
open PySem PySem.Spec PyProof.Rows L2
section
variable {X : Cx} {fx : Fx} {m : Type → Type} [Mo m] {G : List Sl} {α β : Type} {kk : Nat} {a b : Expr} {rest : List Stmt} {ex : α → List Sl} {exb : β → List Sl} {pos px py pz pc pt pt2 : Pos} {n1 n2 n3 : Str} {kt k2 jc : Nat}
theorem dss_par3FFS {x y : m (List D)} {t : Str} {tz : List Nat} {k : List D → List D → m (Fl α β)} (C : Cok X fx kk) (i j l : Nat) (ha : PE X a (tF X.K X.mg fx G x)) (hb : PE X b (tF X.K X.mg fx G y)) (ht : t = ⟨tz.toArray⟩) (htl : tz.length ≤ 1000)
    (hr : ∀ ds es, PSs X rest (tS X.K X.mg fx (((G.set i (.ow ds)).set j (.ow es)).set l (.im (.str tz))) ex exb (k ds es)))
    (hij : i ≠ j := by decide) (hil : i ≠ l := by decide) (hjl : j ≠ l := by decide) (hi : X.N[i]? = some n1 := by rfl) (hj : X.N[j]? = some n2 := by rfl) (hl : X.N[l]? = some n3 := by rfl) (hx : X.env.scope.names.lookup n1 = some .local := by rfl) (hy : X.env.scope.names.lookup n2 = some .local := by rfl) (hz : X.env.scope.names.lookup n3 = some .local := by rfl)
    (hw : swappedStores [.Tuple [.Name n1 px, .Name n2 py, .Name n3 pz] kt pt] (.Tuple [a, b, .Constant (.str t) jc pc] k2 pt2) X.env = pure (some [n1, n2, n3]) := by rfl)
    (hs : swapsWithSole [.Tuple [.Name n1 px, .Name n2 py, .Name n3 pz] kt pt] (.Tuple [a, b, .Constant (.str t) jc pc] k2 pt2) pos.line X.env = pure false := by rfl)
    (hsa : starEach [a, b, .Constant (.str t) jc pc] X.env = (false, eval a X.env) :: starEach [b, .Constant (.str t) jc pc] X.env := by rfl) (hsb : starEach [b, .Constant (.str t) jc pc] X.env = (false, eval b X.env) :: starEach [.Constant (.str t) jc pc] X.env := by rfl) (hsc : starEach [.Constant (.str t) jc pc] X.env = (false, eval (.Constant (.str t) jc pc) X.env) :: starEach [] X.env := by rfl)
    (hg : GxOk fx G := by first | trivial | repeat' (first | exact True.intro | exact Or.inl rfl | exact Or.inr rfl | refine And.intro ?_ ?_)) :
    PSs X (.Assign [.Tuple [.Name n1 px, .Name n2 py, .Name n3 pz] kt pt] (.Tuple [a, b, .Constant (.str t) jc pc] k2 pt2) pos :: rest) (tS X.K X.mg fx G ex exb (do let ds ← x; let es ← y; k ds es)) :=
  pssI (pss_cons (ps_par3 C.calm C.nd hi hj hl hij hil hjl hx hy hz (pa_cons ha (pa_cons hb (pa_cons pe_str pa_nil hsc) hsb) hsa) hw hs) (pss_ex (ι := List D × List D) fun r => hr r.1 r.2)) fun D σ H ⟨Hf, s, h⟩ =>
  ⟨Hf, s, h.1, Mo.wp_mono (Mo.wp_bind h.2) (fun ds s1 w p vs Hf1 H1 e bg hp hf1 hn l' hz' => by
    have st1 := h.1.step e bg
    have n0 := h.1.new0 hn
    refine ⟨Hf1, s1, st1, Mo.wp_mono (Mo.wp_bind w) (fun es s2 w2 p2 vs2 Hf2 H2 e2 bg2 hp2 hf2 hn2 l2 hz2 => ?_) fun e s' k => exs_ex hg k⟩
    have st2 := st1.step e2 bg2
    have n2 := st1.new0 hn2
    have hpp : H2 p = some (.lst vs) := e2.keep _ _ hp n0.2.1
    have hff : Hf2 p = none := e2.stayNone hf1 (by rw [hp]; simp)
    have ne : p ≠ p2 := fun z => by rw [z, hn2] at hp; cases hp
    have st3 := st2.setOw (i := i) (fun j q e1 x ex ox z => h.1.owNe hn j q e1 x ex ox z) hpp hff n0.1 n0.2.1 (l'.mono e2.sub) hz'
    refine ⟨.ref p, .ref p2, .str t, rfl, (ds, es), Hf2, s2, (st3.setOw (i := j) (fun j' q e1 x ex ox z => ?_) hp2 hf2 n2.1 n2.2.1 l2 hz2).set (i := l) (show Is X.K X.mg Hf2 (.str tz) (.str t) by rw [Is, ht]; exact ⟨rfl, Nat.le_of_lt (small1000 htl)⟩), Mo.wp_mono w2 (fun f s2 h2 => h2.up (e.sub.trans e2.sub)) fun e s' k => k⟩
    by_cases c : i = j'
    · subst c
      have hi' : i < σ.length := by
        have := (List.getElem?_eq_some_iff.mp ex).1
        rw [h.1.len]
        simpa using this
      rw [List.getElem?_set_self hi'] at e1
      cases e1
      exact ne z
    · rw [List.getElem?_set_ne c] at e1 ex
      exact st1.owNe hn2 j' q e1 x ex ox z) fun e s' k => exs_ex hg k⟩
end
end DL
/-! ### an own list becomes the bag; keyword calls of defs -/
namespace DL
open PySem PySem.Spec PyProof.Rows L2 StX
section
variable {X : Cx} {fx : Fx} {G : List Sl} {α β : Type} {kk : Nat} {rest : List Stmt} {ex : α → List Sl} {exb : β → List Sl}
theorem StS.unset {Hf H : Hp} {σ : L2.St} {s : S} (i : Nat) (st : StS X.K X.mg fx Hf H σ G s) : StS X.K X.mg fx Hf H σ (G.set i .un) s := by
  refine ⟨st.ste, st.bag, st.bagg, by simpa using st.len, fun j x e => ?_, fun j l x y p ne ey ez oy oz e1 e2 => ?_⟩
  · by_cases c : i = j
    · subst c
      by_cases hl : i < G.length
      · rw [List.getElem?_set_self hl] at e
        cases e
        trivial
      · rw [List.getElem?_eq_none_iff.mpr (by simpa using hl)] at e
        cases e
    · rw [List.getElem?_set_ne c] at e
      exact st.sl j x e
  · have keep : ∀ {q : Nat} {z : Sl}, (G.set i .un)[q]? = some z → isOw z = true → G[q]? = some z := fun {q z} e o => by
      by_cases c : i = q
      · subst c
        by_cases hl : i < G.length
        · rw [List.getElem?_set_self hl] at e
          cases e
          cases o
        · rw [List.getElem?_eq_none_iff.mpr (by simpa using hl)] at e
          cases e
      · rw [List.getElem?_set_ne c] at e
        exact e
    exact st.dis j l x y p ne (keep ey oy) (keep ez oz) oy oz e1 e2
theorem dss_toBag {ds : List D} {k : M (Fl α β)} (C : Cok X fx kk) (i : Nat) (hr : ∀ b, Cok X (fx.bagged b) kk → PSs X rest (tS X.K X.mg (fx.bagged b) (G.set i .bg) ex exb k)) (hex : ∀ a, (ex a).all noBg = true) (hexb : ∀ a, (exb a).all noBg = true) (hfx : fx.bag = [] := by rfl) (hme : fx.me = [] := by rfl) (hgx : fx.gx = none := by rfl) (hnr : fx.nr = false := by rfl) (hG : G.all noBg = true := by rfl) (hGi : G[i]? = some (.ow ds) := by rfl) :
    PSs X rest (tS X.K X.mg fx G ex exb (withBag (.lst ds) k : R (Fl α β))) := pssI (pss_ex fun b => hr b (C.bagged b)) fun D σ H ⟨Hf, s, h⟩ => by
  obtain ⟨p, vs, ep, hp, hf, h0, nb, l, hz⟩ := h.1.sl i _ hGi
  have w1 : R.wp (withBag (.lst ds) k) s _ _ := h.2
  unfold withBag at w1
  split at w1
  · rename_i x y hd
    cases hd
    obtain ⟨v1, r1, rfl, rfl, v2, r2, rfl, rfl, rfl⟩ := l
    have hi : i < G.length := (List.getElem?_eq_some_iff.mp hGi).1
    have hu : (G.set i .un).all noBg = true := by
      rw [List.all_eq_true] at hG ⊢
      intro z hz
      rcases List.mem_or_eq_of_mem_set hz with q | q
      · exact hG z q
      · rw [q]; rfl
    have st := StS.setBg (i := i) (x := x) (y := y) hfx hme (StS.unset i h.1) (fun j q e z ez oz => ?_) hp hf h0 hu
    · have e1 : σ.set i (some (.ref p)) = σ := by
        apply List.ext_getElem?
        intro j
        by_cases c : i = j
        · subst c
          rw [List.getElem?_set_self (by rw [h.1.len]; exact hi), ep]
        · rw [List.getElem?_set_ne c]
      rw [e1, List.set_set] at st
      refine ⟨p, Hf, ⟨x, y, 0, [], false⟩, st, ?_⟩
      show (k _).wp _ _
      cases q : k ⟨x, y, 0, [], false⟩ with
      | ok f s2 =>
        rw [q] at w1
        have w2 : FP X.K X.mg fx Hf ex exb D f s := w1
        show FP X.K X.mg (fx.bagged p) Hf ex exb D f s2
        cases f with
        | nx a => exact fun Hf' H' σ' sb st => w2 Hf' H' σ' sb (StS.unbag hfx hme h0 st (hex a))
        | rt d => exact fun v Hf' H' st bg' r => w2 v Hf' H' (by rw [hfx, hme]; exact Ste.unbag (by have e : (fx.bagged p).me = [] := hme; rw [e] at st; exact st) h0) (by rw [hfx]; trivial) r
        | bk b => exact fun Hf' H' σ' sb st => w2 Hf' H' σ' sb (StS.unbag hfx hme h0 st (hexb b))
        | ct b => exact fun Hf' H' σ' sb st => w2 Hf' H' σ' sb (StS.unbag hfx hme h0 st (hexb b))
      | ex e2 s2 =>
        rw [q] at w1
        have w2 : EXS X.K X.mg fx e2 s := w1
        show EXS X.K X.mg (fx.bagged p) e2 s2
        intro cls dd σ' Hf' H' xs xi
        refine w2 cls dd σ' Hf' H' ?_ xi
        unfold XSt at xs ⊢
        have hgx' : (fx.bagged p).gx = none := hgx
        rw [hgx'] at xs
        rw [hgx]
        exact ⟨by rw [hfx, hme]; exact Ste.unbag (by have z := xs.1; have e : (fx.bagged p).me = [] := hme; rw [e] at z; exact z) h0, by rw [hfx]; trivial⟩
      | stuck => rw [q] at w1; exact w1.elim
    · -- another own slot is another list
      intro hqp
      subst hqp
      by_cases c : i = j
      · subst c
        rw [List.getElem?_set_self hi] at ez
        cases ez
        cases oz
      · rw [List.getElem?_set_ne c] at ez
        exact h.1.dis i j _ _ q c hGi ez rfl oz ep e
  · exact w1.elim
end
/-! keyword calls of defs without defaults -/
end DL
namespace DL
open PySem PySem.Spec PyProof.Rows L2
end DL
/-! ### text.index(sign) -/
namespace DL
open PySem PySem.Spec PyProof.Rows L2
def indexD (a b : D) : Option D := match a, b with
  | .str z, .str [c] => if c ∈ z then some (.int ((z.idxOf c : Nat) : Int)) else none
  | _, _ => none
theorem pre_one {c : Nat} {l : List Nat} : TL.pre [c] l = true ↔ ∃ r, l = c :: r := by
  cases l with
  | nil => rw [TL.pre_nil (by simp)]; simp
  | cons x r =>
    by_cases h : x = c
    · subst h
      exact ⟨fun _ => ⟨r, rfl⟩, fun _ => TL.pre_self [x] r⟩
    · rw [TL.pre_of_head [] r h]
      constructor
      · intro z; cases z
      · rintro ⟨r', e⟩; cases e; exact absurd rfl h
theorem occ_ix {z : List Nat} {c : Nat} (h : c ∈ z) : ∃ r, Builtin.Str.occurrences ⟨z.toArray⟩ ⟨[c].toArray⟩ 0 (⟨z.toArray⟩ : Str).length 1 = z.idxOf c :: r := by
  have hl : (TL.tl (⟨z.toArray⟩ : Str)) = z := by simp [TL.tl]
  have hc : (TL.tl (⟨[c].toArray⟩ : Str)) = [c] := by simp [TL.tl]
  have at_ : ∀ i, StrLaws.At ⟨z.toArray⟩ ⟨[c].toArray⟩ (⟨z.toArray⟩ : Str).length i ↔ z[i]? = some c := fun i => by
    rw [TL.at_iff (by rw [hc]; simp), hl, hc, pre_one]
    constructor
    · rintro ⟨r, e⟩
      have := congrArg (fun l => l[0]?) e
      simpa using this
    · intro e
      obtain ⟨hi, e⟩ := List.getElem?_eq_some_iff.mp e
      exact ⟨z.drop (i + 1), by rw [List.drop_eq_getElem_cons hi, e]⟩
  have hj : z.idxOf c < z.length := List.idxOf_lt_length_iff.mpr h
  have hje : z[z.idxOf c]? = some c := by rw [List.getElem?_eq_getElem hj, List.getElem_idxOf]
  rcases StrLaws.occ_head ⟨z.toArray⟩ ⟨[c].toArray⟩ 1 (Nat.le_refl _) with ⟨e, hn⟩ | ⟨i, r, e, hi, hn⟩
  · exact absurd ((at_ _).mpr hje) (hn _)
  · refine ⟨r, ?_⟩
    rw [e]
    have hi' := (at_ i).mp hi
    have h1 : ¬ z.idxOf c < i := fun q => hn _ q ((at_ _).mpr hje)
    have h2 : ¬ i < z.idxOf c := fun q => by
      have := List.not_of_lt_findIdx (p := (· == c)) q
      obtain ⟨hil, e2⟩ := List.getElem?_eq_some_iff.mp hi'
      rw [e2] at this
      simp at this
    have : i = z.idxOf c := by omega
    rw [this]
section
variable {X : Cx} {fx : Fx} {m : Type → Type} [Mo m] {G : List Sl} {o e : Expr} {apos pos : Pos} {x y : m D}
theorem de_index (ho : PE X o (tE X.K X.mg fx G x)) (he : PE X e (tE X.K X.mg fx G y)) (hs : starEach [e] X.env = [(false, eval e X.env)] := by rfl) (hbase : attributeBase o "index" X.env (eval o X.env) = eval o X.env := by rfl) (hline : (apos.endLine == pos.line) = true := by rfl) :
    PE X (.Call (.Attribute o "index" apos) [e] [] pos) (tE X.K X.mg fx G (do let u ← x; let _ ← ask (strOf u); let v ← y; ask (indexD u v))) :=
  peI (pe_m1 PySem.F.slot_str_index PySem.F.type_str_index mt_sindex ho he hs hbase hline) fun σ H Q ⟨Hf, s, h⟩ =>
  (h.bind.mono fun v1 H1 ⟨d1, Hf1, s1, sb1, r1, h1⟩ => by
    have k := Mo.wp_lift (Mo.wp_bind h1.2)
    cases d1 with
    | str S =>
      obtain ⟨rfl, hz1⟩ := r1
      refine ⟨⟨_, rfl⟩, ?_⟩
      have h2 : tX X.K X.mg fx G (fun H d v => Is X.K X.mg H d v) (do let v ← y; ask (indexD (.str S) v) : m D) Hf1 s1 σ H1 Q := ⟨h1.1, k⟩
      refine (h2.bind.mono fun v2 H2 ⟨d2, Hf2, s2, sb2, r2, h3⟩ => ?_).to
      obtain ⟨d, e, q⟩ := h3.ask
      cases d2 with
      | str T =>
        obtain ⟨rfl, _⟩ := r2
        match T, e with
        | [c], e =>
          have e' : (if c ∈ S then some (D.int ((S.idxOf c : Nat) : Int)) else none) = some d := e
          by_cases hc : c ∈ S
          · rw [if_pos hc] at e'
            cases e'
            obtain ⟨r, er⟩ := occ_ix hc
            exact ⟨_, _, _, r, rfl, rfl, er, q _ Hf2 H2 (.refl h3.1.top) (is_int _)⟩
          · rw [if_neg hc] at e'; cases e'
        | [], e => cases e
        | _ :: _ :: _, e => cases e
      | _ => cases e
    | _ => exact k.elim).to
end
end DL
/-! ### fields as targets of an unpacking -/
namespace DL
open PySem PySem.Spec PyProof.Rows L2
theorem assign_attr {M : Model} {A : Around} {E : Value → Shared → Prop} {s : Shared} {env : Env} {o : Expr} {f : Str} {pos' : Pos} {u : Value} {Q : Unit → Shared → Prop}
    (h : wpAny M A (eval o env) (fun ov s₂ => wpAny M A (setAttr ov f u) Q E s₂) E s) : wpAny M A (assign (.Attribute o f pos') env u) Q E s := fun Γ p hΓ => by
  simp only [assign_Attribute, Sem.wp_bind', Sem.wp_holding, Sem.wp_cmd_standAt, Sem.wp_release, Sem.wp_pure']
  exact Sem.wp_mono M Γ _ (fun ov _ s₂ h₂ => h₂ Γ _ hΓ) (fun _ _ _ h' => h') _ _ (h Γ _ hΓ)
def gFld (K : PySem.W.Frag) (to : TE) (f : Str) : TG := fun y σ H Q => to σ H fun x H2 => ∃ a C dx fs, x = .ref a ∧ H2 a = some (.ins C dx fs) ∧ Cls K C ∧ NoAttr K C f ∧ fs.length < 1000 ∧ Q σ (upd H2 a (.ins C dx (putF f y fs)))
section
variable {X : Cx} {o : Expr} {to : TE} {f : Str} {pos' : Pos}
theorem pg_fld (ho : PE X o to) : PG X (.Attribute o f pos') (gFld X.K to f) := by
  refine ⟨fun pins s σ H v u Q I r h => assign_attr (thn (ho.run pins s σ H _ I h) fun ov s2 ⟨x, H2, I2, rx, a, C, dx, fs, ex, ea, c, n, l, q2⟩ => ?_)⟩
  subst ex
  obtain rfl : ov = Value.ref a := rx
  exact setattr_ok I2 ea c n l r fun s3 I3 => ⟨σ, _, I3, q2⟩
end
end DL
namespace DL
open PySem L2
/-! ### plain laws -/
instance : LawfulMonad R := LawfulMonad.mk' (m := R) (id_map := fun x => by cases x <;> rfl) (pure_bind := fun _ _ => rfl) (bind_assoc := fun x _ _ => by cases x <;> rfl)
theorem M.ext {α : Type} {x y : M α} (h : ∀ s, x s = y s) : x = y := funext h
instance : LawfulMonad M := LawfulMonad.mk' (m := M)
  (id_map := fun x => M.ext fun s => by
    show (x s).bd (fun a s => .ok a s) = x s
    cases x s <;> rfl)
  (pure_bind := fun _ _ => rfl)
  (bind_assoc := fun x f g => M.ext fun s => by
    show ((x s).bd f).bd g = (x s).bd fun a => f a >>= g
    cases x s <;> rfl)
@[simp] theorem lift_R {α : Type} (r : R α) : (Mo.lift r : R α) = r := rfl
@[simp] theorem lift_M {α : Type} (a : α) : (Mo.lift (R.ok a) : M α) = pure a := rfl
@[simp] theorem noex_R {α : Type} (a : α) : (Mo.noex (R.ok a) : R α) = .ok a := rfl
@[simp] theorem noex_M {α : Type} (a : α) : (Mo.noex (pure a : M α) : M α) = pure a := rfl
@[simp] theorem askM {α : Type} (a : α) : (ask (some a) : M α) = pure a := rfl
@[simp] theorem mkL_R (ds : List D) : (mkL (R.ok ds) : R D) = .ok (.lst ds) := rfl
@[simp] theorem mkL_M (ds : List D) : (mkL (pure ds : M (List D)) : M D) = pure (.lst ds) := rfl
def Inv (s : S) : Prop := s.w = false ∧ 0 ≤ s.y ∧ s.y < 4294967296
def Ok {α : Type} (x : M α) (Q : α → Prop) : Prop := ∀ s, Inv s → ∃ a s', x s = .ok a s' ∧ Inv s' ∧ Q a
def OkR {α : Type} (x : R α) (Q : α → Prop) : Prop := ∃ a, x = .ok a ∧ Q a
section
variable {α β γ : Type} {Q : β → Prop} {P : α → Prop}
theorem ok_pure {a : β} (h : Q a) : Ok (pure a : M β) Q := fun s i => ⟨a, s, rfl, i, h⟩
theorem ok_bind {x : M α} {f : α → M β} (h : Ok x fun a => Ok (f a) Q) : Ok (x >>= f) Q := fun s i => by
  obtain ⟨a, s', e, i', q⟩ := h s i
  obtain ⟨b, s2, e2, i2, q2⟩ := q s' i'
  refine ⟨b, s2, ?_, i2, q2⟩
  show (x s).bd f = _
  rw [e]; exact e2
theorem ok_mono {x : M α} {P' : α → Prop} (h : Ok x P) (w : ∀ a, P a → P' a) : Ok x P' := fun s i => by
  obtain ⟨a, s', e, i', q⟩ := h s i
  exact ⟨a, s', e, i', w a q⟩
/-- a draw first -/
theorem ok_then {x : M α} {f : α → M β} (h : Ok x P) (w : ∀ a, P a → Ok (f a) Q) : Ok (x >>= f) Q := ok_bind (ok_mono h w)
theorem ok_ask {o : Option α} {a : α} (e : o = some a) (h : P a) : Ok (ask o : M α) P := by subst e; exact ok_pure h
theorem ok_noex {x : M α} (h : Ok x P) : Ok (Mo.noex x) P := fun s i => by
  obtain ⟨a, s', e, i', q⟩ := h s i
  refine ⟨a, s', ?_, i', q⟩
  show (x s).nx = _
  rw [e]; rfl
theorem ok_ite {c : Prop} [Decidable c] {x y : M α} (h1 : c → Ok x P) (h2 : ¬ c → Ok y P) : Ok (if c then x else y) P := by
  by_cases h : c
  · rw [if_pos h]; exact h1 h
  · rw [if_neg h]; exact h2 h
theorem okr_pure {a : β} (h : Q a) : OkR (.ok a) Q := ⟨a, rfl, h⟩
theorem okr_bind {x : R α} {f : α → R β} (h : OkR x fun a => OkR (f a) Q) : OkR (x >>= f) Q := by
  obtain ⟨a, rfl, q⟩ := h
  exact q
theorem okr_mono {x : R α} {P' : α → Prop} (h : OkR x P) (w : ∀ a, P a → P' a) : OkR x P' := by
  obtain ⟨a, rfl, q⟩ := h
  exact ⟨a, rfl, w a q⟩
theorem okr_then {x : R α} {f : α → R β} (h : OkR x P) (w : ∀ a, P a → OkR (f a) Q) : OkR (x >>= f) Q := okr_bind (okr_mono h w)
end
/-! defs -/
def FlQ (nr : Bool) (Q : D → Prop) : Fl Unit Empty → Prop
  | .nx _ => nr = false ∧ Q .non
  | .rt d => Q d
  | _ => False
theorem ok_runM {nr : Bool} {x : M (Fl Unit Empty)} {Q : D → Prop} (h : Ok x (FlQ nr Q)) : Ok (runM nr x) Q := fun s i => by
  obtain ⟨a, s', e, i', q⟩ := h s i
  unfold runM
  rw [e]
  cases a with
  | nx a =>
    obtain ⟨q1, q2⟩ := q
    subst q1
    exact ⟨.non, s', rfl, i', q2⟩
  | rt d => exact ⟨d, s', rfl, i', q⟩
  | bk b => exact b.elim
  | ct b => exact b.elim
theorem okr_runR {nr : Bool} {x : R (Fl Unit Empty)} {Q : D → Prop} (h : OkR x (FlQ nr Q)) : OkR (runR nr x) Q := by
  obtain ⟨a, rfl, q⟩ := h
  cases a with
  | nx a =>
    obtain ⟨q1, q2⟩ := q
    subst q1
    exact ⟨.non, rfl, q2⟩
  | rt d => exact ⟨d, rfl, q⟩
  | bk b => exact b.elim
  | ct b => exact b.elim
theorem runR_rt {nr : Bool} {d : D} : runR nr (.ok (.rt d)) = .ok d := rfl
/-! flow -/
section
variable {α β γ : Type}
@[simp] theorem seqR_nx {a : α} {k : α → R (Fl γ β)} : seqF (R.ok (.nx a)) k = k a := rfl
@[simp] theorem seqR_rt {d : D} {k : α → R (Fl γ β)} : seqF (R.ok (.rt d)) k = .ok (.rt d) := rfl
@[simp] theorem seqR_bk {b : β} {k : α → R (Fl γ β)} : seqF (R.ok (.bk b)) k = .ok (.bk b) := rfl
@[simp] theorem seqR_ct {b : β} {k : α → R (Fl γ β)} : seqF (R.ok (.ct b)) k = .ok (.ct b) := rfl
def SeqQ (k : α → Prop) (Q : Fl γ β → Prop) : Fl α β → Prop
  | .nx a => k a
  | .rt d => Q (.rt d)
  | .bk b => Q (.bk b)
  | .ct b => Q (.ct b)
theorem ok_seq {x : M (Fl α β)} {k : α → M (Fl γ β)} {Q : Fl γ β → Prop} (h : Ok x (SeqQ (fun a => Ok (k a) Q) Q)) : Ok (seqF x k) Q := ok_bind (ok_mono h fun f q => by
  cases f with
  | nx a => exact q
  | rt d => exact ok_pure q
  | bk b => exact ok_pure q
  | ct b => exact ok_pure q)
theorem okr_seq {x : R (Fl α β)} {k : α → R (Fl γ β)} {Q : Fl γ β → Prop} (h : OkR x (SeqQ (fun a => OkR (k a) Q) Q)) : OkR (seqF x k) Q := okr_bind (okr_mono h fun f q => by
  cases f with
  | nx a => exact q
  | rt d => exact okr_pure q
  | bk b => exact okr_pure q
  | ct b => exact okr_pure q)
/-- what a turn of a loop leaves -/
def TurnQ (I : α → Prop) (Q : Fl α β → Prop) : Fl α α → Prop
  | .nx a => I a
  | .ct a => I a
  | .bk a => Q (.nx a)
  | .rt d => Q (.rt d)
theorem ok_for {u : D → Option γ} {xb : α → γ → M (Fl α α)} {Q : Fl α β → Prop} (I : Nat → α → Prop) (ds : List D) (a0 : α) (h0 : I 0 a0) (hs : ∀ i d a, ds[i]? = some d → I i a → ∃ c, u d = some c ∧ Ok (xb a c) (TurnQ (I (i + 1)) Q)) (he : ∀ a, I ds.length a → Q (.nx a)) : Ok (forF u xb ds a0) Q := by
  induction ds generalizing I a0 with
  | nil => exact ok_pure (he _ h0)
  | cons d ds ih =>
    unfold forF
    obtain ⟨c, e, h⟩ := hs 0 d a0 rfl h0
    rw [e]
    refine ok_bind (ok_pure (ok_bind (ok_mono h fun f q => ?_)))
    cases f with
    | nx a => exact ih (fun i => I (i + 1)) a q (fun i d' a' e' q' => hs (i + 1) d' a' (by simpa using e') q') (fun a q => he a (by simpa using q))
    | ct a => exact ih (fun i => I (i + 1)) a q (fun i d' a' e' q' => hs (i + 1) d' a' (by simpa using e') q') (fun a q => he a (by simpa using q))
    | bk a => exact ok_pure q
    | rt d => exact ok_pure q
theorem okr_for {u : D → Option γ} {xb : α → γ → R (Fl α α)} {Q : Fl α β → Prop} (I : Nat → α → Prop) (ds : List D) (a0 : α) (h0 : I 0 a0) (hs : ∀ i d a, ds[i]? = some d → I i a → ∃ c, u d = some c ∧ OkR (xb a c) (TurnQ (I (i + 1)) Q)) (he : ∀ a, I ds.length a → Q (.nx a)) : OkR (forF u xb ds a0) Q := by
  induction ds generalizing I a0 with
  | nil => exact okr_pure (he _ h0)
  | cons d ds ih =>
    unfold forF
    obtain ⟨c, e, h⟩ := hs 0 d a0 rfl h0
    rw [e]
    refine okr_bind (okr_pure (okr_bind (okr_mono h fun f q => ?_)))
    cases f with
    | nx a => exact ih (fun i => I (i + 1)) a q (fun i d' a' e' q' => hs (i + 1) d' a' (by simpa using e') q') (fun a q => he a (by simpa using q))
    | ct a => exact ih (fun i => I (i + 1)) a q (fun i d' a' e' q' => hs (i + 1) d' a' (by simpa using e') q') (fun a q => he a (by simpa using q))
    | bk a => exact okr_pure q
    | rt d => exact okr_pure q
/-- for over a range or a list, no state -/
theorem ok_forU {u : D → Option γ} {xb : Unit → γ → M (Fl Unit Unit)} {Q : Fl Unit β → Prop} (ds : List D) (hs : ∀ d ∈ ds, ∃ c, u d = some c ∧ Ok (xb () c) (TurnQ (fun _ => True) Q)) (he : Q (.nx ())) : Ok (forF u xb ds ()) Q :=
  ok_for (fun _ _ => True) ds () trivial (fun i d _ e _ => hs d (List.mem_of_getElem? e)) fun _ _ => he
theorem okr_forU {u : D → Option γ} {xb : Unit → γ → R (Fl Unit Unit)} {Q : Fl Unit β → Prop} (ds : List D) (hs : ∀ d ∈ ds, ∃ c, u d = some c ∧ OkR (xb () c) (TurnQ (fun _ => True) Q)) (he : Q (.nx ())) : OkR (forF u xb ds ()) Q :=
  okr_for (fun _ _ => True) ds () trivial (fun i d _ e _ => hs d (List.mem_of_getElem? e)) fun _ _ => he
end
/-! comprehensions -/
theorem lcR {γ : Type} {u : D → Option γ} {xt : γ → R Bool} {xe : γ → R D} (c : D → γ) (p : D → Bool) (f : D → D) : ∀ ds : List D, (∀ d ∈ ds, u d = some (c d)) → (∀ d ∈ ds, xt (c d) = .ok (p d)) → (∀ d ∈ ds, p d = true → xe (c d) = .ok (f d)) → lcF u xt xe ds = .ok ((ds.filter p).map f)
  | [], _, _, _ => rfl
  | d :: ds, h1, h2, h3 => by
    have ih := lcR c p f ds (fun x m => h1 x (.tail _ m)) (fun x m => h2 x (.tail _ m)) (fun x m => h3 x (.tail _ m))
    unfold lcF
    rw [h1 d (.head _)]
    simp only [ask_some, R.bind_eq, R.bd, h2 d (.head _), noex_R]
    cases q : p d with
    | false => simp only [Bool.false_eq_true, if_false, ih, List.filter_cons, q]
    | true =>
      simp only [if_true, List.filter_cons, q, List.map_cons]
      rw [h3 d (.head _) q, ih]
      rfl
inductive All2 {α β : Type} (P : α → β → Prop) : List α → List β → Prop
  | nil : All2 P [] []
  | cons {x : α} {y : β} {xs : List α} {ys : List β} (h : P x y) (t : All2 P xs ys) : All2 P (x :: xs) (y :: ys)
/-- all of them, each drawn -/
theorem ok_lc {γ : Type} {u : D → Option γ} {xe : γ → M D} {P : D → D → Prop} : ∀ ds : List D, (∀ d ∈ ds, ∃ c, u d = some c ∧ Ok (xe c) (P d)) → Ok (lcF u (fun _ => pure true) xe ds) fun rs => All2 P ds rs
  | [], _ => ok_pure .nil
  | d :: ds, h => by
    unfold lcF
    obtain ⟨c, e, hx⟩ := h d (.head _)
    rw [e]
    refine ok_bind (ok_pure (ok_bind (ok_noex (ok_pure ?_))))
    simp only [if_true]
    exact ok_then (ok_noex hx) fun y py => ok_then (ok_lc ds fun x m => h x (.tail _ m)) fun r pr => ok_pure (.cons py pr)
/-! the bag -/
theorem ok_bagX {Q : D → Prop} (h : ∀ i : Int, Q (.int i)) : Ok bagX Q := fun s i => ⟨.int s.x, s, by unfold bagX; rw [if_pos i.1], i, h _⟩
theorem ok_bagY {Q : D → Prop} (h : ∀ i : Int, 0 ≤ i → i < 4294967296 → Q (.int i)) : Ok bagY Q := fun s i => ⟨.int s.y, s, by unfold bagY; rw [if_pos i.1], i, h _ i.2.1 i.2.2⟩
theorem ok_setX {i : Int} {Q : Unit → Prop} (h : Q ()) : Ok (bagSetX i) Q := fun s j => ⟨(), { s with x := i }, by unfold bagSetX; rw [if_pos j.1], j, h⟩
theorem ok_setY {i : Int} {Q : Unit → Prop} (h0 : 0 ≤ i) (h1 : i < 4294967296) (h : Q ()) : Ok (bagSetY i) Q := fun s j => ⟨(), { s with y := i }, by unfold bagSetY; rw [if_pos j.1], ⟨j.1, h0, h1⟩, h⟩
theorem okr_bag {α β : Type} {x y : Int} {k : M (Fl α β)} {Q : Fl α β → Prop} (h0 : 0 ≤ y) (h1 : y < 4294967296) (h : Ok k Q) : OkR (withBag (.lst [.int x, .int y]) k) Q := by
  obtain ⟨a, s', e, _, q⟩ := h ⟨x, y, 0, [], false⟩ ⟨rfl, h0, h1⟩
  refine ⟨a, ?_, q⟩
  unfold withBag
  simp only [e]
/-! numbers -/
theorem mul_ii {i j : Int} (hi : i.natAbs < 2 ^ 64) (hj : j.natAbs < 2 ^ 64) : mulD (.int i) (.int j) = some (.int (i * j)) := by
  have h1 := PySem.Flt.log2_lt_of (n := i.natAbs) (k := 64) (by decide) hi
  have h2 := PySem.Flt.log2_lt_of (n := j.natAbs) (k := 64) (by decide) hj
  exact if_pos (show i.natAbs.log2 + j.natAbs.log2 < 1000000 by omega)
theorem mod_ii {i j : Int} (hj : 0 < j) : modD (.int i) (.int j) = some (.int (i % j)) := if_pos hj
theorem fdiv_ii {i j : Int} (hj : 0 < j) (h : j.natAbs < 2 ^ 64) : fdivD (.int i) (.int j) = some (.int (i / j)) := by
  have h1 := PySem.Flt.log2_lt_of (n := j.natAbs) (k := 64) (by decide) h
  exact if_pos (show 0 < j ∧ j.natAbs.log2 < 9000 from ⟨hj, by omega⟩)
@[simp] theorem add_ii {i j : Int} : addD (.int i) (.int j) = some (.int (i + j)) := rfl
@[simp] theorem sub_ii {i j : Int} : subD (.int i) (.int j) = some (.int (i - j)) := rfl
@[simp] theorem lt_ii {i j : Int} : ltD (.int i) (.int j) = some (.bl (decide (i < j))) := rfl
@[simp] theorem le_ii {i j : Int} : leD (.int i) (.int j) = some (.bl (decide (i ≤ j))) := rfl
@[simp] theorem gt_ii {i j : Int} : gtD (.int i) (.int j) = some (.bl (decide (j < i))) := rfl
@[simp] theorem ge_ii {i j : Int} : geD (.int i) (.int j) = some (.bl (decide (j ≤ i))) := rfl
@[simp] theorem eq_ii {i j : Int} : eqD (.int i) (.int j) = some (.bl (decide (i = j))) := rfl
@[simp] theorem ne_ii {i j : Int} : neD (.int i) (.int j) = some (.bl (!decide (i = j))) := rfl
@[simp] theorem eq_ss {a b : List Nat} : eqD (.str a) (.str b) = some (.bl (decide (a = b))) := rfl
@[simp] theorem ne_ss {a b : List Nat} : neD (.str a) (.str b) = some (.bl (!decide (a = b))) := rfl
@[simp] theorem bOf_bl {b : Bool} : bOf (.bl b) = some b := rfl
@[simp] theorem tru_bl {b : Bool} : truD (.bl b) = some b := rfl
@[simp] theorem tru_str {s : List Nat} : truD (.str s) = some (!s.isEmpty) := rfl
@[simp] theorem tru_lst {s : List D} : truD (.lst s) = some (!s.isEmpty) := rfl
@[simp] theorem tru_tup {s : List D} : truD (.tup s) = some (!s.isEmpty) := rfl
@[simp] theorem tru_int {i : Int} : truD (.int i) = some (i != 0) := rfl
@[simp] theorem int_int {i : Int} : intD [.int i] = some (.int i) := rfl
@[simp] theorem len_lst {s : List D} : lenD [.lst s] = some (.int s.length) := rfl
@[simp] theorem len_tup {s : List D} : lenD [.tup s] = some (.int s.length) := rfl
@[simp] theorem len_str {s : List Nat} : lenD [.str s] = some (.int s.length) := rfl
@[simp] theorem len_scr {s : List Int} : lenD [.scr s] = some (.int s.length) := rfl
@[simp] theorem it_lst {s : List D} : itD (.lst s) = some s := rfl
@[simp] theorem it_tup {s : List D} : itD (.tup s) = some s := rfl
@[simp] theorem it_str {s : List Nat} : itD (.str s) = some (chrs s) := rfl
@[simp] theorem int_of {i : Int} : intOf (.int i) = some i := rfl
@[simp] theorem flat_int {i : Int} : flatD (.int i) = some (.int i) := rfl
@[simp] theorem flat_bl {i : Bool} : flatD (.bl i) = some (.bl i) := rfl
@[simp] theorem flat_str {i : List Nat} : flatD (.str i) = some (.str i) := rfl
@[simp] theorem str_of {i : List Nat} : strOf (.str i) = some i := rfl
theorem sz_ok {ds : List D} (h : ds.length ≤ 1000000) : szL ds = some ds := if_pos (by rw [sizeLine_eq]; omega)
theorem apd_ok {ds : List D} {d : D} (h : ds.length < 1000000) : apd ds d = some (ds ++ [d]) := if_pos (by rw [sizeLine_eq]; omega)
theorem rng1_ok {j : Int} (h0 : -4611686018427387904 ≤ j) (h : j ≤ 1000000) : rng1 [.int j] = some (rangeL 0 j.toNat) := if_pos ⟨h0, h⟩
theorem range_len {lo : Int} {n : Nat} : (rangeL lo n).length = n := by simp [rangeL]
theorem range_mem {lo : Int} {n : Nat} {d : D} (h : d ∈ rangeL lo n) : ∃ k : Nat, k < n ∧ d = .int (lo + k) := by
  unfold rangeL at h
  obtain ⟨k, hk, rfl⟩ := List.mem_map.mp h
  exact ⟨k, List.mem_range.mp hk, rfl⟩
theorem range_get {lo : Int} {n i : Nat} {d : D} (h : (rangeL lo n)[i]? = some d) : i < n ∧ d = .int (lo + i) := by
  unfold rangeL at h
  rw [List.getElem?_map] at h
  by_cases c : i < n
  · rw [List.getElem?_range c] at h
    cases h
    exact ⟨c, rfl⟩
  · rw [List.getElem?_eq_none (by simpa using c)] at h
    cases h
theorem ix_lst {ds : List D} {i : Int} (h0 : 0 ≤ i) (h : i < ds.length) : ixD (.lst ds) (.int i) = some (ds[i.toNat]'(by omega)) := by
  unfold ixD L2.atI ixN
  simp only
  rw [if_pos h0, if_pos h]
  exact List.getElem?_eq_getElem (by omega)
theorem ixN_ok {n : Nat} {i : Int} (h0 : 0 ≤ i) (h : i < n) : ixN n i = some i.toNat := by
  unfold ixN
  rw [if_pos h0, if_pos h]
theorem pop_ok {ds : List D} {i : Int} (h0 : 0 ≤ i) (h : i < ds.length) : popI ds (.int i) = some (ds[i.toNat]'(by omega), ds.eraseIdx i.toNat) := by
  unfold popI
  simp only [ixN_ok h0 h]
  rw [List.getElem?_eq_getElem (by omega)]
  rfl
end DL
namespace FN
open DL
def c_CHARACTERS : D := (.str [48, 49, 50, 51, 52, 53, 54, 55, 56, 57, 97, 98, 99, 100, 101, 102, 103, 104, 105, 106, 107, 108, 109, 110, 111, 112, 113, 114, 115, 116, 117, 118, 119, 120, 121, 122])
def c_LONGEST_LABEL : D := (.int (20))
def c_MOST_LABELS : D := (.int (20))
def b_is_label_344b (a0 : D) : R (Fl Unit Empty) := (do let t16 ← (DL.orM (DL.notM (do let x2 ← (do let x1 ← (pure a0); DL.ask (isiD "str" x1)); DL.ask (truD x2))) (DL.notM (do let x6 ← (chainM leD leD (pure (.int 1)) (do let r5 ← (do let x3 ← (pure a0); let r4 ← pure []; pure (x3 :: r4)); DL.ask (lenD r5)) (pure c_LONGEST_LABEL)); DL.ask (bOf x6)))); seqF (if t16 = true then (do let v8 ← (pure (.bl false)); pure (.rt v8)) else (pure (.nx ()))) fun (a7 : Unit) => (do let v15 ← (notV (mkL (do let r14 ← (do let r9 ← (pure a0); DL.ask (itD r9)); lcF (fun d => some d) (fun (c11 : D) => (do let x12 ← (pure c11); let y13 ← (pure c_CHARACTERS); DL.ask ((notInD x12 y13).bind bOf))) (fun (c11 : D) => (pure c11)) r14))); pure (.rt v15)))
def m_is_label_344b : List D → R D := apR1 fun a0 => runR false (b_is_label_344b a0)
theorem n_is_label_344b : ∀ ds : List D, m_is_label_344b ds ≠ .stuck → ds.length = 1 := apR1_len _
def b_is_path_08e1 (a0 : D) : R (Fl Unit Empty) := (do let t19 ← (DL.orM (DL.notM (do let x2 ← (do let x1 ← (pure a0); DL.ask (isiD "tuple" x1)); DL.ask (truD x2))) (do let x6 ← (do let r5 ← (do let x3 ← (pure a0); let r4 ← pure []; pure (x3 :: r4)); DL.ask (lenD r5)); let y7 ← (pure c_MOST_LABELS); DL.ask ((gtD x6 y7).bind bOf))); seqF (if t19 = true then (do let v9 ← (pure (.bl false)); pure (.rt v9)) else (pure (.nx ()))) fun (a8 : Unit) => (do let v18 ← (notV (mkL (do let r17 ← (do let r10 ← (pure a0); DL.ask (itD r10)); lcF (fun d => some d) (fun (c12 : D) => (DL.notM (do let x16 ← (do let r15 ← (do let x13 ← (pure c12); let r14 ← pure []; pure (x13 :: r14)); Mo.lift (m_is_label_344b r15)); DL.ask (truD x16)))) (fun (c12 : D) => (pure c12)) r17))); pure (.rt v18)))
def m_is_path_08e1 : List D → R D := apR1 fun a0 => runR false (b_is_path_08e1 a0)
theorem n_is_path_08e1 : ∀ ds : List D, m_is_path_08e1 ds ≠ .stuck → ds.length = 1 := apR1_len _
def b_is_host_45ba (a0 : D) : R (Fl Unit Empty) := (do let v9 ← (andV (do let r3 ← (do let x1 ← (pure a0); let r2 ← pure []; pure (x1 :: r2)); Mo.lift (m_is_path_08e1 r3)) (do let x7 ← (do let r6 ← (do let x4 ← (pure a0); let r5 ← pure []; pure (x4 :: r5)); DL.ask (lenD r6)); let y8 ← (pure (.int 0)); DL.ask (gtD x7 y8))); pure (.rt v9))
def m_is_host_45ba : List D → R D := apR1 fun a0 => runR false (b_is_host_45ba a0)
theorem n_is_host_45ba : ∀ ds : List D, m_is_host_45ba ds ≠ .stuck → ds.length = 1 := apR1_len _
/-! ### what they do -/
theorem erase_map {α β : Type} (f : α → β) (l : List α) (i : Nat) : (l.map f).eraseIdx i = (l.eraseIdx i).map f := by
  rw [List.eraseIdx_eq_take_drop_succ, List.eraseIdx_eq_take_drop_succ, List.map_append, List.map_take, List.map_drop]
/-- the thirty-six signs -/
def CH : List Nat := [48, 49, 50, 51, 52, 53, 54, 55, 56, 57, 97, 98, 99, 100, 101, 102, 103, 104, 105, 106, 107, 108, 109, 110, 111, 112, 113, 114, 115, 116, 117, 118, 119, 120, 121, 122]
theorem chrs_len {s : List Nat} : (chrs s).length = s.length := by simp [chrs]
/-! labels, paths, hosts -/
def isLab (n : Nat) (z : List Nat) : Bool := decide (1 ≤ z.length) && (decide (z.length ≤ n) && z.all fun c => decide (c ∈ CH))
def labD : D → Bool
  | .str z => isLab 20 z
  | _ => false
theorem labD_str {z : List Nat} : labD (.str z) = isLab 20 z := rfl
def isStr : D → Bool
  | .str _ => true
  | _ => false
def isTup : D → Bool
  | .tup _ => true
  | _ => false
theorem isi_str {d : D} {T : String} (h : tyD d = some T) : isiD "str" d = some (.bl (isStr d)) := by
  cases d with
  | non => exact congrArg (Option.map D.bl) (show L2.kitB "NoneType" "str" = some false by decide +kernel)
  | bl _ => exact congrArg (Option.map D.bl) (show L2.kitB "bool" "str" = some false by decide +kernel)
  | int _ => exact congrArg (Option.map D.bl) (show L2.kitB "int" "str" = some false by decide +kernel)
  | str _ => exact congrArg (Option.map D.bl) (show L2.kitB "str" "str" = some true by decide +kernel)
  | tup _ => exact congrArg (Option.map D.bl) (show L2.kitB "tuple" "str" = some false by decide +kernel)
  | lst _ => exact congrArg (Option.map D.bl) (show L2.kitB "list" "str" = some false by decide +kernel)
  | scr _ => exact congrArg (Option.map D.bl) (show L2.kitB "list" "str" = some false by decide +kernel)
  | dic _ _ => exact congrArg (Option.map D.bl) (show L2.kitB "dict" "str" = some false by decide +kernel)
  | ins _ _ _ => cases h
  | xc _ _ _ _ => cases h
theorem isi_tup {d : D} {T : String} (h : tyD d = some T) : isiD "tuple" d = some (.bl (isTup d)) := by
  cases d with
  | non => exact congrArg (Option.map D.bl) (show L2.kitB "NoneType" "tuple" = some false by decide +kernel)
  | bl _ => exact congrArg (Option.map D.bl) (show L2.kitB "bool" "tuple" = some false by decide +kernel)
  | int _ => exact congrArg (Option.map D.bl) (show L2.kitB "int" "tuple" = some false by decide +kernel)
  | str _ => exact congrArg (Option.map D.bl) (show L2.kitB "str" "tuple" = some false by decide +kernel)
  | tup _ => exact congrArg (Option.map D.bl) (show L2.kitB "tuple" "tuple" = some true by decide +kernel)
  | lst _ => exact congrArg (Option.map D.bl) (show L2.kitB "list" "tuple" = some false by decide +kernel)
  | scr _ => exact congrArg (Option.map D.bl) (show L2.kitB "list" "tuple" = some false by decide +kernel)
  | dic _ _ => exact congrArg (Option.map D.bl) (show L2.kitB "dict" "tuple" = some false by decide +kernel)
  | ins _ _ _ => cases h
  | xc _ _ _ _ => cases h
theorem chrs_mem {z : List Nat} {d : D} (h : d ∈ chrs z) : ∃ c ∈ z, d = .str [c] := by
  obtain ⟨c, m, rfl⟩ := List.mem_map.mp h
  exact ⟨c, m, rfl⟩
def sgn : D → Nat
  | .str [c] => c
  | _ => 0
theorem filter_chrs (p : Nat → Bool) : ∀ z : List Nat, (chrs z).filter (fun d => p (sgn d)) = chrs (z.filter p)
  | [] => rfl
  | c :: z => by
    show ((D.str [c]) :: chrs z).filter (fun d => p (sgn d)) = _
    rw [List.filter_cons, List.filter_cons, filter_chrs p z]
    show (if p c = true then _ else _) = _
    cases p c <;> rfl
theorem filter_none {α : Type} (p : α → Bool) (z : List α) : (z.filter fun c => !p c).isEmpty = z.all p := by
  induction z with
  | nil => rfl
  | cons c z ih =>
    rw [List.filter_cons, List.all_cons, ← ih]
    cases p c <;> rfl
theorem chrs_empty (z : List Nat) : (chrs z).isEmpty = z.isEmpty := by cases z <;> rfl
theorem is_label_ok {d : D} {T : String} (h : tyD d = some T) : m_is_label_344b [d] = .ok (.bl (labD d)) := by
  unfold m_is_label_344b apR1 b_is_label_344b
  simp only [R.pure_eq, R.bind_eq, R.bd, isi_str h, ask_some, tru_bl, DL.orM, DL.notM]
  cases d with
  | str z =>
    simp only [isStr, Bool.not_true, Bool.false_eq_true, if_false, chainM, R.pure_eq, R.bind_eq, R.bd, len_str, ask_some, le_ii, Option.bind_some, bOf_bl, c_LONGEST_LABEL]
    by_cases h1 : 1 ≤ z.length
    · have e1 : decide ((1 : Int) ≤ (z.length : Int)) = true := decide_eq_true (by omega)
      simp only [e1, if_true, R.bd, ask_some, bOf_bl]
      by_cases h2 : z.length ≤ 20
      · have e2 : decide ((z.length : Int) ≤ 20) = true := decide_eq_true (by omega)
        simp only [e2, Bool.not_true, Bool.false_eq_true, if_false, seqR_nx, it_str, ask_some, R.bd]
        rw [lcR (c := fun d => d) (p := fun d => !decide (sgn d ∈ CH)) (f := fun d => d) _ (fun _ _ => rfl) (fun d m => ?_) (fun _ _ _ => rfl)]
        · rw [filter_chrs (fun c => !decide (c ∈ CH))]
          simp only [List.map_id', mkL_R, notV, R.bind_eq, R.bd, tru_lst, ask_some, R.pure_eq, runR_rt, chrs_empty, filter_none, Bool.not_not]
          rw [labD_str]
          unfold isLab
          rw [decide_eq_true h1, decide_eq_true h2]
          rfl
        · obtain ⟨c, _, rfl⟩ := chrs_mem m
          rfl
      · have e2 : decide ((z.length : Int) ≤ 20) = false := decide_eq_false (by omega)
        simp only [e2, Bool.not_false, if_true, seqR_rt, runR_rt]
        rw [labD_str]
        unfold isLab
        rw [decide_eq_true h1, decide_eq_false h2]
        rfl
    · have e1 : decide ((1 : Int) ≤ (z.length : Int)) = false := decide_eq_false (by omega)
      simp only [e1, Bool.false_eq_true, if_false, R.bd, ask_some, bOf_bl, Bool.not_false, if_true, seqR_rt, runR_rt]
      rw [labD_str]
      unfold isLab
      rw [decide_eq_false h1]
      rfl
  | ins _ _ _ => cases h
  | xc _ _ _ _ => cases h
  | _ => rfl
def pathD : D → Bool
  | .tup ds => decide (ds.length ≤ 20) && ds.all labD
  | _ => false
theorem pathD_tup {ds : List D} : pathD (.tup ds) = (decide (ds.length ≤ 20) && ds.all labD) := rfl
def kids : D → List D
  | .tup ds => ds
  | _ => []
theorem is_path_ok {d : D} {T : String} (h : tyD d = some T) (hk : ∀ x ∈ kids d, tyD x ≠ none) : m_is_path_08e1 [d] = .ok (.bl (pathD d)) := by
  unfold m_is_path_08e1 apR1 b_is_path_08e1
  simp only [R.pure_eq, R.bind_eq, R.bd, isi_tup h, ask_some, tru_bl, DL.orM, DL.notM]
  cases d with
  | tup ds =>
    simp only [isTup, Bool.not_true, Bool.false_eq_true, if_false, R.bd, len_tup, ask_some, gt_ii, Option.bind_some, bOf_bl, c_MOST_LABELS]
    by_cases h2 : ds.length ≤ 20
    · have e2 : decide ((20 : Int) < (ds.length : Int)) = false := decide_eq_false (by omega)
      simp only [e2, Bool.false_eq_true, if_false, seqR_nx, it_tup, ask_some, R.bd]
      rw [lcR (c := fun d => d) (p := fun d => !labD d) (f := fun d => d) _ (fun _ _ => rfl) (fun d m => ?_) (fun _ _ _ => rfl)]
      · simp only [List.map_id', mkL_R, notV, R.bind_eq, R.bd, tru_lst, ask_some, R.pure_eq, runR_rt, filter_none, Bool.not_not]
        rw [pathD_tup, decide_eq_true h2]
        rfl
      · cases e : tyD d with
        | none => exact absurd e (hk d m)
        | some T => simp only [lift_R, is_label_ok e, R.bd, tru_bl, ask_some]
    · have e2 : decide ((20 : Int) < (ds.length : Int)) = true := decide_eq_true (by omega)
      simp only [e2, if_true, seqR_rt, runR_rt]
      rw [pathD_tup, decide_eq_false h2]
      rfl
  | ins _ _ _ => cases h
  | xc _ _ _ _ => cases h
  | _ => rfl
def hostD (d : D) : Bool := pathD d && !(kids d).isEmpty
theorem is_host_ok {d : D} {T : String} (h : tyD d = some T) (hk : ∀ x ∈ kids d, tyD x ≠ none) : m_is_host_45ba [d] = .ok (.bl (hostD d)) := by
  unfold m_is_host_45ba apR1 b_is_host_45ba
  simp only [R.pure_eq, R.bind_eq, R.bd, lift_R, is_path_ok h hk, andV, tru_bl, ask_some]
  unfold hostD
  cases e : pathD d with
  | false => rfl
  | true =>
    cases d with
    | tup ds =>
      simp only [if_true, R.bd, len_tup, ask_some, gt_ii, runR_rt, kids, Bool.true_and]
      congr 2
      cases ds with
      | nil => rfl
      | cons x xs => exact decide_eq_true (by simp only [List.length_cons]; omega)
    | _ => cases e
end FN
namespace DL
open PySem
theorem ok_seqP {α β γ : Type} {x : M (Fl α β)} {k : α → M (Fl γ β)} {Q : Fl γ β → Prop} (P : α → Prop) (h : Ok x (SeqQ P Q)) (w : ∀ a, P a → Ok (k a) Q) : Ok (seqF x k) Q := ok_seq (ok_mono h fun f q => by
  cases f with
  | nx a => exact w a q
  | rt d => exact q
  | bk b => exact q
  | ct b => exact q)
theorem askR {α : Type} {a : α} : (ask (some a) : R α) = pure a := rfl
theorem okpR {α : Type} {a : α} : (R.ok a) = (pure a : R α) := rfl
theorem lift_pR {α : Type} {a : R α} : (Mo.lift a : R α) = a := rfl
theorem okr_p {α : Type} {a : α} {Q : α → Prop} (h : Q a) : OkR (pure a : R α) Q := ⟨a, rfl, h⟩
/-! ### texts -/
def Tx (n : Nat) (z : List Nat) : Prop := z.length ≤ n ∧ ∀ c ∈ z, c < 1114112
theorem Tx.up {n m : Nat} {z : List Nat} (h : Tx n z) (w : n ≤ m) : Tx m z := ⟨Nat.le_trans h.1 w, h.2⟩
theorem Tx.app {n m : Nat} {a b : List Nat} (h : Tx n a) (k : Tx m b) : Tx (n + m) (a ++ b) := ⟨by rw [List.length_append]; exact Nat.add_le_add h.1 k.1, fun c hc => by
  rcases List.mem_append.mp hc with hc | hc
  · exact h.2 c hc
  · exact k.2 c hc⟩
theorem cutL_mem {α : Type} {z : List α} {lo hi : Option Int} {c : α} (h : c ∈ cutL z lo hi) : c ∈ z := by
  unfold cutL at h
  exact List.mem_of_mem_drop (List.mem_of_mem_take h)
theorem add_ss {a b : List Nat} (h : a.length + b.length ≤ 1000000) : addD (.str a) (.str b) = some (.str (a ++ b)) := if_pos (by rw [sizeLine_eq]; omega)
theorem add_ll {a b : List D} (h : a.length + b.length ≤ 1000000) : addD (.lst a) (.lst b) = some (.lst (a ++ b)) := if_pos (by rw [sizeLine_eq]; omega)
@[simp] theorem slice_s {z : List Nat} {lo hi : Option Int} : sliceD (.str z) lo hi = some (.str (cutL z lo hi)) := rfl
@[simp] theorem slice_l {z : List D} {lo hi : Option Int} : sliceD (.lst z) lo hi = some (.lst (cutL z lo hi)) := rfl
theorem cut_hi {α : Type} {z : List α} {i : Int} (h : 0 ≤ i) : cutL z none (some i) = z.take i.toNat := by
  unfold cutL
  have e1 : HT.sIx z.length 0 none = 0 := rfl
  have e2 : HT.sIx z.length z.length (some i) = min i.toNat z.length := by
    unfold HT.sIx
    simp only
    split <;> omega
  rw [e1, e2, List.drop_zero, Nat.sub_zero, List.take_eq_take_iff]
  omega
theorem cut_lo {α : Type} {z : List α} {i : Int} (h : 0 ≤ i) : cutL z (some i) none = z.drop i.toNat := by
  unfold cutL
  have e1 : HT.sIx z.length z.length none = z.length := rfl
  have e2 : HT.sIx z.length 0 (some i) = min i.toNat z.length := by
    unfold HT.sIx
    simp only
    split <;> omega
  rw [e1, e2]
  by_cases c : i.toNat ≤ z.length
  · rw [Nat.min_eq_left c, List.take_of_length_le (by simp)]
  · rw [Nat.min_eq_right (by omega), List.drop_eq_nil_of_le (Nat.le_refl _), List.drop_eq_nil_of_le (by omega)]
    simp
theorem strs_map : ∀ ps : List (List Nat), strsOf (ps.map .str) = some ps
  | [] => rfl
  | p :: ps => by
    show (strsOf (ps.map .str)).map (p :: ·) = _
    rw [strs_map ps]
    rfl
theorem join_ok {S : List Nat} {ps : List (List Nat)} (h : (ps.map (·.length)).sum + ps.length * S.length ≤ 16777216) : joinD (.str S) (.lst (ps.map .str)) = some (.str (joinN S ps)) := by
  unfold joinD
  show (match strsOf (ps.map .str) with | some ps => _ | none => _) = _
  rw [strs_map]
  exact if_pos h
/-! ### repr -/
theorem repr_ex {d : D} {p : PyData} (h : toPy d = some p) (h1 : p.layable0 = true) (h2 : p.intsShort 13 = true) (h3 : p.showable = true) (h4 : p.depth ≤ 60) : ∃ s, reprD [d] = some (.str s) := by
  unfold reprD
  simp only [h]
  refine ⟨_, if_pos ?_⟩
  simp only [Bool.and_eq_true, Bool.not_eq_true', decide_eq_true_eq]
  refine ⟨⟨⟨h3, PyData.hasDict_of_layable h1⟩, h4⟩, ?_⟩
  have := PyProof.Rows.shown_le13 h1 h2
  rw [sizeLine_eq]
  omega
theorem toPyL_strs : ∀ zs : List (List Nat), toPyL (zs.map .str) = some (zs.map fun z => .str ⟨z.toArray⟩)
  | [] => by simp [toPyL]
  | z :: zs => by simp [toPyL, toPy, toPyL_strs zs]
theorem lay_strs : ∀ {zs : List (List Nat)}, (∀ z ∈ zs, Tx 1000 z) → PyData.canLayAll0 (zs.map fun z => .str ⟨z.toArray⟩) = true ∧ PyData.depthAll (zs.map fun z => .str ⟨z.toArray⟩) = 0 ∧ PyData.weightAll (zs.map fun z => .str ⟨z.toArray⟩) ≤ zs.length * 1001 ∧ PyData.intsShortAll 13 (zs.map fun z => .str ⟨z.toArray⟩) = true ∧ PyData.showableAll (zs.map fun z => .str ⟨z.toArray⟩) = true
  | [], _ => by simp [PyData.canLayAll0, PyData.depthAll, PyData.weightAll, PyData.intsShortAll, PyData.showableAll]
  | z :: zs, h => by
    obtain ⟨h1, h2, h3, h4, h5⟩ := lay_strs fun x m => h x (.tail _ m)
    have hz := h z (.head _)
    refine ⟨?_, ?_, ?_, ?_, ?_⟩
    · rw [List.map_cons, PyData.canLayAll0, h1]
      simp only [PyData.canLay0, Bool.and_true, PyData.strOk]
      simpa using hz.2
    · rw [List.map_cons, PyData.depthAll, h2, PyData.depth]; rfl
    · rw [List.map_cons, PyData.weightAll, PyData.weight, List.length_cons]
      have := hz.1
      simp only [List.size_toArray]
      omega
    · rw [List.map_cons, PyData.intsShortAll, h4, PyData.intsShort]; rfl
    · rw [List.map_cons, PyData.showableAll, h5, PyData.showable]; rfl
theorem str_beq (a b : List Nat) : PyData.eqv (.str ⟨a.toArray⟩) (.str ⟨b.toArray⟩) = decide (a = b) := by
  rw [PyData.eqv]
  by_cases h : a = b
  · subst h
    simp
  · rw [decide_eq_false h]
    have : (⟨a.toArray⟩ : Str) ≠ ⟨b.toArray⟩ := fun z => by
      have z2 : a.toArray = b.toArray := Str.mk.inj z
      exact h (by simpa using z2)
    simpa using this
theorem any_strs (a : List Nat) : ∀ zs : List (List Nat), ((zs.map fun z => PyData.str ⟨z.toArray⟩).any fun z => PyData.eqv z (.str ⟨a.toArray⟩)) = decide (a ∈ zs)
  | [] => rfl
  | z :: zs => by
    rw [List.map_cons, List.any_cons, any_strs a zs, str_beq]
    by_cases h : a = z
    · subst h; simp
    · have h' : ¬ z = a := fun e => h e.symm
      simp [h, h']
theorem shaped_str {n : Nat} {a : List Nat} (h : Tx n a) : SeqAt.shaped (.str ⟨a.toArray⟩) = true := by
  unfold SeqAt.shaped
  simp only [PyData.canLay0, PyData.strOk, PyData.depth]
  simpa using h.2
theorem shaped_strs {zs : List (List Nat)} (h : ∀ z ∈ zs, Tx 1000 z) : SeqAt.shaped (.list (zs.map fun z => .str ⟨z.toArray⟩)) = true ∧ SeqAt.shaped (.tuple (zs.map fun z => .str ⟨z.toArray⟩)) = true := by
  obtain ⟨h1, h2, _⟩ := lay_strs h
  unfold SeqAt.shaped
  simp only [PyData.canLay0, h1, PyData.depth, h2]
  exact ⟨rfl, rfl⟩
theorem bols_map {α : Type} (f : α → Bool) : ∀ xs : List α, bolsOf (xs.map fun x => .bl (f x)) = some (xs.map f)
  | [] => rfl
  | x :: xs => by
    show (bolsOf _).map (_ :: ·) = _
    rw [bols_map f xs]
    rfl
theorem all_map {α : Type} (f : α → Bool) (xs : List α) : allD [.lst (xs.map fun x => .bl (f x))] = some (.bl (xs.all f)) := by
  unfold allD
  simp only [bols_map, Option.map_some, List.all_map]
  rfl
end DL
/-! ### plain data of a bounded depth: repr, ==, in -/
namespace DL
open PySem
mutual
def wt : D → Nat
  | .str z => z.length
  | .tup ds => wtL ds + 1
  | .lst ds => wtL ds + 1
  | .int _ => 70
  | _ => 1
def wtL : List D → Nat
  | [] => 0
  | d :: ds => wt d + 1 + wtL ds
end
mutual
def nic : Nat → D → Bool
  | _, .non => true
  | _, .bl _ => true
  | _, .int i => decide (i.natAbs < 10 ^ 20)
  | _, .str z => z.all fun c => decide (c < 1114112)
  | n + 1, .tup ds => nicL n ds
  | n + 1, .lst ds => nicL n ds
  | _, _ => false
def nicL : Nat → List D → Bool
  | _, [] => true
  | n, d :: ds => nic n d && nicL n ds
end
mutual
def py : D → PyData
  | .non => .none
  | .bl b => .bool b
  | .int i => .int i
  | .str s => .str ⟨s.toArray⟩
  | .tup ds => .tuple (pyL ds)
  | .lst ds => .list (pyL ds)
  | _ => .none
def pyL : List D → List PyData
  | [] => []
  | d :: ds => py d :: pyL ds
end
theorem int20 {i : Int} (h : i.natAbs < 10 ^ 20) : i.natAbs.log2 < 67 := PySem.Flt.log2_lt_of (k := 67) (by decide) (Nat.lt_of_lt_of_le h (by decide))
theorem shown20 {i : Int} (h : i.natAbs < 10 ^ 20) : (PyData.shown (.int i)).length ≤ 21 := by
  have e := int_text_length_le10 (k := 20) (by decide) h
  show (Str.ofString (toString i)).length ≤ 21
  rw [ofString_length]; exact e
structure NicP (n : Nat) (w : Nat) (p : PyData) : Prop where
  lay : p.canLay0 = true
  dep : p.depth ≤ n
  sho : p.showable = true
  lea : p.leavesShort 25 = true
  wei : p.weight ≤ w
  nod : p.hasDict = false
structure NicL (n : Nat) (w : Nat) (p : List PyData) : Prop where
  lay : PyData.canLayAll0 p = true
  dep : PyData.depthAll p ≤ n
  sho : PyData.showableAll p = true
  lea : PyData.leavesShortAll 25 p = true
  wei : PyData.weightAll p ≤ w
  nod : PyData.hasDictAll p = false
mutual
theorem nic_ok : ∀ (n : Nat) (d : D), nic n d = true → toPy d = some (py d) ∧ NicP n (wt d) (py d)
  | n, .non, _ => ⟨by simp [toPy, py], by constructor <;> simp [py, PyData.canLay0, PyData.depth, PyData.showable, PyData.leavesShort, PyData.weight, PyData.hasDict, wt]⟩
  | n, .bl _, _ => ⟨by simp [toPy, py], by constructor <;> simp [py, PyData.canLay0, PyData.depth, PyData.showable, PyData.leavesShort, PyData.weight, PyData.hasDict, wt]⟩
  | n, .int i, h => by
    have h' : i.natAbs < 10 ^ 20 := by simpa [nic] using h
    have hl := int20 h'
    refine ⟨by simp [toPy, py], ?_⟩
    constructor <;> simp [py, PyData.canLay0, PyData.depth, PyData.showable, PyData.leavesShort, PyData.hasDict]
    · omega
    · have := shown20 h'; omega
    · simp only [PyData.weight, wt]
      split <;> omega
  | n, .str z, h => by
    have h' : ∀ c ∈ z, c < 1114112 := by simpa [nic] using h
    refine ⟨by simp [toPy, py], ?_⟩
    constructor <;> simp [py, PyData.canLay0, PyData.depth, PyData.showable, PyData.leavesShort, PyData.hasDict, PyData.strOk, PyData.weight, wt]
    · exact h'
    · intro c hc; have := h' c hc; omega
  | n + 1, .tup ds, h => by
    obtain ⟨e, q⟩ := nicL_ok n ds (by simpa [nic] using h)
    refine ⟨by rw [toPy, e]; simp [py], ?_⟩
    constructor <;> simp only [py, PyData.canLay0, PyData.depth, PyData.showable, PyData.leavesShort, PyData.hasDict, PyData.weight, wt]
    · exact q.lay
    · exact Nat.succ_le_succ q.dep
    · exact q.sho
    · exact q.lea
    · exact Nat.le_succ_of_le q.wei
    · exact q.nod
  | n + 1, .lst ds, h => by
    obtain ⟨e, q⟩ := nicL_ok n ds (by simpa [nic] using h)
    refine ⟨by rw [toPy, e]; simp [py], ?_⟩
    constructor <;> simp only [py, PyData.canLay0, PyData.depth, PyData.showable, PyData.leavesShort, PyData.hasDict, PyData.weight, wt]
    · exact q.lay
    · exact Nat.succ_le_succ q.dep
    · exact q.sho
    · exact q.lea
    · exact Nat.le_succ_of_le q.wei
    · exact q.nod
  | 0, .tup _, h => by simp [nic] at h
  | 0, .lst _, h => by simp [nic] at h
  | n, .dic _ _, h => by simp [nic] at h
  | n, .ins _ _ _, h => by simp [nic] at h
  | n, .scr _, h => by simp [nic] at h
  | n, .xc _ _ _ _, h => by simp [nic] at h
theorem nicL_ok : ∀ (n : Nat) (ds : List D), nicL n ds = true → toPyL ds = some (pyL ds) ∧ NicL n (wtL ds) (pyL ds)
  | n, [], _ => ⟨by simp [toPyL, pyL], by constructor <;> simp [pyL, PyData.canLayAll0, PyData.depthAll, PyData.showableAll, PyData.leavesShortAll, PyData.weightAll, PyData.hasDictAll, wtL]⟩
  | n, d :: ds, h => by
    have h' : nic n d = true ∧ nicL n ds = true := by simpa [nicL] using h
    obtain ⟨e1, q1⟩ := nic_ok n d h'.1
    obtain ⟨e2, q2⟩ := nicL_ok n ds h'.2
    refine ⟨by simp [toPyL, e1, e2, pyL], ?_⟩
    have := q1.wei
    have := q2.wei
    have := q1.dep
    have := q2.dep
    constructor <;> simp only [pyL, PyData.canLayAll0, PyData.depthAll, PyData.showableAll, PyData.leavesShortAll, PyData.weightAll, PyData.hasDictAll, wtL]
    · rw [q1.lay, q2.lay]; rfl
    · omega
    · rw [q1.sho, q2.sho]; rfl
    · rw [q1.lea, q2.lea]; rfl
    · omega
    · rw [q1.nod, q2.nod]; rfl
end
theorem repr_nic {n : Nat} {d : D} (h : nic n d = true) (hn : n ≤ 60) (w : wt d ≤ 500000) : ∃ s, reprD [d] = some (.str s) := by
  obtain ⟨e, q⟩ := nic_ok n d h
  unfold reprD
  simp only [e]
  refine ⟨_, if_pos ?_⟩
  simp only [Bool.and_eq_true, Bool.not_eq_true', decide_eq_true_eq]
  refine ⟨⟨⟨q.sho, q.nod⟩, Nat.le_trans q.dep hn⟩, ?_⟩
  have h1 := PyData.shown_le 25 (by decide) (py d) q.lea
  have h2 := q.wei
  rw [sizeLine_eq]
  omega
theorem nicL_iff {n : Nat} : ∀ {ds : List D}, nicL n ds = true ↔ ∀ d ∈ ds, nic n d = true
  | [] => by simp [nicL]
  | d :: ds => by simp [nicL, nicL_iff (ds := ds)]
theorem wtL_le {k : Nat} : ∀ {ds : List D}, (∀ d ∈ ds, wt d ≤ k) → wtL ds ≤ ds.length * (k + 1)
  | [], _ => by simp [wtL]
  | d :: ds, h => by
    have h1 := h d (.head _)
    have h2 := wtL_le (ds := ds) fun x m => h x (.tail _ m)
    simp only [wtL, List.length_cons, Nat.succ_mul]
    omega
mutual
theorem nic_mono : ∀ (n m : Nat) (d : D), n ≤ m → nic n d = true → nic m d = true
  | n, m, .non, _, _ => by simp [nic]
  | n, m, .bl _, _, _ => by simp [nic]
  | n, m, .int _, _, h => by simpa [nic] using h
  | n, m, .str _, _, h => by simpa [nic] using h
  | n + 1, m + 1, .tup ds, k, h => by
    have := nicL_mono n m ds (by omega) (by simpa [nic] using h)
    simpa [nic] using this
  | n + 1, m + 1, .lst ds, k, h => by
    have := nicL_mono n m ds (by omega) (by simpa [nic] using h)
    simpa [nic] using this
  | n + 1, 0, .tup _, k, h => by omega
  | n + 1, 0, .lst _, k, h => by omega
  | 0, m, .tup _, _, h => by simp [nic] at h
  | 0, m, .lst _, _, h => by simp [nic] at h
  | n, m, .dic _ _, _, h => by simp [nic] at h
  | n, m, .ins _ _ _, _, h => by simp [nic] at h
  | n, m, .scr _, _, h => by simp [nic] at h
  | n, m, .xc _ _ _ _, _, h => by simp [nic] at h
theorem nicL_mono : ∀ (n m : Nat) (ds : List D), n ≤ m → nicL n ds = true → nicL m ds = true
  | n, m, [], _, _ => by simp [nicL]
  | n, m, d :: ds, k, h => by
    have h' : nic n d = true ∧ nicL n ds = true := by simpa [nicL] using h
    simp only [nicL, nic_mono n m d k h'.1, nicL_mono n m ds k h'.2, Bool.and_self]
end
theorem nic_tup {n : Nat} {ds : List D} : nic (n + 1) (.tup ds) = nicL n ds := by simp [nic]
theorem nic_lst {n : Nat} {ds : List D} : nic (n + 1) (.lst ds) = nicL n ds := by simp [nic]
end DL
namespace DL
open PySem PySem.W
/-! ### orders of rows of labels -/
def pr (z : List Nat) : PyData := .tuple [.int z.length, .str ⟨z.toArray⟩]
end DL
namespace FN
open DL
/-! ### rows in their order -/
def okRow (A : List (List Nat)) : Bool := decide (A.length ≤ 20) && A.all (isLab 20)
theorem row_kids (A : List (List Nat)) : ∀ x ∈ kids (.tup (A.map .str)), tyD x ≠ none := fun x m => by
  obtain ⟨z, _, rfl⟩ := List.mem_map.mp (show x ∈ A.map .str from m)
  simp [tyD]
theorem path_row (A : List (List Nat)) : pathD (.tup (A.map .str)) = okRow A := by
  rw [pathD_tup, List.length_map, List.all_map]
  rfl
theorem host_row (A : List (List Nat)) : hostD (.tup (A.map .str)) = (okRow A && !A.isEmpty) := by
  unfold hostD
  rw [path_row]
  cases A <;> rfl
theorem is_host_row (A : List (List Nat)) : m_is_host_45ba [.tup (A.map .str)] = .ok (.bl (okRow A && !A.isEmpty)) := by
  rw [is_host_ok (d := .tup (A.map .str)) rfl (row_kids A), host_row]
/-! ### drawn labels -/
theorem isLab_iff {n : Nat} {z : List Nat} : isLab n z = true ↔ 1 ≤ z.length ∧ z.length ≤ n ∧ ∀ c ∈ z, c ∈ CH := by
  unfold isLab
  simp
theorem ch_lt {c : Nat} (h : c ∈ CH) : c < 1114112 := by
  have : ∀ x ∈ CH, x < 1114112 := by decide
  exact this c h
theorem lab_tx {z : List Nat} (h : isLab 20 z = true) : Tx 20 z := ⟨(isLab_iff.mp h).2.1, fun c m => ch_lt ((isLab_iff.mp h).2.2 c m)⟩
theorem szCH : DL.szL (chrs [48, 49, 50, 51, 52, 53, 54, 55, 56, 57, 97, 98, 99, 100, 101, 102, 103, 104, 105, 106, 107, 108, 109, 110, 111, 112, 113, 114, 115, 116, 117, 118, 119, 120, 121, 122]) = some (chrs CH) := sz_ok (by decide)
end FN
/-! ### pages: shared mirrors and what they do -/
namespace FN
open DL
def c_MOST_PORT : D := (.int (65535))
def b__law_bag_b4c5 (a0 a1 : D) : R (Fl Unit Empty) := (do let v1 ← (iteM (do let x5 ← (pure a1); let y6 ← (do let r4 ← (do let x2 ← (pure a0); let r3 ← pure []; pure (x2 :: r3)); DL.ask (lenD r4)); DL.ask ((ltD x5 y6).bind bOf)) (do let x7 ← (pure a0); let y8 ← (pure a1); DL.ask (ixD x7 y8)) (pure (.int 0))); (do let v9 ← (do let x12 ← (do let x10 ← (pure (.int 7919)); let y11 ← (pure a1); DL.ask (mulD x10 y11)); let y13 ← (pure (.int 613)); DL.ask (addD x12 y13)); (do let r58 ← (do let r21 ← (do let x19 ← (do let x16 ← (pure a0); let l17 ← (pure none); let u18 ← (do let x14 ← (pure (.int 63)); let i15 ← DL.ask (intOf x14); pure (some i15)); DL.ask (sliceD x16 l17 u18)); let r20 ← pure []; pure (x19 :: r20)); DL.ask (enumOf r21)); seqF (forF un2 (fun (q22 : D) (c23 : D × D) => (do let v24 ← (do let x41 ← (do let r40 ← (do let x38 ← (do let x36 ← (do let x32 ← (do let x25 ← (pure q22); let y26 ← (pure (.int 40692)); DL.ask (mulD x25 y26)); let y33 ← (do let x30 ← (do let r29 ← (do let x27 ← (pure c23.2); let r28 ← pure []; pure (x27 :: r28)); DL.ask (intD r29)); let y31 ← (pure (.int 2147483399)); DL.ask (modD x30 y31)); DL.ask (addD x32 y33)); let y37 ← (do let x34 ← (pure (.int 977)); let y35 ← (pure c23.1); DL.ask (mulD x34 y35)); DL.ask (addD x36 y37)); let r39 ← pure []; pure (x38 :: r39)); DL.ask (intD r40)); let y42 ← (pure (.int 2147483563)); DL.ask (modD x41 y42)); (pure (.nx v24)))) r58 v9) fun (q43 : D) => (do let v57 ← (do let r56 ← (do let x54 ← (iteM (do let x47 ← (do let r46 ← (do let x44 ← (pure v1); let r45 ← pure []; pure (x44 :: r45)); DL.ask (absD r46)); let y48 ← (do let x ← (pure (.int 10)); let y ← (pure (.int 18)); DL.ask (powC x y)); DL.ask ((geD x47 y48).bind bOf)) (do let r51 ← (do let x49 ← (pure v1); let r50 ← pure []; pure (x49 :: r50)); DL.ask (absD r51)) (pure (.int 0))); let r55 ← (do let x52 ← (pure q43); let r53 ← pure []; pure (x52 :: r53)); pure (x54 :: r55)); DL.ask (szL r56)); pure (.rt (.lst v57))))))
theorem e__law_bag_b4c5 (a0 a1 : D) : b__law_bag_b4c5 a0 a1 = (do let v1 ← (iteM (do let y6 ← (DL.ask (lenD [a0])); DL.ask ((ltD a1 y6).bind bOf)) (DL.ask (ixD a0 a1)) (pure (.int 0))); let x12 ← (DL.ask (mulD (.int 7919) a1)); let v9 ← (DL.ask (addD x12 (.int 613))); let i15 ← DL.ask (intOf (.int 63)); let x19 ← (DL.ask (sliceD a0 none (some i15))); let r58 ← (DL.ask (enumOf [x19])); seqF (forF un2 (fun (q22 : D) (c23 : D × D) => (do let x32 ← (DL.ask (mulD q22 (.int 40692))); let x30 ← (DL.ask (intD [c23.2])); let y33 ← (DL.ask (modD x30 (.int 2147483399))); let x36 ← (DL.ask (addD x32 y33)); let y37 ← (DL.ask (mulD (.int 977) c23.1)); let x38 ← (DL.ask (addD x36 y37)); let x41 ← (DL.ask (intD [x38])); let v24 ← (DL.ask (modD x41 (.int 2147483563))); (pure (.nx v24)))) r58 v9) fun (q43 : D) => (do let x54 ← (iteM (do let x47 ← (DL.ask (absD [v1])); let y48 ← (DL.ask (powC (.int 10) (.int 18))); DL.ask ((geD x47 y48).bind bOf)) (DL.ask (absD [v1])) (pure (.int 0))); let v57 ← (DL.ask (szL [x54, q43])); pure (.rt (.lst v57)))) := by
  unfold b__law_bag_b4c5; simp only [pure_bind, bind_assoc, mkL]
def m__law_bag_b4c5 : List D → R D := apR2 fun a0 a1 => (runR true (b__law_bag_b4c5 a0 a1))
theorem n__law_bag_b4c5 : ∀ ds : List D, m__law_bag_b4c5 ds ≠ .stuck → ds.length = 2 := apR2_len _
def b__law_take_4983 (a1 : D) : M (Fl Unit Empty) := (do let t40 ← (do let x1 ← bagX; let y2 ← (pure (.int 0)); DL.ask ((gtD x1 y2).bind bOf)); seqF (if t40 = true then (do let v4 ← (do let x8 ← (do let r7 ← (do let x5 ← bagX; let r6 ← pure []; pure (x5 :: r6)); DL.ask (intD r7)); let y9 ← (pure a1); DL.ask (modD x8 y9)); (do let v10 ← (do let x11 ← bagX; let y12 ← (pure a1); DL.ask (fdivD x11 y12)); let i13 ← DL.ask (intOf v10); bagSetX i13; (do let v14 ← (pure v4); pure (.rt v14)))) else (pure (.nx ()))) fun (q3 : Unit) => (do let v15 ← (do let x23 ← (do let r22 ← (do let x20 ← (do let x18 ← (do let x16 ← bagY; let y17 ← (pure (.int 39373)); DL.ask (mulD x16 y17)); let y19 ← (pure (.int 70001)); DL.ask (addD x18 y19)); let r21 ← pure []; pure (x20 :: r21)); DL.ask (intD r22)); let y24 ← (pure (.int 2147483629)); DL.ask (modD x23 y24)); let i25 ← DL.ask (intOf v15); bagSetY i25; (do let v39 ← (do let x37 ← (do let x35 ← (do let x33 ← (do let r32 ← (do let x30 ← (do let x28 ← (do let x26 ← bagY; let y27 ← (pure (.int 7)); DL.ask (fdivD x26 y27)); let y29 ← (pure (.int 52817)); DL.ask (mulD x28 y29)); let r31 ← pure []; pure (x30 :: r31)); DL.ask (intD r32)); let y34 ← (pure (.int 2147483647)); DL.ask (modD x33 y34)); let y36 ← (pure (.int 64)); DL.ask (fdivD x35 y36)); let y38 ← (pure a1); DL.ask (modD x37 y38)); pure (.rt v39))))
theorem e__law_take_4983 (a1 : D) : b__law_take_4983 a1 = (do let x1 ← bagX; let t40 ← (DL.ask ((gtD x1 (.int 0)).bind bOf)); seqF (if t40 = true then (do let x5 ← bagX; let x8 ← (DL.ask (intD [x5])); let v4 ← (DL.ask (modD x8 a1)); let x11 ← bagX; let v10 ← (DL.ask (fdivD x11 a1)); let i13 ← DL.ask (intOf v10); bagSetX i13; (pure (.rt v4))) else (pure (.nx ()))) fun (q3 : Unit) => (do let x16 ← bagY; let x18 ← (DL.ask (mulD x16 (.int 39373))); let x20 ← (DL.ask (addD x18 (.int 70001))); let x23 ← (DL.ask (intD [x20])); let v15 ← (DL.ask (modD x23 (.int 2147483629))); let i25 ← DL.ask (intOf v15); bagSetY i25; let x26 ← bagY; let x28 ← (DL.ask (fdivD x26 (.int 7))); let x30 ← (DL.ask (mulD x28 (.int 52817))); let x33 ← (DL.ask (intD [x30])); let x35 ← (DL.ask (modD x33 (.int 2147483647))); let x37 ← (DL.ask (fdivD x35 (.int 64))); let v39 ← (DL.ask (modD x37 a1)); pure (.rt v39))) := by
  unfold b__law_take_4983; simp only [pure_bind, bind_assoc, mkL]
def m__law_take_4983 : List D → M D := apM1 fun a1 => (runM false (b__law_take_4983 a1))
theorem n__law_take_4983 : ∀ ds s, m__law_take_4983 ds s ≠ .stuck → ds.length = 1 := apM1_len _
end FN
namespace FN
open DL PySem PySem.W
theorem take_ok2 {n : Int} (h0 : 0 < n) (h1 : n < 2 ^ 64) : Ok (m__law_take_4983 [.int n]) fun d => ∃ i, d = .int i ∧ 0 ≤ i ∧ i < n := by
  refine ok_runM ?_
  simp only [e__law_take_4983]
  refine ok_bind (ok_bagX fun i => ?_)
  simp only [gt_ii, Option.bind_some, bOf_bl, askM, pure_bind]
  have hm : ∀ j : Int, FlQ false (fun d => ∃ i, d = .int i ∧ 0 ≤ i ∧ i < n) (.rt (.int (j % n))) := fun j => ⟨_, rfl, Int.emod_nonneg _ (by omega), Int.emod_lt_of_pos _ h0⟩
  refine ok_seq (ok_ite (fun _ => ?_) fun _ => ok_pure ?_)
  · refine ok_bind (ok_bagX fun i => ?_)
    simp only [int_int, askM, pure_bind, mod_ii h0]
    refine ok_bind (ok_bagX fun j => ?_)
    simp only [fdiv_ii h0 (by omega), askM, pure_bind, int_of]
    exact ok_bind (ok_setX (ok_pure (hm _)))
  · show Ok _ _
    refine ok_bind (ok_bagY fun i h2 h3 => ?_)
    simp only [mul_ii (i := i) (j := 39373) (by omega) (by omega), askM, pure_bind, add_ii, int_int, mod_ii (j := 2147483629) (by omega), int_of]
    refine ok_bind (ok_setY (Int.emod_nonneg _ (by omega)) (Int.lt_trans (Int.emod_lt_of_pos _ (by omega)) (by omega)) ?_)
    refine ok_bind (ok_bagY fun j h4 h5 => ?_)
    simp only [fdiv_ii (i := j) (j := 7) (by omega) (by omega), askM, pure_bind]
    have hj : (j / 7).natAbs < 2 ^ 64 := by omega
    simp only [mul_ii (i := j / 7) (j := 52817) hj (by omega), askM, pure_bind, int_int, mod_ii (j := 2147483647) (by omega), fdiv_ii (j := 64) (by omega) (by omega), mod_ii h0]
    exact ok_pure (hm _)
theorem abs_i {i : Int} : absD [.int i] = some (.int (if i < 0 then -i else i)) := rfl
theorem bag_ok2 (ns : List Int) {i : Int} (h0 : 0 ≤ i) (h1 : i < 1000) : OkR (m__law_bag_b4c5 [.scr ns, .int i]) fun d => ∃ x y, d = .lst [.int x, .int y] ∧ 0 ≤ y ∧ y < 4294967296 := by
  refine okr_runR ?_
  simp only [e__law_bag_b4c5]
  have hx : ∃ x : Int, iteM (m := R) (do let y6 ← (DL.ask (lenD [.scr ns])); DL.ask ((ltD (.int i) y6).bind bOf)) (DL.ask (ixD (.scr ns) (.int i))) (pure (.int 0)) = .ok (.int x) := by
    simp only [iteM, R.pure_eq, R.bind_eq, R.bd, len_scr, ask_some, lt_ii, Option.bind_some, bOf_bl]
    by_cases c : i < (ns.length : Int)
    · rw [if_pos (by simpa using c)]
      have e : ixD (.scr ns) (.int i) = some (.int (ns[i.toNat]'(by omega))) := by
        unfold ixD L2.atI
        simp only [ixN_ok h0 c]
        show Option.map D.int (ns[i.toNat]?) = _
        rw [List.getElem?_eq_getElem (by omega)]
        rfl
      rw [e]
      exact ⟨_, rfl⟩
    · rw [if_neg (by simpa using c)]
      exact ⟨_, rfl⟩
  obtain ⟨x, hx⟩ := hx
  rw [hx]
  simp only [R.pure_eq, R.bind_eq, R.bd, mul_ii (i := 7919) (j := i) (by omega) (by omega), ask_some, add_ii, int_of, sliceD, enumOf]
  have hz : (cutL ns none (some 63)).length ≤ 63 := by
    unfold cutL
    have e1 : HT.sIx ns.length 0 none = 0 := rfl
    have e2 : HT.sIx ns.length ns.length (some 63) ≤ 63 := by unfold HT.sIx; simp only; split <;> omega
    rw [List.length_take]
    omega
  refine okr_seq (okr_for (fun _ a => ∃ m : Int, a = .int m ∧ 0 ≤ m ∧ m < 4294967296) _ _ ⟨_, rfl, by omega, by omega⟩ ?_ ?_)
  · rintro k d a hd ⟨m, rfl, h2, h3⟩
    unfold enumL at hd
    rw [List.getElem?_mapIdx, List.getElem?_map] at hd
    cases e : (cutL ns none (some 63))[k]? with
    | none => rw [e] at hd; cases hd
    | some z =>
      rw [e] at hd
      cases hd
      have hk : k < 63 := Nat.lt_of_lt_of_le (List.getElem?_eq_some_iff.mp e).1 hz
      refine ⟨(.int (k : Int), .int z), rfl, ?_⟩
      simp only [mul_ii (i := m) (j := 40692) (by omega) (by omega), ask_some, R.bd, int_int, mod_ii (j := 2147483399) (by omega), add_ii, mul_ii (i := 977) (j := (k : Int)) (by omega) (by omega), mod_ii (j := 2147483563) (by omega)]
      exact okr_pure ⟨_, rfl, Int.emod_nonneg _ (by omega), Int.lt_trans (Int.emod_lt_of_pos _ (by omega)) (by omega)⟩
  · rintro a ⟨m, rfl, h2, h3⟩
    show OkR _ _
    have e3 : powC (.int 10) (.int 18) = some (.int 1000000000000000000) := rfl
    simp only [e3, abs_i, ask_some, R.bd, iteM, R.bind_eq, R.pure_eq, ge_ii, Option.bind_some, bOf_bl]
    by_cases c : (1000000000000000000 : Int) ≤ (if x < 0 then -x else x)
    · rw [if_pos (by simpa using c)]
      exact okr_pure ⟨_, _, rfl, h2, h3⟩
    · rw [if_neg (by simpa using c)]
      exact okr_pure ⟨_, _, rfl, h2, h3⟩
theorem ix_str {z : List Nat} {i : Int} (h0 : 0 ≤ i) (h : i < z.length) : ∃ c, c ∈ z ∧ ixD (.str z) (.int i) = some (.str [c]) := by
  refine ⟨z[i.toNat]'(by omega), List.getElem_mem _, ?_⟩
  unfold ixD L2.atI
  simp only [ixN_ok h0 h]
  show Option.map (fun c => D.str [c]) (z[i.toNat]?) = _
  rw [List.getElem?_eq_getElem (by omega)]
  rfl
theorem tup_lst {ds : List D} : tupleD [.lst ds] = some (.tup ds) := rfl
theorem sub_ii {i j : Int} : subD (.int i) (.int j) = some (.int (i - j)) := rfl
theorem eqi {i j : Int} : (eqD (.int i) (.int j)).bind bOf = some (decide (i = j)) := rfl
theorem lti {i j : Int} : (ltD (.int i) (.int j)).bind bOf = some (decide (i < j)) := rfl
theorem gti {i j : Int} : (gtD (.int i) (.int j)).bind bOf = some (decide (j < i)) := rfl
def Sm (n W : Nat) (d : D) : Prop := nic n d = true ∧ wt d ≤ W
theorem Sm.mono {n m W V : Nat} {d : D} (h : Sm n W d) (h1 : n ≤ m) (h2 : W ≤ V) : Sm m V d := ⟨nic_mono n m d h1 h.1, Nat.le_trans h.2 h2⟩
theorem sm_lst {n W k : Nat} {ds : List D} (h : ∀ d ∈ ds, Sm n W d) (hl : ds.length ≤ k) : Sm (n + 1) (k * (W + 1) + 1) (.lst ds) := by
  refine ⟨by rw [nic_lst]; exact nicL_iff.mpr fun d m => (h d m).1, ?_⟩
  have := wtL_le (k := W) fun d m => (h d m).2
  have h2 : ds.length * (W + 1) ≤ k * (W + 1) := Nat.mul_le_mul_right _ hl
  simp only [wt]; omega
theorem sm_tup {n W k : Nat} {ds : List D} (h : ∀ d ∈ ds, Sm n W d) (hl : ds.length ≤ k) : Sm (n + 1) (k * (W + 1) + 1) (.tup ds) := by
  refine ⟨by rw [nic_tup]; exact nicL_iff.mpr fun d m => (h d m).1, ?_⟩
  have := wtL_le (k := W) fun d m => (h d m).2
  have h2 : ds.length * (W + 1) ≤ k * (W + 1) := Nat.mul_le_mul_right _ hl
  simp only [wt]; omega
theorem sm_int {n W : Nat} {i : Int} (h : i.natAbs < 10 ^ 20) (hW : 70 ≤ W) : Sm n W (.int i) := ⟨by cases n <;> simpa [nic] using h, hW⟩
theorem sm_tx {n W k : Nat} {z : List Nat} (h : Tx k z) (hW : k ≤ W) : Sm n W (.str z) := ⟨by cases n <;> simpa [nic] using h.2, Nat.le_trans h.1 hW⟩
theorem sm_bl {n W : Nat} {b : Bool} (hW : 1 ≤ W) : Sm n W (.bl b) := ⟨by cases n <;> rfl, hW⟩
theorem sm_non {n W : Nat} (hW : 1 ≤ W) : Sm n W .non := ⟨by cases n <;> rfl, hW⟩
theorem add_tt {a b : List D} (h : a.length + b.length ≤ 1000000) : addD (.tup a) (.tup b) = some (.tup (a ++ b)) := if_pos (by rw [sizeLine_eq]; omega)
theorem cutL_mem {α : Type} {z : List α} {lo hi : Option Int} {x : α} (h : x ∈ cutL z lo hi) : x ∈ z := List.mem_of_mem_drop (List.mem_of_mem_take h)
theorem join_tup {S : List Nat} {ps : List (List Nat)} (h : (ps.map (·.length)).sum + ps.length * S.length ≤ 16777216) : joinD (.str S) (.tup (ps.map .str)) = some (.str (joinN S ps)) := by
  unfold joinD
  show (match strsOf (ps.map .str) with | some ps => _ | none => _) = _
  rw [strs_map]
  exact if_pos h
theorem sum_le {A : List (List Nat)} {k : Nat} (h : ∀ z ∈ A, z.length ≤ k) : (A.map (·.length)).sum ≤ A.length * k := by
  induction A with
  | nil => simp
  | cons z A ih =>
    have h1 := h z (.head _)
    have h2 := ih fun w m => h w (.tail _ m)
    rw [List.map_cons, List.sum_cons, List.length_cons, Nat.succ_mul]
    omega
theorem sm_lab {n W : Nat} {z : List Nat} (h : isLab 20 z = true) (hW : 20 ≤ W) : Sm n W (.str z) := sm_tx (lab_tx h) hW
theorem row_sm {A : List (List Nat)} (hl : A.length ≤ 20) (hA : ∀ z ∈ A, isLab 20 z = true) : Sm 3 5000 (.tup (A.map .str)) := (sm_tup (n := 1) (W := 80) (k := 20) (fun x hx => by
    obtain ⟨z, hz, rfl⟩ := List.mem_map.mp hx
    exact sm_lab (hA z hz) (by omega)) (by simpa using hl)).mono (by omega) (by omega)
theorem le_l {i j : Int} : leD (.int i) (.int j) = some (.bl (decide (i ≤ j))) := rfl
def kHttp : List Nat := [104, 116, 116, 112]
def kHttps : List Nat := [104, 116, 116, 112, 115]
theorem row_sum {A : List (List Nat)} (h : okRow A = true) : A.length ≤ 20 ∧ (A.map (·.length)).sum ≤ 400 := by
  simp only [okRow, Bool.and_eq_true, decide_eq_true_eq, List.all_eq_true] at h
  have := sum_le (A := A) (k := 20) fun z m => (lab_tx (h.2 z m)).1
  exact ⟨h.1, by omega⟩
theorem num_len {i : Int} (h : i.natAbs < 10 ^ 20) : (numD i).length ≤ 21 := by
  have e := int_text_length_le10 (k := 20) (by decide) h
  have e2 : (Str.ofString (toString i)).length = (numD i).length := by
    unfold numD
    show (Str.ofString (toString i)).cps.size = _
    simp
  rw [← e2, ofString_length]
  exact e
theorem sz3 {a b c : D} : szL [a, b, c] = some [a, b, c] := sz_ok (by simp)
theorem sz2 {a b : D} : szL [a, b] = some [a, b] := sz_ok (by simp)
end FN
/-! ### pages read and compared: shared mirrors and what they do -/
namespace FN
open DL
def b_port_of_e04e (a0 : D) : R (Fl Unit Empty) := (do let t31 ← (DL.orM (do let x1 ← (pure a0); let y2 ← (pure (.str [])); DL.ask ((eqD x1 y2).bind bOf)) (DL.orM (do let x6 ← (do let r5 ← (do let x3 ← (pure a0); let r4 ← pure []; pure (x3 :: r4)); DL.ask (lenD r5)); let y7 ← (pure (.int 5)); DL.ask ((gtD x6 y7).bind bOf)) (do let x10 ← (do let x8 ← (pure a0); let y9 ← (pure (.int 0)); DL.ask (ixD x8 y9)); let y11 ← (pure (.str [48])); DL.ask ((eqD x10 y11).bind bOf)))); seqF (if t31 = true then (do let v13 ← (pure .non); pure (.rt v13)) else (pure (.nx ()))) fun (q12 : Unit) => (do let r30 ← (do let r14 ← (pure a0); DL.ask (itD r14)); seqF (forF (fun d => some d) (fun (q15 : Unit) (c16 : D) => (do let t21 ← (do let x17 ← (pure c16); let y18 ← (pure (.str [48, 49, 50, 51, 52, 53, 54, 55, 56, 57])); DL.ask ((notInD x17 y18).bind bOf)); seqF (if t21 = true then (do let v20 ← (pure .non); pure (.rt v20)) else (pure (.nx ()))) fun (q19 : Unit) => (pure (.nx ())))) r30 ()) fun (q22 : Unit) => (do let v23 ← (do let r26 ← (do let x24 ← (pure a0); let r25 ← pure []; pure (x24 :: r25)); DL.ask (intXD r26)); (do let v29 ← (iteM (do let x27 ← (pure v23); let y28 ← (pure c_MOST_PORT); DL.ask ((leD x27 y28).bind bOf)) (pure v23) (pure .non)); pure (.rt v29)))))
theorem e_port_of_e04e (a0 : D) : b_port_of_e04e a0 = (do let t31 ← (DL.orM (DL.ask ((eqD a0 (.str [])).bind bOf)) (DL.orM (do let x6 ← (DL.ask (lenD [a0])); DL.ask ((gtD x6 (.int 5)).bind bOf)) (do let x10 ← (DL.ask (ixD a0 (.int 0))); DL.ask ((eqD x10 (.str [48])).bind bOf)))); seqF (if t31 = true then (pure (.rt .non)) else (pure (.nx ()))) fun (q12 : Unit) => (do let r30 ← (DL.ask (itD a0)); seqF (forF (fun d => some d) (fun (q15 : Unit) (c16 : D) => (do let t21 ← (DL.ask ((notInD c16 (.str [48, 49, 50, 51, 52, 53, 54, 55, 56, 57])).bind bOf)); seqF (if t21 = true then (pure (.rt .non)) else (pure (.nx ()))) fun (q19 : Unit) => (pure (.nx ())))) r30 ()) fun (q22 : Unit) => (do let v23 ← (DL.ask (intXD [a0])); let v29 ← (iteM (DL.ask ((leD v23 c_MOST_PORT).bind bOf)) (pure v23) (pure .non)); pure (.rt v29)))) := by
  unfold b_port_of_e04e; simp only [pure_bind, bind_assoc, mkL]
def m_port_of_e04e : List D → R D := apR1 fun a0 => (runR false (b_port_of_e04e a0))
theorem n_port_of_e04e : ∀ ds : List D, m_port_of_e04e ds ≠ .stuck → ds.length = 1 := apR1_len _
end FN
namespace FN
open DL PySem PySem.W
section
variable {w w' : List Nat} {A A' B B' : List (List Nat)} {i i' : Int}
theorem numD_nat (n : Nat) : numD (n : Int) = TL.numL n := TL.tl_num n
def pre (w : List Nat) (A : List (List Nat)) : List Nat := w ++ [58, 47, 47] ++ joinN [46] A
theorem join_row2 {S : List Nat} {A : List (List Nat)} (h : okRow A = true) (hS : S.length ≤ 1) : joinD (.str S) (.tup (A.map .str)) = some (.str (joinN S A)) ∧ (joinN S A).length ≤ 1000 := by
  obtain ⟨h1, h2⟩ := row_sum h
  have h3 : A.length * S.length ≤ 20 * 1 := Nat.mul_le_mul h1 hS
  refine ⟨join_tup (by omega), ?_⟩
  have := joinN_len S A
  omega
theorem str_i (h : i.natAbs < 10 ^ 20) : strD [.int i] = some (.str (numD i)) := if_pos (Nat.lt_trans (int20 h) (by omega))
theorem num_tx {i : Int} (h : 0 ≤ i) : ∀ c ∈ numD i, c < 1114112 := by
  obtain ⟨m, rfl⟩ := Int.eq_ofNat_of_zero_le h
  rw [numD_nat]
  intro c hc
  have := TL.numL_digits m c hc
  omega
theorem row_of (h1 : A.length ≤ 20) (h2 : ∀ z ∈ A, isLab 20 z = true) : okRow A = true := by
  simp only [okRow, Bool.and_eq_true, decide_eq_true_eq, List.all_eq_true]; exact ⟨h1, h2⟩
theorem eq_i {i j : Int} : eqD (.int i) (.int j) = some (.bl (decide (i = j))) := rfl
theorem all_true {xb : Unit → D → R (Fl Unit Unit)} {k : Unit → R (Fl Unit Empty)} {e : D} : ∀ {ds : List D}, (∀ d ∈ ds, xb () d = .ok (.nx ())) → seqF (forF (fun d => some d) xb ds ()) k = k ()
  | [], _ => rfl
  | d :: ds, h => by
    have h1 := h d (.head _)
    have ih := all_true (xb := xb) (k := k) (e := e) (ds := ds) fun x m => h x (.tail _ m)
    simp only [forF, askR, pure_bind, h1]
    exact ih
theorem numL_head : ∀ (n : Nat), 1 ≤ n → ∃ c r, TL.numL n = c :: r ∧ c ≠ 48 := by
  intro n
  induction n using Nat.strongRecOn with
  | _ n ih =>
    intro h
    by_cases c : n < 10
    · exact ⟨48 + n, [], TL.numL_lt c, by omega⟩
    · obtain ⟨x, r, e, hx⟩ := ih (n / 10) (by omega) (by omega)
      exact ⟨x, r ++ [48 + n % 10], by rw [TL.numL_step (by omega), e]; rfl, hx⟩
theorem dig_mem {c : Nat} (h1 : 48 ≤ c) (h2 : c ≤ 57) : c ∈ ([48, 49, 50, 51, 52, 53, 54, 55, 56, 57] : List Nat) := by
  have : c = 48 ∨ c = 49 ∨ c = 50 ∨ c = 51 ∨ c = 52 ∨ c = 53 ∨ c = 54 ∨ c = 55 ∨ c = 56 ∨ c = 57 := by omega
  simpa using this
theorem port_of_ok {i : Int} (h1 : 1 ≤ i) (h2 : i ≤ 65535) : m_port_of_e04e [.str (numD i)] = .ok (.int i) := by
  obtain ⟨n, rfl⟩ := Int.eq_ofNat_of_zero_le (show 0 ≤ i by omega)
  rw [numD_nat]
  obtain ⟨c, r, e, hc⟩ := numL_head n (by omega)
  have hl : (TL.numL n).length ≤ 5 := TL.numL_len (k := 5) (by omega) (by omega)
  have hd : ∀ x ∈ TL.numL n, 48 ≤ x ∧ x ≤ 57 := fun x m => TL.numL_digits n x m
  have hv := TL.numL_val n
  have hdig : digs (TL.numL n) = true := by
    unfold digs
    rw [List.all_eq_true]
    intro x m
    have := hd x m
    simp only [Bool.and_eq_true, decide_eq_true_eq]; exact this
  have hint : intXD [.str (TL.numL n)] = some (.int (n : Int)) := by
    show (if digs (TL.numL n) = true ∧ TL.numL n ≠ [] ∧ (TL.numL n).length ≤ 640 then some (D.int ((NumText.digitsVal (TL.numL n) : Nat) : Int)) else none) = _
    rw [if_pos ⟨hdig, by rw [e]; simp, by omega⟩, hv]
  have hix : ixD (.str (TL.numL n)) (.int 0) = some (.str [c]) := by
    rw [e]
    show (L2.atI (c :: r) 0).map (fun c => D.str [c]) = _
    unfold L2.atI L2.ixN
    rw [if_pos (by omega), if_pos (by simp only [List.length_cons]; omega)]
    rfl
  have hne : decide (TL.numL n = []) = false := decide_eq_false (by rw [e]; simp)
  have hgt : decide ((5 : Int) < ((TL.numL n).length : Int)) = false := decide_eq_false (by omega)
  have hce : decide ([c] = [48]) = false := decide_eq_false (by simpa using hc)
  unfold m_port_of_e04e apR1
  simp only [e_port_of_e04e, eq_ss, hne, Option.bind_some, bOf_bl, DL.orM, len_str, gti, hgt, hix, hce, askR, pure_bind, Bool.false_eq_true, if_false]
  have body : ∀ d ∈ chrs (TL.numL n), (notInD d (.str [48, 49, 50, 51, 52, 53, 54, 55, 56, 57])).bind bOf = some false := by
    intro d hm
    obtain ⟨x, hx, rfl⟩ := chrs_mem hm
    have := hd x hx
    show some (!decide (x ∈ ([48, 49, 50, 51, 52, 53, 54, 55, 56, 57] : List Nat))) = _
    rw [decide_eq_true (dig_mem this.1 this.2)]; rfl
  show runR false (do let r30 ← (DL.ask (itD (.str (TL.numL n))) : R (List D)); _) = _
  rw [it_str]
  simp only [askR, pure_bind]
  rw [all_true (e := .non) (fun d hm => by rw [body d hm]; rfl)]
  have hle : (leD (.int (n : Int)) c_MOST_PORT).bind bOf = some true := by
    show some (decide ((n : Int) ≤ 65535)) = _
    rw [decide_eq_true h2]
  simp only [hint, askR, pure_bind, hle, iteM, if_true]
  rfl
theorem ch_free {s : Nat} (h : ¬ s ∈ CH) {z : List Nat} (hz : isLab 20 z = true) : s ∉ z := fun m => h ((isLab_iff.mp hz).2.2 s m)
theorem join_free {s t : Nat} (h : ¬ s ∈ CH) (hst : s ≠ t) : ∀ {A : List (List Nat)}, (∀ z ∈ A, isLab 20 z = true) → s ∉ joinN [t] A
  | [], _, m => by cases m
  | [z], hA, m => ch_free h (hA z (.head _)) (by simpa [joinN] using m)
  | z :: y :: A, hA, m => by
    rw [joinN] at m
    rcases List.mem_append.mp m with m | m
    · exact ch_free h (hA z (.head _)) m
    · rcases List.mem_append.mp m with m | m
      · exact hst (List.mem_singleton.mp m)
      · exact join_free h hst (A := y :: A) (fun w k => hA w (.tail _ k)) m
theorem num_free {s : Nat} (h : s < 48 ∨ 57 < s) (hi : 0 ≤ i) : s ∉ numD i := by
  obtain ⟨n, rfl⟩ := Int.eq_ofNat_of_zero_le hi
  rw [numD_nat]
  exact TL.numL_free h
theorem part_some {z S p q : List Nat} (hS : S ≠ []) (hz : z.length ≤ 1000000) (h : TL.par S [] z = some (p, q)) : partD (.str z) (.str S) = some (.tup [.str p, .str S, .str q]) := by
  show (if S ≠ [] ∧ z.length ≤ 1000000 then some (match TL.par S [] z with | some (p, q) => D.tup [.str p, .str S, .str q] | none => D.tup [.str z, .str [], .str []]) else none) = _
  rw [if_pos ⟨hS, hz⟩, h]
theorem part_none {z S : List Nat} (hS : S ≠ []) (hz : z.length ≤ 1000000) (h : TL.par S [] z = none) : partD (.str z) (.str S) = some (.tup [.str z, .str [], .str []]) := by
  show (if S ≠ [] ∧ z.length ≤ 1000000 then some (match TL.par S [] z with | some (p, q) => D.tup [.str p, .str S, .str q] | none => D.tup [.str z, .str [], .str []]) else none) = _
  rw [if_pos ⟨hS, hz⟩, h]
theorem split_ok {s : Nat} (hs : s < 256) (hc : ¬ s ∈ CH) (hA : ∀ z ∈ A, isLab 20 z = true) (h0 : A ≠ []) (hl : (joinN [s] A).length ≤ 1000000) : splitD (.str (joinN [s] A)) (.str [s]) = some (A.map .str) := by
  show (if s < 256 ∧ (joinN [s] A).length ≤ 1000000 then some ((TL.spl [s] 0 [] (joinN [s] A)).map D.str) else none) = _
  rw [if_pos ⟨hs, hl⟩, joinN_eq, TL.spl_join h0 fun p m => ch_free hc (hA p m)]
theorem un3_3 {a b c : D} : un3 (.tup [a, b, c]) = some (a, b, c) := rfl
end
end FN
/-! ### text.replace(a, b, 1): a token is out -/
namespace DL
open PySem PySem.Spec PyProof.Rows L2
end DL
/-! ### texts cut and glued, ports of any text, rows: shared lemmas -/
namespace FN
open DL PySem PySem.W
def DG : List Nat := [48, 49, 50, 51, 52, 53, 54, 55, 56, 57]
theorem dg_digs (z : List Nat) : (z.all fun c => decide (c ∈ DG)) = digs z := by
  unfold digs
  congr 1; funext c
  rw [Bool.eq_iff_iff]
  simp only [decide_eq_true_eq, Bool.and_eq_true]
  constructor
  · intro h
    have : c = 48 ∨ c = 49 ∨ c = 50 ∨ c = 51 ∨ c = 52 ∨ c = 53 ∨ c = 54 ∨ c = 55 ∨ c = 56 ∨ c = 57 := by simpa [DG] using h
    omega
  · rintro ⟨h1, h2⟩
    exact dig_mem h1 h2
/-- the port that a text writes, if it does -/
def portN (z : List Nat) : Option Int := match z with
  | [] => none
  | c :: r => if (c :: r).length ≤ 5 ∧ c ≠ 48 ∧ digs (c :: r) = true ∧ NumText.digitsVal (c :: r) ≤ 65535 then some ((NumText.digitsVal (c :: r) : Nat) : Int) else none
theorem for_none {xb : Unit → D → R (Fl Unit Unit)} {k : Unit → R (Fl Unit Empty)} {f : D → Bool} {e : D} : ∀ {ds : List D}, (∀ d ∈ ds, xb () d = if f d = true then .ok (.nx ()) else .ok (.rt e)) →
    seqF (forF (fun d => some d) xb ds ()) k = if ds.all f = true then k () else .ok (.rt e)
  | [], _ => rfl
  | d :: ds, h => by
    have h1 := h d (.head _)
    have ih := for_none (f := f) (xb := xb) (k := k) (e := e) (ds := ds) fun x m => h x (.tail _ m)
    simp only [forF, askR, pure_bind, h1, List.all_cons]
    by_cases hf : f d = true
    · simp only [hf, if_true, Bool.true_and]; exact ih
    · have hf' : f d = false := by simpa using hf
      simp only [hf', Bool.false_eq_true, if_false, Bool.false_and]; rfl
theorem int_text {z : List Nat} (h1 : digs z = true) (h2 : z ≠ []) (h3 : z.length ≤ 640) : intXD [.str z] = some (.int ((NumText.digitsVal z : Nat) : Int)) := by
  show (if digs z = true ∧ z ≠ [] ∧ z.length ≤ 640 then some (D.int ((NumText.digitsVal z : Nat) : Int)) else none) = _
  rw [if_pos ⟨h1, h2, h3⟩]
theorem port_of_any (z : List Nat) : m_port_of_e04e [.str z] = .ok (match portN z with | some i => .int i | none => .non) := by
  unfold m_port_of_e04e apR1
  cases z with
  | nil => rfl
  | cons c r =>
    have hne : decide (c :: r = ([] : List Nat)) = false := decide_eq_false (by simp)
    have hix : ixD (.str (c :: r)) (.int 0) = some (.str [c]) := by
      show (L2.atI (c :: r) 0).map (fun c => D.str [c]) = _
      unfold L2.atI L2.ixN
      rw [if_pos (by omega), if_pos (by simp only [List.length_cons]; omega)]
      rfl
    simp only [e_port_of_e04e, eq_ss, hne, Option.bind_some, bOf_bl, DL.orM, len_str, gti, hix, askR, pure_bind, Bool.false_eq_true, if_false]
    by_cases c1 : (c :: r).length ≤ 5
    · have g1 : decide ((5 : Int) < ((c :: r).length : Int)) = false := decide_eq_false (by omega)
      by_cases c2 : c = 48
      · have g2 : decide ([c] = [48]) = true := decide_eq_true (by rw [c2])
        have e : portN (c :: r) = none := if_neg (fun h => h.2.1 c2)
        rw [e]
        simp only [g1, g2, Bool.false_eq_true, if_false, pure_bind, if_true]
        rfl
      · have g2 : decide ([c] = [48]) = false := decide_eq_false (by simpa using c2)
        simp only [g1, g2, Bool.false_eq_true, if_false, pure_bind]
        show runR false (do let r30 ← (DL.ask (itD (.str (c :: r))) : R (List D)); _) = _
        rw [it_str]
        simp only [askR, pure_bind]
        rw [for_none (f := fun d => decide (sgn d ∈ DG)) (e := .non) (fun d hm => by
          obtain ⟨x, hx, rfl⟩ := chrs_mem hm
          have en : (notInD (.str [x]) (.str [48, 49, 50, 51, 52, 53, 54, 55, 56, 57])).bind bOf = some (!decide (x ∈ DG)) := rfl
          rw [en]
          show (do let t21 ← (pure (!decide (x ∈ DG)) : R Bool); _) = if decide (x ∈ DG) = true then _ else _
          cases decide (x ∈ DG) <;> rfl)]
        have hall : (chrs (c :: r)).all (fun d => decide (sgn d ∈ DG)) = digs (c :: r) := by
          rw [← dg_digs]
          unfold chrs
          rw [List.all_map]
          rfl
        rw [hall]
        by_cases c3 : digs (c :: r) = true
        · rw [if_pos c3]
          have hi := int_text c3 (by simp) (by omega)
          have hle : (leD (.int ((NumText.digitsVal (c :: r) : Nat) : Int)) c_MOST_PORT).bind bOf = some (decide (((NumText.digitsVal (c :: r) : Nat) : Int) ≤ 65535)) := rfl
          simp only [hi, askR, pure_bind, hle, iteM]
          by_cases c4 : NumText.digitsVal (c :: r) ≤ 65535
          · have e : portN (c :: r) = some ((NumText.digitsVal (c :: r) : Nat) : Int) := if_pos ⟨c1, c2, c3, c4⟩
            rw [e, decide_eq_true (show ((NumText.digitsVal (c :: r) : Nat) : Int) ≤ 65535 by omega)]
            rfl
          · have e : portN (c :: r) = none := if_neg (fun h => c4 h.2.2.2)
            rw [e, decide_eq_false (show ¬ ((NumText.digitsVal (c :: r) : Nat) : Int) ≤ 65535 by omega)]
            rfl
        · have e : portN (c :: r) = none := if_neg (fun h => c3 h.2.2.1)
          rw [if_neg c3, e]
          rfl
    · have g1 : decide ((5 : Int) < ((c :: r).length : Int)) = true := decide_eq_true (by omega)
      have e : portN (c :: r) = none := if_neg (fun h => c1 h.1)
      rw [e]
      simp only [g1, if_true]
      rfl
theorem spl_len {S : List Nat} : ∀ (z : List Nat) (k : Nat) (acc : List Nat), (TL.spl S k acc z).length ≤ z.length + 1
  | [], k, acc => by rw [TL.spl_nil]; simp
  | x :: r, 0, acc => by
    by_cases hp : TL.pre S (x :: r) = true
    · rw [TL.spl_hit hp]
      have := spl_len (S := S) r (S.length - 1) []
      simp only [List.length_cons]; omega
    · rw [TL.spl_miss (by simpa using hp)]
      have := spl_len (S := S) r 0 (acc ++ [x])
      simp only [List.length_cons]; omega
  | x :: r, k + 1, acc => by
    have := spl_len (S := S) r k acc
    simp only [List.length_cons]
    show (TL.spl S k acc r).length ≤ _
    omega
theorem index_ok {z : List Nat} {c : Nat} (h : c ∈ z) : indexD (.str z) (.str [c]) = some (.int ((z.idxOf c : Nat) : Int)) := if_pos h
theorem notin_sign {z : List Nat} {c : Nat} : (notInD (.str [c]) (.str z)).bind bOf = some (!decide (c ∈ z)) := rfl
theorem cut_to {z : List Nat} {n : Nat} : cutL z none (some (n : Int)) = z.take n := by rw [cut_hi (by omega)]; rfl
theorem cut_from {z : List Nat} {n : Nat} : cutL z (some ((n : Int) + 1)) none = z.drop (n + 1) := by
  rw [cut_lo (by omega)]; congr 1
theorem sqp {α β γ : Type} {a : α} {k : α → R (Fl γ β)} : seqF (pure (Fl.nx a) : R (Fl α β)) k = k a := rfl
theorem tx1 {c : Nat} (h : c < 1114112) : Tx 1 [c] := ⟨by simp, fun x m => by rw [List.mem_singleton.mp m]; exact h⟩
theorem list_s {s : List Nat} : listD [.str s] = some (chrs s) := rfl
theorem noexM {α : Type} {a : α} : (Mo.noex (pure a : M α) : M α) = pure a := rfl
theorem isLab_up {n m : Nat} {z : List Nat} (h : isLab n z = true) (w : n ≤ m) : isLab m z = true := by
  obtain ⟨a, b, c⟩ := isLab_iff.mp h
  exact isLab_iff.mpr ⟨a, by omega, c⟩
def Rn (l n : Nat) (d : D) : Prop := ∃ A : List (List Nat), d = .tup (A.map .str) ∧ l ≤ A.length ∧ A.length ≤ n ∧ ∀ z ∈ A, isLab 20 z = true
theorem Rn.up {l n m : Nat} {d : D} (h : Rn l n d) (w : n ≤ m) : Rn l m d := by
  obtain ⟨A, a, b, c, e⟩ := h
  exact ⟨A, a, b, by omega, e⟩
theorem app_row {A B : List (List Nat)} (h : A.length + B.length ≤ 1000000) : addD (.tup (A.map .str)) (.tup (B.map .str)) = some (.tup ((A ++ B).map .str)) := by
  rw [add_tt (by simpa using h), List.map_append]
theorem rep37 {a : Bool} : ∃ s, reprD [.bl a] = some (.str s) := repr_ex (p := .bool a) rfl rfl rfl rfl (Nat.le_of_ble_eq_true rfl)
end FN
/-! ### an __init__ that says super().__init__(..) and nothing else -/
namespace DL
open PySem PySem.Spec PyProof.Rows L2 NdefX ClX
/-- the same promise, for objects of the class at D alone -/
def spIS (K : PySem.W.Frag) (mg : Str → Option Value) (D : Addr) (ns : List Str) (L : Nat → Prop) (g : List DL.D → R (List DL.D)) : Sp := fun vs H Q E => spI K mg ns L g vs H Q E ∧ ∃ x rest dx, vs = .ref x :: rest ∧ H x = some (.ins D dx [])
structure SupFun (P : Program) (K : PySem.W.Frag) (mg : Str → Option Value) (x qual : Str) (st : Stmt) (f fb D : Addr) (fd : FuncData) : Prop where
  ex : ∃ (oc : Value) (od : Option Addr) (kV doc pm : Value) (an : Option Addr) (cda cc : Addr) (ct : Value) (osl : Array (Option Value)) (ccl : Value) (cdd : Option Addr) (vs : Array Value) (ccs : Array (Option Value)) (file : Str) (tf : Tok) (cl : Value) (cld : Option Addr) (csl : Array (Option Value)),
    fd = PySem.W.fnX x qual (defArgs st) (defBody st) (defScope st) [("__class__", cc)] .none kV doc pm an (.ref cda) ct ∧ K.lookup f = some ⟨oc, od, .func fd, osl⟩ ∧ PySem.W.codeIn K (.ref cda) qual = true ∧
    K.lookup cda = some ⟨ccl, cdd, .fields vs, ccs⟩ ∧ vs[2]? = some (.str file tf) ∧ ((P.main.file : Str) == file) = true ∧ K.lookup cc = some ⟨cl, cld, .cell (some (.ref D)), csl⟩
  cls : ∃ cd, PySem.W.clsIn K D = some cd
  mro : PySem.W.mroIn K D (.ref D) = some true
  sup : mg "super" = none
  top : (P.main.scope.names.lookup ("super" : Str)).isSome = false
  init : PySem.W.ks_superIn K D D "__init__" = some (some (.ref fb))
  ty : PySem.W.typeIn K (.ref fb) = some (.type "function")
  fi : PySem.W.fnIn K fb = true
  tp : PySem.W.nsIn K cStatics "thirdparty.any" = some none
theorem startF_at {N : List Str} {vs : List V} {ws : List (Option V)} {i : Nat} {v : V} (h : vs[i]? = some v) : (startF N vs ws)[i]? = some (some v) := by
  unfold startF
  have hl : i < vs.length := (List.getElem?_eq_some_iff.mp h).1
  rw [List.getElem?_append_left (by simpa using hl), List.getElem?_map, h]
  rfl
theorem startF_len {N : List Str} {vs : List V} {ws : List (Option V)} (h : vs.length + ws.length ≤ N.length) : (startF N vs ws).length = N.length := by
  unfold startF
  simp
  omega
section
variable {K : PySem.W.Frag} {mg : Str → Option Value}
theorem StS.initS {Hf H : Hp} {E : XK} {ds : List D} {vs : List V} {N : List Str} {s : S} {x C dx : Addr} {ws : List (Option V)} (sb : Sub Hf H) (hf : Hf x = none) {ns : List Str} (hx : H x = some (.ins C dx [])) (c : Cls K C) (na : ∀ f ∈ ns, NoAttr K C f) (l : IsL K mg Hf ds vs) (hn : vs.length + 1 + ws.length ≤ N.length) :
    StS K mg (fxI ns x H Hf E) Hf H (startF N (.ref x :: vs) ws) (GI N ds) s := by
  refine ⟨.refl sb, trivial, fun b m => ?_, ?_, fun i y e => ?_, fun i j y z p ne ey ez oy oz e1 e2 => ?_⟩
  · have : b = x := by
      rcases List.mem_append.mp m with m | m
      · simpa using m
      · cases m
    subst this
    exact ⟨hf, by rw [hx]; simp, fun _ => by show H b ≠ none; rw [hx]; simp⟩
  · rw [startF_len (by simp only [List.length_cons]; omega)]
    unfold GI
    have := l.len
    simp
    omega
  · cases i with
    | zero =>
      cases e
      exact ⟨x, C, dx, [], startF_at rfl, hx, hf, ⟨by simp, [], hx⟩, by simp, ⟨c, na⟩, rfl, rfl⟩
    | succ i =>
      have e' : (ds.map Sl.im ++ List.replicate (N.length - ds.length - 1) .un)[i]? = some y := e
      have q := slOk_G0 (fx := fxI ns x H Hf E) (H := H) (N := N) l e'
      cases y with
      | un => trivial
      | im d =>
        obtain ⟨v, hv, hi⟩ := q
        refine ⟨v, ?_, hi⟩
        cases h : vs[i]? with
        | none => rw [h] at hv; cases hv
        | some w => rw [h] at hv; cases hv; exact startF_at (by simpa using h)
      | ow ds => exact (isOw_im e' rfl).elim
      | od ks ds => exact (isOw_im e' rfl).elim
      | ob ns ds => exact (isOw_im e' rfl).elim
      | bg =>
        obtain ⟨b, r, e, _⟩ := q
        cases e
  · have z1 : i = 0 := by
      cases i with
      | zero => rfl
      | succ i => exact (isOw_im (n := N.length - ds.length - 1) (ds := ds) (i := i) ey oy).elim
    have z2 : j = 0 := by
      cases j with
      | zero => rfl
      | succ j => exact (isOw_im (n := N.length - ds.length - 1) (ds := ds) (i := j) ez oz).elim
    exact ne (z1.trans z2.symm)
end
section
variable {X : Cx} {j : Nat} {q fb x : Addr} {sp : Sp} {E : L2.St → XK}
/-- the call of a bound method whose def keeps the promise sp -/
theorem run_mP {pins : List (Addr × Obj)} {σ : L2.St} {H : Hp} {s : Shared} {Q : VK} {us : List Value} {vs : List V} (F : FnP X.prog X.w X.K X.mg X.base j fb [] sp) (hg : X.A.guards = some []) (hr : Room j X.A)
    (hx : PassesAt (L2.CX X.prog X.w) X σ (E σ)) (I : L2.Inv X ((q, PySem.W.methodObj (.ref fb) (.ref x)) :: pins) σ H s) (r : Vals vs us) (h : sp (.ref x :: vs) H Q (E σ)) : wpAny (model X.prog X.w) X.A (call (.ref q) us) (EP X pins σ Q) X.xe s := by
  have z : wpAny (model X.prog X.w) X.A (call (.ref q) us) (EP X ((q, PySem.W.methodObj (.ref fb) (.ref x)) :: pins) σ Q) X.xe s :=
    wpAny_call (PySem.W.method_call (pin_at I) (codeAny_mono (F X.A X.stack s H (.ref x :: us) [] (.ref x :: vs) Q (E σ) hg hr I.env0 rfl (by rw [List.append_nil]; exact .cons rfl r) h) fun r s' hq => by
      have z := ends_call I hx hq
      cases r with
      | error e => exact z
      | ok fl => cases fl <;> first | exact z | exact z.elim))
  exact thn z fun _ _ y => unpinE y
end
section
variable {P : Program} {w : World} {K : PySem.W.Frag} {mg : Str → Option Value} {base : Heap}
theorem fnSup {x qual : Str} {st : Stmt} {f fb D : Addr} {fd : FuncData} {N ps ns : List Str} {k j n : Nat} {L : Nat → Prop} {g gb : List DL.D → R (List DL.D)} {self : Str} {ar : Arg} {e : Expr} {es : List Expr} {p0 p1 apos cpos epos : Pos}
    (SF : SupFun P K mg x qual st f fb D fd) (Sc : NScope N ps ["__class__"] (defScope st)) (hn : ps.length = n + 1) (hN0 : N[0]? = some self) (hp : ((defArgs st).posonlyargs ++ (defArgs st).args).head? = some ar) (har : ar.arg = self)
    (hb0 : defBody st = [.Expr (.Call (.Attribute (.Call (.Name "super" p0) [] [] p1) "__init__" apos) (e :: es) [] cpos) epos])
    (hks : (defScope st).names.lookup ("super" : Str) = some .globalImplicit) (hkc : (defScope st).names.lookup ("__class__" : Str) = some .free) (hka : (defScope st).names.lookup self = some .local)
    (Fb : FnP P w K mg base j fb [] (spI K mg ns L gb)) (hj : j ≤ k) (hL : ∀ ds : List DL.D, gb ds ≠ .stuck → L (ds.length + 1))
    (ha : ∀ (F : NF) (A : Around) (outer : List Env) (s : Shared) (H Hf : Hp) (E : XK) (o : Addr) (ds : List DL.D), F.scope = defScope st → F.qual = qual → Cok (ncx (L2.CX P w) P w K mg base N F f A outer s H E) (fxI ns o H Hf E) k → ds.length = n →
      ∃ ys : R (List DL.D), PA (ncx (L2.CX P w) P w K mg base N F f A outer s H E) (e :: es) (tA K mg (fxI ns o H Hf E) (GI N ds) ys) ∧ g ds = (do let as ← ys; gb as))
    (hst : ∀ env : Env, starEach (e :: es) env = (false, eval e env) :: starEach es env := by intro _; rfl) (hpl : ∀ env : Env, (backTo cpos (starEach es env)).any (·.1) = false := by intro _; rfl)
    (hev : ∀ env : Env, ∃ pl : Sem Bool, eval (.Call (.Attribute (.Call (.Name "super" p0) [] [] p1) "__init__" apos) (e :: es) [] cpos) env = (do
      let ov ← attributeBase (.Call (.Name "super" p0) [] [] p1) "__init__" env (eval (.Call (.Name "super" p0) [] [] p1) env)
      standAt apos.atName
      let (f, first) ← holding [ov] (getMethod ov "__init__" pl)
      callWith cpos f first (backTo cpos (starEach (e :: es) env)) []) := by intro _; exact ⟨_, rfl⟩) :
    FnG P w K mg base (k + 1) f fd ps (spIS K mg D ns (fun l => l = n + 1) g) := by
  refine ⟨fun vs H Q E h => h.1.1.trans hn.symm, fun A outer s H args us vs Q E gd hr e0 hb r hsp => ?_⟩
  obtain ⟨oc, od, kV, doc, pm, an, cda, cc, ct, osl, ccl, cdd, cvs, ccs, file, tf, cl, cld, csl, rfl, lk, hcd, hcode, hvs, hfile, hcell⟩ := SF.ex
  obtain ⟨cdD, hD⟩ := SF.cls
  obtain ⟨⟨hlen, o, C, dx, rest, Hf, ds, rfl, sb, hf, hx, cls, na, l, q⟩, o2, rest2, dx2, e2, hx2⟩ := hsp
  cases e2
  rw [hx] at hx2
  cases hx2
  have hl' : rest.length = n := by simpa using hlen
  have kp := fun b o e => (e0.bs b o e).1
  have KX : K.In s.heap := e0.mod.kin.keeps kp
  have lim : s.heap.NoLimit := e0.mod.nolimit.keeps kp
  have hpsl : (V.ref o :: rest).length = ps.length := by rw [hn, List.length_cons, hl']
  let F : NF := ⟨x, qual, defArgs st, defBody st, defScope st, [("__class__", cc)], cda⟩
  have hCc : base.get? cc = some ⟨cl, cld, .cell (some (.ref D)), csl⟩ := e0.mod.kin _ _ hcell
  have CA : CellsAt F.cl ["__class__"] [some (V.ref D)] s.heap H := by
    refine ⟨rfl, fun y c h => ?_, fun y z c h1 h2 => ?_, fun i y h => ?_⟩
    · have : y = "__class__" ∧ c = cc := by
        have h' : List.lookup y [(("__class__" : Str), cc)] = some c := h
        simp only [List.lookup] at h'
        split at h'
        · rename_i hb; cases h'; exact ⟨by simpa using hb, rfl⟩
        · cases h'
      obtain ⟨rfl, rfl⟩ := this
      exact ⟨(e0.bs _ _ hCc).2, _, _, (e0.bs _ _ hCc).1, rfl⟩
    · have aux : ∀ y : Str, List.lookup y [(("__class__" : Str), cc)] = some c → y = "__class__" := fun y h' => by
        simp only [List.lookup] at h'
        split at h'
        · rename_i hb; simpa using hb
        · cases h'
      rw [aux y h1, aux z h2]
    · cases i with
      | zero =>
        cases h
        exact ⟨cc, rfl, fun v hv => by cases hv; exact ⟨.ref D, rfl, _, (e0.bs _ _ hCc).1, rfl⟩⟩
      | succ i => simp at h
  refine codeAny_call_function hr.depth (KX _ _ lk) rfl Sc.co Sc.gen rfl (PySem.W.codeRec_of KX hcd) (hb _ _ _ _ ?_)
  refine wpAny_newFunctionEnv Sc.nocell (fun ⟨n, _⟩ hy => Sc.par n (List.of_mem_zip hy).1) (fun h₁ hns hsb => ⟨lim.fresh _ hsb, ?_⟩) Sc.kind
  show codeAny _ _ (.func (defBody st) (envF F f s.heap.objs.size)) _ _
  have kp1 : ∀ b o, s.heap.get? b = some o → h₁.get? b = some o := fun b o e => hsb.extBut b o (Nat.ne_of_lt (Heap.lt_size e)) (Heap.get?_push_of_some _ e)
  have I : L2.Inv (ncx (L2.CX P w) P w K mg base N F f A outer s H E) [] (startF N (.ref o :: rest) [some (.ref D)]) H { s with heap := h₁, toks := s.toks + (ps.zip us).length } := inv_startN Sc hr.hd e0 hpsl r CA hns kp1
  generalize ({ s with heap := h₁, toks := s.toks + (ps.zip us).length } : Shared) = s1 at I ⊢
  have Ck : Cok (ncx (L2.CX P w) P w K mg base N F f A outer s H E) (fxI ns o H Hf E) k := ⟨rfl, passes_of rfl, takes_of rfl rfl rfl rfl, hr.deeper _, Sc.nd, gd⟩
  obtain ⟨ys, hpa, hg⟩ := ha F A outer s H Hf E o ds rfl rfl Ck (l.len.trans hl')
  have hNl : (ps.length + 1) ≤ N.length := by
    have := congrArg List.length Sc.pre
    rw [List.length_take, List.length_append] at this
    simp only [List.length_cons, List.length_nil] at this
    omega
  have st0 : StS K mg (fxI ns o H Hf E) Hf H (startF N (.ref o :: rest) [some (.ref D)]) (GI N ds) ⟨0, 0, 0, [], false⟩ := .initS sb hf hx cls na l (by simp only [List.length_cons, List.length_nil]; omega)
  have hOD : o ≠ D := fun z => by
    obtain ⟨oD, hoD⟩ : ∃ oD, K.lookup D = some oD := by
      unfold PySem.W.clsIn at hD
      split at hD
      · rename_i ho; exact ⟨_, ho⟩
      · cases hD
    have := (e0.bs _ _ (e0.mod.kin _ _ hoD)).2
    rw [← z, hx] at this
    cases this
  have hinit : PySem.W.alongIn K "__init__" ((cdD.mro.dropWhile (· != .ref D)).drop 1) = some (some (.ref fb)) := by
    have h := SF.init
    unfold PySem.W.ks_superIn at h
    rw [hD] at h
    exact h
  rw [hb0]
  refine PySem.ks_codeAny_funcAt ?_
  refine PySem.ks_wpAt_execs_cons (PySem.ks_wpAt_Expr_any ?_ I.quiet rfl)
  obtain ⟨pl, hpe⟩ := hev (envF F f s.heap.objs.size)
  refine PySem.ks_wpAt_MethodCall (pl := pl) ?_ hpe
  obtain ⟨hh, gg, dd, tt, oo⟩ := s1
  obtain ⟨m, hns1, hloc⟩ := id I.loc
  obtain ⟨u0, ru0, hlook⟩ := hloc 0 self (.ref o) hN0 (startF_at rfl) (.inl hka)
  obtain rfl : u0 = .ref o := ru0
  have hself : m self = some (.ref o) := by
    rcases hlook with ⟨_, h⟩ | ⟨h, _⟩
    · exact h
    · have hk' : (ncx (L2.CX P w) P w K mg base N F f A outer s H E).env.kindOf self = some .local := hka
      rcases h with h | h <;> (rw [hk'] at h; cases h)
  have X1 : K.In hh := I.kIn
  obtain ⟨oD, hD1, hD2⟩ : ∃ oD, hh.get? D = some oD ∧ oD.data = .cls cdD := by
    unfold PySem.W.clsIn at hD
    split at hD
    · rename_i ho
      cases hD
      exact ⟨_, X1 _ _ ho, rfl⟩
    · cases hD
  obtain ⟨mA, O, _, _, _, _⟩ := ins_get I.hok hx
  obtain ⟨mb, hb1, hb2⟩ := I.mod.blt
  refine PySem.ks_wpAt_super_base (env := envF F f s.heap.objs.size) hks hkc rfl rfl (X1 _ _ lk) rfl hp rfl (X1 _ _ hcode) rfl hvs hfile SF.top ?_
  refine PySem.W.ks_loadName_global Sc.kind hks (Calls.loadGlobal_builtin (I.mod.glob.keeps I.bk) SF.sup (hb1.keeps I.bk) ((hb2 "super" (by decide)).trans (by kernel_rfl)) ⟨rfl, ?_⟩)
  refine wpAny_loadName_free Sc.kind hkc rfl ⟨_, X1 _ _ hcell, rfl⟩ ?_
  rw [har]
  refine wpAny_loadName_local Sc.kind hka hns1 hself ?_
  refine PySem.ks_wpAny_isType_cls hD1 hD2 ⟨rfl, ?_⟩
  refine PySem.ks_wpAny_call_super hD1 hD2 O.obj rfl (fun c e => nomatch e) (PySem.W.looks_mroIn X1 SF.mro) (fun h' e k => ?_)
  have I' : L2.Inv (ncx (L2.CX P w) P w K mg base N F f A outer s H E) [] (startF N (.ref o :: rest) [some (.ref D)]) H ⟨h', gg, dd, tt, oo⟩ := I.kept (t' := tt) k
  have X2 : K.In h' := I'.kIn
  obtain ⟨of, hof, hofc⟩ : ∃ of, h'.get? fb = some of ∧ of.cls = .type "function" := by
    have ht' : (K.lookup fb).map (·.cls) = some (.type "function") := SF.ty
    cases z : K.lookup fb with
    | none => rw [z] at ht'; cases ht'
    | some of => rw [z] at ht'; exact ⟨of, X2 _ _ z, Option.some.inj ht'⟩
  refine PySem.ks_wpAny_getMethod_super (K := K) e (PySem.W.looks_opaque X2 SF.tp) (l₀ := cdD.mro) (fun A Q E s k q => wpAny_bind ((PySem.W.looks_clsIn X2 hD) A _ E s k (wpAny_pure q))) rfl X2 hinit hof hofc hOD rfl ?_
  have J := met_new (g := fb) (C := o) I'
  have hq0 : spI K mg ns L gb = spI K mg ns L gb := rfl
  refine wpAny_mono (Q := EP (ncx (L2.CX P w) P w K mg base N F f A outer s H E) [] (startF N (.ref o :: rest) [some (.ref D)]) (fun _ H' => Q .non H')) (callwith_cm J (base_none I' (Nat.le_refl _)) SF.fi (thn (hpa.run cpos _ _ (startF N (.ref o :: rest) [some (.ref D)]) H (fun vs2 H2 => spI K mg ns L gb (.ref o :: vs2) H2 (fun _ H' => Q .non H') (WE (fxI ns o H Hf E).W (startF N (.ref o :: rest) [some (.ref D)]))) J ?_) fun us2 s3 ⟨vs2, H2, I3, rv, q2⟩ => ⟨⟨pin_at I3, I3.kIn⟩, run_mP (E := WE (fxI ns o H Hf E).W) Fb Ck.gd (Ck.rm.mono hj) (passAt Ck.tk _) I3 rv q2⟩) (hst _) (hpl _)) (fun u s' h => ?_) fun _ _ z => z
  · refine ⟨Hf, ⟨0, 0, 0, [], false⟩, st0, ?_⟩
    have stx : ∀ {Hf1 H1 : Hp}, Ste [] Hf H Hf1 H1 → H1 o = some (.ins D dx []) ∧ Hf1 o = none := fun {Hf1 H1} e => ⟨e.keep _ _ hx (by simp), e.stayNone hf (by rw [hx]; simp)⟩
    show R.wp ys _ _ _
    rw [hg] at q
    cases hys : ys with
    | ok as =>
      rw [hys] at q
      have q1 : match gb as with
        | .ok es => ∀ us Hf' H', Ste [o] Hf H Hf' H' → H' o = some (.ins D dx (ns.zip us)) → ns.length = us.length → IsL K mg Hf' es us → Hf' o = none → Q .non H'
        | .ex e => ∀ cls dd Hf' H', Ste [o] Hf H Hf' H' → ExIs K mg Hf' H' e cls dd → E cls dd H'
        | .stuck => False := q
      intro vs2 Hf1 H1 e1 bg1 l1
      obtain ⟨hx1, hf1⟩ := stx e1
      have hlen1 : L ((V.ref o :: vs2).length) := by
        rw [List.length_cons, ← l1.len]
        refine hL as fun z => ?_
        rw [z] at q1
        exact q1
      refine ⟨hlen1, o, D, dx, vs2, Hf1, as, rfl, e1.top, hf1, hx1, cls, na, l1, ?_⟩
      cases hgb : gb as with
      | ok es =>
        rw [hgb] at q1
        exact fun us Hf' H' e2 => q1 us Hf' H' (e1.wide.trans e2)
      | ex ee =>
        rw [hgb] at q1
        exact fun cls dd Hf' H' e2 xi => q1 cls dd Hf' H' (e1.wide.trans e2) xi
      | stuck => rw [hgb] at q1; exact q1
    | ex ee =>
      rw [hys] at q
      have q1 : ∀ cls dd Hf' H', Ste [o] Hf H Hf' H' → ExIs K mg Hf' H' ee cls dd → E cls dd H' := q
      exact fun cls dd Hf' H' st xi => q1 cls dd Hf' H' st.ste xi
    | stuck =>
      rw [hys] at q
      exact q
  · obtain ⟨v, H', J', rv, q'⟩ := h
    exact wpAt_of_wpAny (wpAny_execs_nil ⟨.non, H', J'.os, J'.bare, J'.base, J'.hok, rfl, q'⟩)
end
end DL
/-! ### self.a, x, .. = e; objects of classes whose __init__ says super().__init__(..) -/
namespace DL
open PySem PySem.Spec PyProof.Rows L2
inductive FT where
  | nm (i : Nat)
  | fl (f : Str)
def stepT (i0 : Nat) (t : FT) (d : D) (G : List Sl) : List Sl := match t with
  | .nm i => G.set i (.im d)
  | .fl f => match G[i0]? with
    | some (.ob ns ds) => G.set i0 (.ob (ns ++ [f]) (ds ++ [d]))
    | _ => G
def setT (i0 : Nat) : List FT → Nat → List D → List Sl → List Sl
  | [], _, _, G => G
  | t :: ts, k, c, G => setT i0 ts (k + 1) c (stepT i0 t (c.getD k .non) G)
def gT (K : PySem.W.Frag) (i0 : Nat) : List FT → TGs
  | [] => gNil
  | .nm i :: ts => gCons (gName i) (gT K i0 ts)
  | .fl f :: ts => gCons (gFld K (tVar i0) f) (gT K i0 ts)
section
variable {X : Cx} {fx : Fx} {i0 : Nat} {self : Str}
/-- names and fields of the object that is made, as targets -/
inductive TgF (X : Cx) (fx : Fx) (i0 : Nat) (self : Str) : List Expr → List FT → List Str → Prop
  | nil {ns : List Str} : TgF X fx i0 self [] [] ns
  | nm {n : Str} {p : Pos} {es : List Expr} {ts : List FT} {ns : List Str} (i : Nat) (r : TgF X fx i0 self es ts ns) (hi : X.N[i]? = some n := by rfl) (hx : Loc X.env.scope n := by first | exact Or.inl rfl | exact Or.inr rfl) (hf : X.fn n = true ∨ X.env.scope.names.lookup n = some .local := by first | exact .inl rfl | exact .inr rfl) (hne : i ≠ i0 := by decide) : TgF X fx i0 self (.Name n p :: es) (.nm i :: ts) ns
  | fl {np pos' : Pos} {es : List Expr} {ts : List FT} {ns : List Str} {f : Str} (r : TgF X fx i0 self es ts (ns ++ [f])) (hf : f ∉ ns := by decide +kernel) (hm : f ∈ fx.nas := by decide +kernel) (hz : ns.length < 1000 := by decide) : TgF X fx i0 self (.Attribute (.Name self np) f pos' :: es) (.fl f :: ts) ns
theorem tgf_pgs (nd : X.N.Nodup) (hN : X.N[i0]? = some self) (hv : Vis X.env.scope self) (hd : (self == ("__debug__" : Str)) = false) (hcd : (self == ("__classdict__" : Str)) = false) {es : List Expr} {ts : List FT} {ns : List Str} (h : TgF X fx i0 self es ts ns) : PGs X es (gT X.K i0 ts) := by
  induction h with
  | nil => exact pgs_nil
  | nm i r hi hx hf hne ih => exact pgs_cons (pg_name nd hi hx hf) ih
  | fl r hf hm hz ih => exact pgs_cons (pg_fld (pe_var hN hv hd hcd)) ih
theorem gt_read {Hf : Hp} {s : S} {Q : L2.St → Hp → Prop} {es : List Expr} {ts : List FT} {ns : List Str} (h : TgF X fx i0 self es ts ns) : ∀ (k : Nat) (c ds es0 : List D) (vs : List V) {σ : L2.St} {H : Hp} {G : List Sl}, StS X.K X.mg fx Hf H σ G s → G[i0]? = some (.ob ns es0) → IsL X.K X.mg Hf ds vs → c.drop k = ds → ds.length = ts.length →
    (∀ σ' H', StS X.K X.mg fx Hf H' σ' (setT i0 ts k c G) s → Q σ' H') → gT X.K i0 ts vs σ H Q := by
  induction h with
  | nil =>
    intro k c ds es0 vs σ H G st hG l e hl q
    cases ds with
    | nil => cases l; exact ⟨rfl, q σ H st⟩
    | cons d ds => simp at hl
  | nm i r hi hx hf hne ih =>
    intro k c ds es0 vs σ H G st hG l e hl q
    cases ds with
    | nil => simp at hl
    | cons d ds =>
      obtain ⟨v, rr, rfl, iv, l'⟩ := l
      have hk : c.getD k .non = d := by
        have : c[k]? = some d := by
          have := congrArg (fun z => z[0]?) e
          simpa using this
        simp [List.getD, this]
      refine ⟨v, rr, rfl, ?_⟩
      refine ih (k + 1) c ds es0 rr (st.set (i := i) iv) (by rw [List.getElem?_set_ne hne]; exact hG) l' ?_ (by simpa using hl) fun σ' H' st' => q σ' H' ?_
      · have := congrArg (List.drop 1) e
        simpa [List.drop_drop, Nat.add_comm] using this
      · show StS X.K X.mg fx Hf H' σ' (setT i0 _ (k + 1) c (stepT i0 (.nm i) (c.getD k .non) G)) s
        rw [hk]; exact st'
  | @fl np pos' es ts ns f r hf hm hz ih =>
    intro k c ds es0 vs σ H G st hG l e hl q
    cases ds with
    | nil => simp at hl
    | cons d ds =>
      obtain ⟨v, rr, rfl, iv, l'⟩ := l
      have hk : c.getD k .non = d := by
        have : c[k]? = some d := by
          have := congrArg (fun z => z[0]?) e
          simpa using this
        simp [List.getD, this]
      obtain ⟨p, C, dx, us, ep, hp, hf', h0, nb, ⟨cc, na⟩, hll, ll⟩ := st.sl i0 _ hG
      refine ⟨v, rr, rfl, .ref p, ep, p, C, dx, ns.zip us, rfl, hp, cc, na _ hm, ?_, ?_⟩
      · rw [List.length_zip, ← hll, Nat.min_self]; exact hz
      · have st2 : StS X.K X.mg fx Hf (upd H p (.ins C dx (putF f v (ns.zip us)))) σ (G.set i0 (.ob (ns ++ [f]) (es0 ++ [d]))) s := by
          refine st.updAt hG rfl ep rfl ⟨p, C, dx, us ++ [v], rfl, ?_, hf', h0, nb, ⟨cc, na⟩, by simp [hll], ll.app (.cons iv .nil)⟩
          rw [upd_same, putF_new hll hf]
        have hi0 : i0 < G.length := (List.getElem?_eq_some_iff.mp hG).1
        refine ih (k + 1) c ds (es0 ++ [d]) rr st2 (List.getElem?_set_self hi0) l' ?_ (by simpa using hl) fun σ' H' st' => q σ' H' ?_
        · have := congrArg (List.drop 1) e
          simpa [List.drop_drop, Nat.add_comm] using this
        · show StS X.K X.mg fx Hf H' σ' (setT i0 _ (k + 1) c (stepT i0 (.fl f) (c.getD k .non) G)) s
          have : stepT i0 (.fl f) (c.getD k .non) G = G.set i0 (.ob (ns ++ [f]) (es0 ++ [d])) := by
            show (match G[i0]? with | some (.ob ns ds) => _ | _ => G) = _
            rw [hG, hk]
          rw [this]; exact st'
end
section
variable {X : Cx} {fx : Fx} {m : Type → Type} [Mo m] {G : List Sl} {α β : Type} {kk : Nat} {e : Expr} {rest : List Stmt} {ex : α → List Sl} {exb : β → List Sl} {pos : Pos} {x : m D}
/-- self.a, y, .. = e -/
theorem dss_unpF {es : List Expr} {kt : Nat} {pt : Pos} {k : List D → m (Fl α β)} {self : Str} {ns : List Str} {es0 : List D} (C : Cok X fx kk) (i0 n : Nat) (ts : List FT) (ht : TgF X fx i0 self es ts ns) (he : PE X e (tE X.K X.mg fx G x)) (hr : ∀ c, PSs X rest (tS X.K X.mg fx (setT i0 ts 0 c G) ex exb (k c)))
    (hG : G[i0]? = some (.ob ns es0) := by rfl) (hn : ts.length = n := by rfl) (hN : X.N[i0]? = some self := by rfl) (hv : Vis X.env.scope self := by first | exact Or.inl rfl | exact Or.inr (Or.inl rfl) | exact Or.inr (Or.inr rfl)) (hd : (self == ("__debug__" : Str)) = false := by decide) (hcd : (self == ("__classdict__" : Str)) = false := by decide)
    (hl : (assignEach es X.env).length = n := by rfl) (hst : (assignEach es X.env).findIdx? (·.1) = none := by rfl)
    (hs : swapsWithSole [.Tuple es kt pt] e pos.line X.env = pure false := by rfl) (hw : swappedStores [.Tuple es kt pt] e X.env = pure none := by rfl) (h1 : (assignEach [.Tuple es kt pt] X.env).map (·.2) = [assign (.Tuple es kt pt) X.env] := by rfl)
    (hgx : GxOk fx G := by first | trivial | repeat' (first | exact True.intro | exact Or.inl rfl | exact Or.inr rfl | refine And.intro ?_ ?_)) :
    PSs X (.Assign [.Tuple es kt pt] e pos :: rest) (tS X.K X.mg fx G ex exb (do let d ← x; let c ← DL.ask (unN n d); k c)) := pssI (pss_cons (ps_asg he (pg_tup C.calm (tgf_pgs C.nd hN hv hd hcd ht) hl hst) hs hw h1) (pss_ex hr)) fun De σ H ⟨Hf, s, h⟩ =>
  ((h.bind hgx).mono fun v H1 ⟨d, Hf1, s1, sb, r, h1⟩ => by
    have w1 := Mo.wp_lift (Mo.wp_bind h1.2)
    cases hu : unN n d with
    | none => rw [hu] at w1; exact w1.elim
    | some c =>
      rw [hu] at w1
      cases d with
      | tup ds =>
        obtain ⟨hz, a, vs, rfl, t, l⟩ := r
        have e' : (if ds.length = n then some ds else none) = some c := hu
        by_cases hd : ds.length = n
        · rw [if_pos hd] at e'
          cases e'
          exact ⟨a, vs, rfl, h1.1.top.sqt t, l.len.symm.trans hd, gt_read ht 0 c c es0 vs h1.1 hG l rfl (hd.trans hn.symm) fun σ' H' st' => ⟨c, Hf1, s1, st', w1⟩⟩
        · rw [if_neg hd] at e'; cases e'
      | _ => cases hu).to
end
section
variable {X : Cx} {fx : Fx} {m : Type → Type} [Mo m] {G : List Sl} {es : List Expr} {pos p : Pos} {ys : m (List D)} {kk j : Nat} {c : Str} {C fI : Addr} {ns : List Str} {g : List D → R (List D)}
/-- C(e, ..), C's __init__ being super().__init__(..) -/
theorem de_makeS {L : Nat → Prop} (Ck : Cok X fx kk) (cn : ClsN X.K X.mg c C) (na : ∀ f ∈ ns, NoAttr X.K C f) (M : Mk X.K C fI) (F : FnP X.prog X.w X.K X.mg X.base j fI [] (spIS X.K X.mg C ns L g)) (ha : PA X es (tA X.K X.mg fx G ys)) (hn : ∀ ds : List D, g ds ≠ .stuck → L (ds.length + 1))
    (hj : j + 1 ≤ kk := by decide) (hg : Gl X c := by rfl) (hdb : (c == ("__debug__" : Str)) = false := by decide)
    (he : ArgHd X.env es := by first | exact True.intro | exact rfl)
    (hpl : ((backTo pos (starEach es X.env)).any (·.1) || (backToKw pos (keywordEach [] X.env)).any (·.1.isNone)) = false := by rfl) :
    PE X (.Call (.Name c p) es [] pos) (tE X.K X.mg fx G (do let ds ← ys; let es ← Mo.lift (g ds); pure (.ins c ns es))) := by
  refine ⟨fun pins s σ H Q I ⟨Hf, s0, h⟩ => ?_⟩
  refine wpAny_Call_Name_kw (ld_glob I hg cn.mg ?_ hdb)
  refine args_run (ks := []) (tk := tNil) M.kp ha pk_nil I ?_ he rfl rfl hpl
  refine (h.bind.mono fun vs H1 ⟨ds, Hf1, s1, sb, r, h1⟩ => ?_).to
  refine ⟨rfl, fun s2 us ws I2 hw rv => ?_⟩
  rw [List.append_nil] at rv
  have hlen : L (ds.length + 1) := hn ds fun z => by
    have w := Mo.wp_lift (Mo.wp_bind h1.2)
    rw [z] at w
    exact w
  exact run_makeP (E := WE fx.W) M F Ck.gd (Ck.rm.mono hj) (passAt Ck.tk σ) I2 hw rv fun x dx hx hdx hne => ⟨make_core cn na hlen r h1 hx hdx hne, x, vs, dx, rfl, upd_same⟩
end
end DL
/-! ### list(zip(a, b)) of two tuples -/
namespace DL
open PySem PySem.Spec PyProof.Rows PySem.Calls L2 RZ
/-! the tracked heap -/
section
variable {X : Cx} {fx : Fx} {m : Type → Type} [Mo m] {G : List Sl} {a b : Expr} {p p2 pos zpos : Pos} {ys : m (List D)}
section
open PySem PySem.Spec PyProof.Rows PySem.Calls L2 RZ
section
variable {prog : Program} {w : World} {A : Around} {E : Value → Shared → Prop} {s : Shared}
/-- a zip of two tuples, k of its pairs given out, all of them still held -/
structure ZpSt (h : Heap) (z TI TO i1 i2 l1 l2 S : Addr) (xs ys : Array Value) (k : Nat) : Prop where
  ti : IsPair h TI (.ref i1) (.ref i2)
  a1 : h.IsTupleIter i1 l1 k
  a2 : h.IsTupleIter i2 l2 k
  b1 : h.IsTuple l1 xs
  b2 : h.IsTuple l2 ys
  st : (IsZip h z TI TO .none ∧ IsPair h TO .none .none) ∨ ∃ T f oT, IsZipHeld h z TI TO T f ∧ h.get? T = some oT ∧ T ≠ z ∧ T ≠ i1 ∧ T ≠ i2 ∧ T ≠ S
structure ZpOff (z TI TO i1 i2 l1 l2 S : Addr) : Prop where
  z : z ≠ S
  TI : TI ≠ S
  TO : TO ≠ S
  i1 : i1 ≠ S
  i2 : i2 ≠ S
  l1 : l1 ≠ S
  l2 : l2 ≠ S
theorem ZpSt.keep {h h' : Heap} {z TI TO i1 i2 l1 l2 S : Addr} {xs ys : Array Value} {k : Nat} (o : ZpOff z TI TO i1 i2 l1 l2 S) (a : ZpSt h z TI TO i1 i2 l1 l2 S xs ys k) (hk : ∀ b o, b ≠ S → h.get? b = some o → h'.get? b = some o) : ZpSt h' z TI TO i1 i2 l1 l2 S xs ys k where
  ti := hk _ _ o.TI a.ti
  a1 := a.a1.at fun u e => hk _ u o.i1 e
  a2 := a.a2.at fun u e => hk _ u o.i2 e
  b1 := a.b1.at fun u e => hk _ u o.l1 e
  b2 := a.b2.at fun u e => hk _ u o.l2 e
  st := a.st.elim (fun ⟨h1, h2⟩ => .inl ⟨hk _ _ o.z h1, hk _ _ o.TO h2⟩) fun ⟨T, f, oT, h1, h2, n1, n2, n3, n4⟩ => .inr ⟨T, f, oT, hk _ _ o.z h1, hk _ _ n4 h2, n1, n2, n3, n4⟩
end
/-- what was built is frozen -/
theorem Ste.freeze {bag : List Addr} {Hf H Hf' H' : Hp} {p : Addr} {o : HO} (e : Ste bag Hf H Hf' H') (at_ : H' p = some o) (no : Hf' p = none) (new : H p = none) : Ste bag Hf H (L2.upd Hf' p o) H' where
  sub := fun a u q => by
    have q' := e.sub a u q
    rw [upd_ne (ne_of_none q' no)]; exact q'
  top := fun a u q => by
    by_cases ap : a = p
    · subst ap; rw [upd_same] at q; cases q; exact at_
    · rw [upd_ne ap] at q; exact e.top a u q
  keep := e.keep
  dom := e.dom
  fresh := fun a u q => by
    by_cases ap : a = p
    · exact .inr (ap ▸ new)
    · rw [upd_ne ap] at q; exact e.fresh a u q
end
end
end DL
/-! ### text.count, text.find; a field set again; what is never reached -/
namespace DL
open PySem PySem.Spec PyProof.Rows L2
section
variable {X : Cx} {fx : Fx} {m : Type → Type} [Mo m] {G : List Sl} {o e : Expr} {pos apos : Pos} {x y : m D}
theorem de_count (ho : PE X o (tE X.K X.mg fx G x)) (he : PE X e (tE X.K X.mg fx G y)) (hs : starEach [e] X.env = [(false, eval e X.env)] := by rfl) (hbase : attributeBase o "count" X.env (eval o X.env) = eval o X.env := by rfl) (hline : (apos.endLine == pos.line) = true := by rfl) :
    PE X (.Call (.Attribute o "count" apos) [e] [] pos) (tE X.K X.mg fx G (do let u ← x; let _ ← DL.ask (strOf u); let v ← y; DL.ask (strM (fun a b => .int (Txt.count ⟨a.toArray⟩ ⟨b.toArray⟩)) u v))) :=
  peI (pe_m1 PySem.F.slot_str_count PySem.F.type_str_count mt_count ho he hs hbase hline) fun σ H Q ⟨Hf, s, h⟩ =>
  (h.bind.mono fun v1 H1 ⟨d1, Hf1, s1, sb1, r1, h1⟩ => by
    have k := Mo.wp_lift (Mo.wp_bind h1.2)
    cases d1 with
    | str S =>
      obtain ⟨rfl, hz1⟩ := r1
      refine ⟨⟨_, rfl⟩, ?_⟩
      have h2 : tX X.K X.mg fx G (fun H d v => Is X.K X.mg H d v) (do let v ← y; DL.ask (strM (fun a b => .int (Txt.count ⟨a.toArray⟩ ⟨b.toArray⟩)) (.str S) v) : m D) Hf1 s1 σ H1 Q := ⟨h1.1, k⟩
      refine (h2.bind.mono fun v2 H2 ⟨d2, Hf2, s2, sb2, r2, h3⟩ => ?_).to
      obtain ⟨d, e, q⟩ := h3.ask
      cases d2 with
      | str T =>
        cases e
        obtain ⟨rfl, _⟩ := r2
        exact ⟨_, _, rfl, rfl, q _ Hf2 H2 (.refl h3.1.top) (is_int _)⟩
      | _ => cases e
    | _ => exact k.elim).to
theorem de_find (ho : PE X o (tE X.K X.mg fx G x)) (he : PE X e (tE X.K X.mg fx G y)) (hs : starEach [e] X.env = [(false, eval e X.env)] := by rfl) (hbase : attributeBase o "find" X.env (eval o X.env) = eval o X.env := by rfl) (hline : (apos.endLine == pos.line) = true := by rfl) :
    PE X (.Call (.Attribute o "find" apos) [e] [] pos) (tE X.K X.mg fx G (do let u ← x; let _ ← DL.ask (strOf u); let v ← y; DL.ask (strM (fun a b => .int (Txt.find ⟨a.toArray⟩ ⟨b.toArray⟩)) u v))) :=
  peI (pe_m1 PySem.F.slot_str_find PySem.F.type_str_find mt_find ho he hs hbase hline) fun σ H Q ⟨Hf, s, h⟩ =>
  (h.bind.mono fun v1 H1 ⟨d1, Hf1, s1, sb1, r1, h1⟩ => by
    have k := Mo.wp_lift (Mo.wp_bind h1.2)
    cases d1 with
    | str S =>
      obtain ⟨rfl, hz1⟩ := r1
      refine ⟨⟨_, rfl⟩, ?_⟩
      have h2 : tX X.K X.mg fx G (fun H d v => Is X.K X.mg H d v) (do let v ← y; DL.ask (strM (fun a b => .int (Txt.find ⟨a.toArray⟩ ⟨b.toArray⟩)) (.str S) v) : m D) Hf1 s1 σ H1 Q := ⟨h1.1, k⟩
      refine (h2.bind.mono fun v2 H2 ⟨d2, Hf2, s2, sb2, r2, h3⟩ => ?_).to
      obtain ⟨d, e, q⟩ := h3.ask
      cases d2 with
      | str T =>
        cases e
        obtain ⟨rfl, _⟩ := r2
        exact ⟨_, _, rfl, rfl, q _ Hf2 H2 (.refl h3.1.top) (is_int _)⟩
      | _ => cases e
    | _ => exact k.elim).to
end
section
variable {X : Cx} {fx : Fx} {m : Type → Type} [Mo m] {G : List Sl} {α β : Type} {kk : Nat} {e : Expr} {rest : List Stmt} {ex : α → List Sl} {exb : β → List Sl} {pos pos' : Pos} {x : m D} {k : D → m (Fl α β)} {f n : Str} {np : Pos} {ns : List Str} {ds : List D}
theorem putF_old {f : Str} {y : V} : ∀ {ns : List Str} {vs : List V} {j : Nat}, ns.length = vs.length → ns.idxOf? f = some j → putF f y (ns.zip vs) = ns.zip (vs.set j y)
  | [], [], _, _, e => by cases e
  | g :: ns, v :: vs, j, hl, e => by
    by_cases h : g = f
    · subst h
      have z : j = 0 := by simpa [List.idxOf?, List.findIdx?_cons] using e.symm
      subst z
      show putF g y ((g, v) :: ns.zip vs) = _
      unfold putF
      rw [if_pos rfl]
      rfl
    · have h2 : (g == f) = false := by simpa using h
      cases j with
      | zero =>
        exfalso
        simp [List.idxOf?, List.findIdx?_cons, h2] at e
      | succ j =>
        have e' : ns.idxOf? f = some j := by
          simp [List.idxOf?, List.findIdx?_cons, h2] at e ⊢
          exact e
        show putF f y ((g, v) :: ns.zip vs) = _
        unfold putF
        rw [if_neg h, putF_old (by simpa using hl) e']
        rfl
  | [], _ :: _, _, hl, _ => by simp at hl
  | _ :: _, [], _, hl, _ => by simp at hl
/-- self.f = e, in __init__, f set before -/
theorem dss_fldS (i j : Nat) (he : PE X e (tE X.K X.mg fx G x)) (hr : ∀ d, PSs X rest (tS X.K X.mg fx (G.set i (.ob ns (ds.set j d))) ex exb (k d))) (hG : G[i]? = some (.ob ns ds) := by rfl) (hN : X.N[i]? = some n := by rfl) (hj : ns.idxOf? f = some j := by decide +kernel) (hm : f ∈ fx.nas := by decide +kernel) (hz : ns.length < 1000 := by decide)
    (hv : Vis X.env.scope n := by first | exact Or.inl rfl | exact Or.inr (Or.inl rfl) | exact Or.inr (Or.inr rfl)) (hd : (n == ("__debug__" : Str)) = false := by decide) (hcd : (n == ("__classdict__" : Str)) = false := by decide)
    (hs : swapsWith e (some (.Attribute (.Name n np) f pos')) pos.line X.env = pure false := by rfl) (hg : GxOk fx G := by first | trivial | repeat' (first | exact True.intro | exact Or.inl rfl | exact Or.inr rfl | refine And.intro ?_ ?_)) :
    PSs X (.Assign [.Attribute (.Name n np) f pos'] e pos :: rest) (tS X.K X.mg fx G ex exb (x >>= k)) := pssI (pss_cons (ps_fld (pe_var hN hv hd hcd) he hs) (pss_ex hr)) fun De σ H ⟨Hf, s, h⟩ =>
  ((h.bind hg).mono fun v H1 ⟨d, Hf1, s1, sb, r, h1⟩ => by
    obtain ⟨p, C, dx, vs, ep, hp, hf', h0, nb, ⟨c, na⟩, hl, l⟩ := h1.1.sl i _ hG
    refine ⟨.ref p, ep, p, C, dx, ns.zip vs, rfl, hp, c, na _ hm, ?_, d, Hf1, s1, ?_, h1.2⟩
    · rw [List.length_zip, ← hl, Nat.min_self]; exact hz
    · refine h1.1.updAt hG rfl ep rfl ⟨p, C, dx, vs.set j v, rfl, ?_, hf', h0, nb, ⟨c, na⟩, by simp [hl], l.set r j⟩
      rw [upd_same, putF_old hl hj]).to
end
/-! calls of defs with keywords and defaults -/
/-! the facts of an __init__ that is super().__init__ -/
section
variable {P : Program} {K : PySem.W.Frag} {mg : Str → Option Value}
theorem supFun_mk {x qual : Str} {st : Stmt} {f fb D cda cc : Addr} {oc : Value} {od an : Option Addr} {osl : Array (Option Value)} {kV doc pm ct : Value} {ccl : Value} {cdd : Option Addr} {vs : Array Value} {ccs : Array (Option Value)} {file : Str} {tf : Tok} {cl : Value} {cld : Option Addr} {csl : Array (Option Value)} {ob : Value} {db : Option Addr} {fdb : FuncData} {sb : Array (Option Value)}
    (l : K.lookup f = some ⟨oc, od, .func (PySem.W.fnX x qual (defArgs st) (defBody st) (defScope st) [("__class__", cc)] .none kV doc pm an (.ref cda) ct), osl⟩) (c : PySem.W.codeIn K (.ref cda) qual = true) (lc : K.lookup cda = some ⟨ccl, cdd, .fields vs, ccs⟩) (hv : vs[2]? = some (.str file tf)) (hf : ((P.main.file : Str) == file) = true)
    (hcc : K.lookup cc = some ⟨cl, cld, .cell (some (.ref D)), csl⟩) (hcls : PySem.W.isClsIn K D = true) (mro : PySem.W.mroIn K D (.ref D) = some true) (sup : mg "super" = none) (top : (P.main.scope.names.lookup ("super" : Str)).isSome = false) (init : PySem.W.ks_superIn K D D "__init__" = some (some (.ref fb))) (ty : PySem.W.typeIn K (.ref fb) = some (.type "function"))
    (lb : K.lookup fb = some ⟨ob, db, .func fdb, sb⟩) (tp : PySem.W.nsIn K cStatics "thirdparty.any" = some none) :
    SupFun P K mg x qual st f fb D (PySem.W.fnX x qual (defArgs st) (defBody st) (defScope st) [("__class__", cc)] .none kV doc pm an (.ref cda) ct) :=
  ⟨⟨oc, od, kV, doc, pm, an, cda, cc, ct, osl, ccl, cdd, vs, ccs, file, tf, cl, cld, csl, rfl, l, c, lc, hv, hf, hcc⟩, Option.isSome_iff_exists.mp hcls, mro, sup, top, init, ty, by unfold PySem.W.fnIn; rw [lb], tp⟩
end
end DL
namespace DL
open PySem PySem.Spec PyProof.Rows L2
/-! an __init__ without defaults, called by names -/
section
variable {P : Program} {w : World} {K : PySem.W.Frag} {mg : Str → Option Value} {base : Heap} {k : Nat} {f : Addr} {fd : FuncData} {ps ks ns : List Str} {g : List D → R (List D)}
theorem FnG.kwJ {n np : Nat} {pk : List Nat} (F : FnG P w K mg base k f fd ps (spI K mg ns (fun l => l = n + 1) g))
    (hb : ∀ us ws : List Value, us.length = np + 1 → ws.length = ks.length → bindArgs fd ⟨us, ks.zip ws⟩ = pure (ps.zip (pickL (0 :: pk.map (· + 1)) (us ++ ws)))) (hl : pk.length = n) (hi : ∀ i ∈ pk, i < np + ks.length) :
    FnP P w K mg base k f ks (spI K mg ns (fun l => l = np + ks.length + 1) (DL.kwI pk [] (np + ks.length) g)) := by
  intro A outer s H us ws vs Q E hg hr e0 hw r hsp
  obtain ⟨h1, x, C, dx, rest, Hf, ds, ev, sb, hf, hx, c, na, l, q⟩ := hsp
  have hlen : us.length + ws.length = np + ks.length + 1 := by
    have := r.length
    rw [List.length_append] at this
    have h1' : vs.length = np + ks.length + 1 := h1
    omega
  have hu : us.length = np + 1 := by omega
  refine F.run A outer s H ⟨us, ks.zip ws⟩ (pickL (0 :: pk.map (· + 1)) (us ++ ws)) (pickL (0 :: pk.map (· + 1)) vs) Q E hg hr e0 (.of_eq (hb us ws hu hw)) (pickL_vals r _) ?_
  have e2 : pickL (0 :: pk.map (· + 1)) vs = .ref x :: pickL pk rest := by
    rw [ev]
    show V.ref x :: pickL (pk.map (· + 1)) (.ref x :: rest) = _
    rw [pickL_up]
  rw [e2]
  have hds : ds.length = np + ks.length := by
    rw [l.len]
    have : (V.ref x :: rest).length = np + ks.length + 1 := by rw [← ev]; exact h1
    simpa using this
  have hrl : rest.length = np + ks.length := by rw [← l.len]; exact hds
  have e3 : DL.kwI pk [] (np + ks.length) g ds = g (pickL pk (ds ++ [])) := if_pos hds
  rw [e3, List.append_nil] at q
  refine ⟨?_, x, C, dx, pickL pk rest, Hf, pickL pk ds, rfl, sb, hf, hx, c, na, pickL_is l pk, q⟩
  show (V.ref x :: pickL pk rest).length = n + 1
  rw [List.length_cons, pickL_len (fun i hi' => by rw [hrl]; exact hi i hi'), hl]
end
/-! text.lstrip(signs) -/
end DL
namespace FN
open DL
def c_ALL_PORTS : D := (.tup [(.int (1)), (.int (65535))])
def c_GAP : D := (.str [42, 42])
def c_HOST : D := (.str [104, 111, 115, 116])
def c_HOST_LIMITS : D := (.tup [(.int (1)), (.int (4)), (.int (3)), (.int (2))])
def c_LONGEST_TEXT : D := (.int (8))
def c_MOST_NEAR : D := (.int (4))
def c_PATH : D := (.str [112, 97, 116, 104])
def c_PATH_LIMITS : D := (.tup [(.int (0)), (.int (3)), (.int (2)), (.int (2))])
def b_is_label_text_206f (a0 : D) : R (Fl Unit Empty) := (do let t22 ← (DL.orM (DL.notM (do let x2 ← (do let x1 ← (pure a0); DL.ask (isiD "str" x1)); DL.ask (truD x2))) (DL.orM (DL.notM (do let x6 ← (chainM leD leD (pure (.int 1)) (do let r5 ← (do let x3 ← (pure a0); let r4 ← pure []; pure (x3 :: r4)); DL.ask (lenD r5)) (pure c_LONGEST_TEXT)); DL.ask (bOf x6))) (do let x9 ← (do let x7 ← (pure a0); let _ ← DL.ask (strOf x7); let y8 ← (pure (.str [42])); DL.ask (strM (fun a b => .int (PySem.Txt.count ⟨a.toArray⟩ ⟨b.toArray⟩)) x7 y8)); let y10 ← (pure (.int 1)); DL.ask ((gtD x9 y10).bind bOf)))); seqF (if t22 = true then (do let v12 ← (pure (.bl false)); pure (.rt v12)) else (pure (.nx ()))) fun (q11 : Unit) => (do let v21 ← (notV (mkL (do let r20 ← (do let r13 ← (pure a0); DL.ask (itD r13)); lcF (fun d => some d) (fun (c15 : D) => (DL.andM (do let x16 ← (pure c15); let y17 ← (pure (.str [42])); DL.ask ((neD x16 y17).bind bOf)) (do let x18 ← (pure c15); let y19 ← (pure c_CHARACTERS); DL.ask ((notInD x18 y19).bind bOf)))) (fun (c15 : D) => (pure c15)) r20))); pure (.rt v21)))
theorem e_is_label_text_206f (a0 : D) : b_is_label_text_206f a0 = (do let t22 ← (DL.orM (DL.notM (do let x2 ← (DL.ask (isiD "str" a0)); DL.ask (truD x2))) (DL.orM (DL.notM (do let x6 ← (chainM leD leD (pure (.int 1)) (DL.ask (lenD [a0])) (pure c_LONGEST_TEXT)); DL.ask (bOf x6))) (do let _ ← DL.ask (strOf a0); let x9 ← (DL.ask (strM (fun a b => .int (PySem.Txt.count ⟨a.toArray⟩ ⟨b.toArray⟩)) a0 (.str [42]))); DL.ask ((gtD x9 (.int 1)).bind bOf)))); seqF (if t22 = true then (pure (.rt (.bl false))) else (pure (.nx ()))) fun (q11 : Unit) => (do let v21 ← (notV (mkL (do let r20 ← (DL.ask (itD a0)); lcF (fun d => some d) (fun (c15 : D) => (DL.andM (DL.ask ((neD c15 (.str [42])).bind bOf)) (DL.ask ((notInD c15 c_CHARACTERS).bind bOf)))) (fun (c15 : D) => (pure c15)) r20))); pure (.rt v21))) := by
  unfold b_is_label_text_206f; simp only [pure_bind, bind_assoc, mkL]
def m_is_label_text_206f : List D → R D := apR1 fun a0 => (runR false (b_is_label_text_206f a0))
theorem n_is_label_text_206f : ∀ ds : List D, m_is_label_text_206f ds ≠ .stuck → ds.length = 1 := apR1_len _
def b__law_fixed_a772 (a0 : D) : R (Fl Unit Empty) := (do let v10 ← (do let r9 ← (do let x7 ← (mkL (do let r6 ← (do let r1 ← (pure a0); DL.ask (itD r1)); lcF (fun d => some d) (fun (c3 : D) => (do let x4 ← (pure (.str [42])); let y5 ← (pure c3); DL.ask ((notInD x4 y5).bind bOf))) (fun (c3 : D) => (pure c3)) r6)); let r8 ← pure []; pure (x7 :: r8)); DL.ask (lenD r9)); pure (.rt v10))
theorem e__law_fixed_a772 (a0 : D) : b__law_fixed_a772 a0 = (do let r6 ← (DL.ask (itD a0)); let x7 ← (lcF (fun d => some d) (fun (c3 : D) => (DL.ask ((notInD (.str [42]) c3).bind bOf))) (fun (c3 : D) => (pure c3)) r6); let v10 ← (DL.ask (lenD [(.lst x7)])); pure (.rt v10)) := by
  unfold b__law_fixed_a772; simp only [pure_bind, bind_assoc, mkL]
def m__law_fixed_a772 : List D → R D := apR1 fun a0 => (runR false (b__law_fixed_a772 a0))
theorem n__law_fixed_a772 : ∀ ds : List D, m__law_fixed_a772 ds ≠ .stuck → ds.length = 1 := apR1_len _
def b_Page_eq_ca54 (a0 a1 : D) : R (Fl Unit Empty) := (do let v6 ← (andV (do let x1 ← (pure a1); DL.ask (isiT [("Page", true), ("HostPattern", false), ("PathPattern", false), ("Rule", false)] noneOfB x1)) (do let x4 ← (do let x2 ← (pure a0); DL.ask (fldD ["Page", "HostPattern", "PathPattern", "Rule"] "text" x2)); let y5 ← (do let x3 ← (pure a1); DL.ask (fldD ["Page", "HostPattern", "PathPattern", "Rule"] "text" x3)); DL.ask (eqD x4 y5))); pure (.rt v6))
def m_Page_eq_ca54 : List D → R D := apR2 fun a0 a1 => (runR false (b_Page_eq_ca54 a0 a1))
def b_Pattern_init_4a0d (a1 a2 a3 : D) : R (Fl (List D) Empty) := (do let t9 ← (do let x1 ← (pure a3); let y2 ← (pure .non); DL.ask ((isD x1 y2).bind bOf)); seqF (if t9 = true then (do let v4 ← (pure a1); raiseX "BadPattern" "pattern" v4) else (pure (.nx ()))) fun (q3 : Unit) => (do let v5 ← (pure a1); (do let v6 ← (pure a2); (do let v7 ← (pure a3); let c8 ← DL.ask (unN 3 v7); (pure (.nx [v5, v6, (c8.getD 0 .non), (c8.getD 1 .non), (c8.getD 2 .non)]))))))
def m_Pattern_init_4a0d : List D → R (List D) := apI3 fun a1 a2 a3 => runI (b_Pattern_init_4a0d a1 a2 a3)
theorem n_Pattern_init_4a0d : ∀ ds : List D, m_Pattern_init_4a0d ds ≠ .stuck → ds.length = 3 := apI3_len _
def b_HostPattern_eq_ad46 (a0 a1 : D) : R (Fl Unit Empty) := (do let v6 ← (andV (do let x1 ← (pure a1); DL.ask (isiT [("Page", false), ("HostPattern", true), ("PathPattern", false), ("Rule", false)] noneOfB x1)) (do let x4 ← (do let x2 ← (pure a0); DL.ask (fldD ["Page", "HostPattern", "PathPattern", "Rule"] "text" x2)); let y5 ← (do let x3 ← (pure a1); DL.ask (fldD ["Page", "HostPattern", "PathPattern", "Rule"] "text" x3)); DL.ask (eqD x4 y5))); pure (.rt v6))
theorem e_HostPattern_eq_ad46 (a0 a1 : D) : b_HostPattern_eq_ad46 a0 a1 = (do let v6 ← (andV (DL.ask (isiT [("Page", false), ("HostPattern", true), ("PathPattern", false), ("Rule", false)] noneOfB a1)) (do let x4 ← (DL.ask (fldD ["Page", "HostPattern", "PathPattern", "Rule"] "text" a0)); let y5 ← (DL.ask (fldD ["Page", "HostPattern", "PathPattern", "Rule"] "text" a1)); DL.ask (eqD x4 y5))); pure (.rt v6)) := by
  unfold b_HostPattern_eq_ad46; simp only [pure_bind, bind_assoc, mkL]
def m_HostPattern_eq_ad46 : List D → R D := apR2 fun a0 a1 => (runR false (b_HostPattern_eq_ad46 a0 a1))
def b_HostPattern_fixed_fb96 (a0 : D) : R (Fl Unit Empty) := (do let v16 ← (do let r15 ← (do let x13 ← (mkL (do let r12 ← (do let r5 ← (do let x3 ← (do let x1 ← (pure a0); DL.ask (fldD ["HostPattern", "PathPattern"] "head" x1)); let y4 ← (do let x2 ← (pure a0); DL.ask (fldD ["HostPattern", "PathPattern"] "tail" x2)); DL.ask (addD x3 y4)); DL.ask (itD r5)); lcF (fun d => some d) (fun (c7 : D) => (do let x10 ← (do let x8 ← (pure c7); let _ ← DL.ask (strOf x8); let y9 ← (pure (.str [42])); DL.ask (strM (fun a b => .int (PySem.Txt.find ⟨a.toArray⟩ ⟨b.toArray⟩)) x8 y9)); let y11 ← (pure (.int 0)); DL.ask ((ltD x10 y11).bind bOf))) (fun (c7 : D) => (pure c7)) r12)); let r14 ← pure []; pure (x13 :: r14)); DL.ask (lenD r15)); pure (.rt v16))
theorem e_HostPattern_fixed_fb96 (a0 : D) : b_HostPattern_fixed_fb96 a0 = (do let x3 ← (DL.ask (fldD ["HostPattern", "PathPattern"] "head" a0)); let y4 ← (DL.ask (fldD ["HostPattern", "PathPattern"] "tail" a0)); let r5 ← (DL.ask (addD x3 y4)); let r12 ← (DL.ask (itD r5)); let x13 ← (lcF (fun d => some d) (fun (c7 : D) => (do let _ ← DL.ask (strOf c7); let x10 ← (DL.ask (strM (fun a b => .int (PySem.Txt.find ⟨a.toArray⟩ ⟨b.toArray⟩)) c7 (.str [42]))); DL.ask ((ltD x10 (.int 0)).bind bOf))) (fun (c7 : D) => (pure c7)) r12); let v16 ← (DL.ask (lenD [(.lst x13)])); pure (.rt v16)) := by
  unfold b_HostPattern_fixed_fb96; simp only [pure_bind, bind_assoc, mkL]
def m_HostPattern_fixed_fb96 : List D → R D := apR1 fun a0 => (runR false (b_HostPattern_fixed_fb96 a0))
def b_PathPattern_eq_f7cd (a0 a1 : D) : R (Fl Unit Empty) := (do let v6 ← (andV (do let x1 ← (pure a1); DL.ask (isiT [("Page", false), ("HostPattern", false), ("PathPattern", true), ("Rule", false)] noneOfB x1)) (do let x4 ← (do let x2 ← (pure a0); DL.ask (fldD ["Page", "HostPattern", "PathPattern", "Rule"] "text" x2)); let y5 ← (do let x3 ← (pure a1); DL.ask (fldD ["Page", "HostPattern", "PathPattern", "Rule"] "text" x3)); DL.ask (eqD x4 y5))); pure (.rt v6))
theorem e_PathPattern_eq_f7cd (a0 a1 : D) : b_PathPattern_eq_f7cd a0 a1 = (do let v6 ← (andV (DL.ask (isiT [("Page", false), ("HostPattern", false), ("PathPattern", true), ("Rule", false)] noneOfB a1)) (do let x4 ← (DL.ask (fldD ["Page", "HostPattern", "PathPattern", "Rule"] "text" a0)); let y5 ← (DL.ask (fldD ["Page", "HostPattern", "PathPattern", "Rule"] "text" a1)); DL.ask (eqD x4 y5))); pure (.rt v6)) := by
  unfold b_PathPattern_eq_f7cd; simp only [pure_bind, bind_assoc, mkL]
def m_PathPattern_eq_f7cd : List D → R D := apR2 fun a0 a1 => (runR false (b_PathPattern_eq_f7cd a0 a1))
def b_PathPattern_fixed_fb96 (a0 : D) : R (Fl Unit Empty) := (do let v16 ← (do let r15 ← (do let x13 ← (mkL (do let r12 ← (do let r5 ← (do let x3 ← (do let x1 ← (pure a0); DL.ask (fldD ["HostPattern", "PathPattern"] "head" x1)); let y4 ← (do let x2 ← (pure a0); DL.ask (fldD ["HostPattern", "PathPattern"] "tail" x2)); DL.ask (addD x3 y4)); DL.ask (itD r5)); lcF (fun d => some d) (fun (c7 : D) => (do let x10 ← (do let x8 ← (pure c7); let _ ← DL.ask (strOf x8); let y9 ← (pure (.str [42])); DL.ask (strM (fun a b => .int (PySem.Txt.find ⟨a.toArray⟩ ⟨b.toArray⟩)) x8 y9)); let y11 ← (pure (.int 0)); DL.ask ((ltD x10 y11).bind bOf))) (fun (c7 : D) => (pure c7)) r12)); let r14 ← pure []; pure (x13 :: r14)); DL.ask (lenD r15)); pure (.rt v16))
theorem e_PathPattern_fixed_fb96 (a0 : D) : b_PathPattern_fixed_fb96 a0 = (do let x3 ← (DL.ask (fldD ["HostPattern", "PathPattern"] "head" a0)); let y4 ← (DL.ask (fldD ["HostPattern", "PathPattern"] "tail" a0)); let r5 ← (DL.ask (addD x3 y4)); let r12 ← (DL.ask (itD r5)); let x13 ← (lcF (fun d => some d) (fun (c7 : D) => (do let _ ← DL.ask (strOf c7); let x10 ← (DL.ask (strM (fun a b => .int (PySem.Txt.find ⟨a.toArray⟩ ⟨b.toArray⟩)) c7 (.str [42]))); DL.ask ((ltD x10 (.int 0)).bind bOf))) (fun (c7 : D) => (pure c7)) r12); let v16 ← (DL.ask (lenD [(.lst x13)])); pure (.rt v16)) := by
  unfold b_PathPattern_fixed_fb96; simp only [pure_bind, bind_assoc, mkL]
def m_PathPattern_fixed_fb96 : List D → R D := apR1 fun a0 => (runR false (b_PathPattern_fixed_fb96 a0))
def b_Rule_is_offer_6fe5 (a0 : D) : R (Fl Unit Empty) := (do let v4 ← (do let x2 ← (do let x1 ← (pure a0); DL.ask (fldD ["Rule"] "sign" x1)); let y3 ← (pure (.str [43])); DL.ask (eqD x2 y3)); pure (.rt v4))
theorem e_Rule_is_offer_6fe5 (a0 : D) : b_Rule_is_offer_6fe5 a0 = (do let x2 ← (DL.ask (fldD ["Rule"] "sign" a0)); let v4 ← (DL.ask (eqD x2 (.str [43]))); pure (.rt v4)) := by
  unfold b_Rule_is_offer_6fe5; simp only [pure_bind, bind_assoc, mkL]
def m_Rule_is_offer_6fe5 : List D → R D := apR1 fun a0 => (runR false (b_Rule_is_offer_6fe5 a0))
def b_Rule_eq_ea23 (a0 a1 : D) : R (Fl Unit Empty) := (do let v6 ← (andV (do let x1 ← (pure a1); DL.ask (isiT [("Page", false), ("HostPattern", false), ("PathPattern", false), ("Rule", true)] noneOfB x1)) (do let x4 ← (do let x2 ← (pure a0); DL.ask (fldD ["Page", "HostPattern", "PathPattern", "Rule"] "text" x2)); let y5 ← (do let x3 ← (pure a1); DL.ask (fldD ["Page", "HostPattern", "PathPattern", "Rule"] "text" x3)); DL.ask (eqD x4 y5))); pure (.rt v6))
theorem e_Rule_eq_ea23 (a0 a1 : D) : b_Rule_eq_ea23 a0 a1 = (do let v6 ← (andV (DL.ask (isiT [("Page", false), ("HostPattern", false), ("PathPattern", false), ("Rule", true)] noneOfB a1)) (do let x4 ← (DL.ask (fldD ["Page", "HostPattern", "PathPattern", "Rule"] "text" a0)); let y5 ← (DL.ask (fldD ["Page", "HostPattern", "PathPattern", "Rule"] "text" a1)); DL.ask (eqD x4 y5))); pure (.rt v6)) := by
  unfold b_Rule_eq_ea23; simp only [pure_bind, bind_assoc, mkL]
def m_Rule_eq_ea23 : List D → R D := apR2 fun a0 a1 => (runR false (b_Rule_eq_ea23 a0 a1))
def b_shape_of_items_2081 (a0 a1 : D) : R (Fl Unit Empty) := (do let v1 ← (pure a1); let c2 ← DL.ask ((unN 4) v1); (do let v3 ← mkL (do let r11 ← (do let r6 ← (do let x4 ← (pure a0); let r5 ← pure []; pure (x4 :: r5)); DL.ask (enumOf r6)); lcF un2 (fun (c8 : D × D) => (do let x9 ← (pure c8.2); let y10 ← (pure c_GAP); DL.ask ((eqD x9 y10).bind bOf))) (fun (c8 : D × D) => (pure c8.1)) r11); (do let t94 ← (DL.orM (do let x15 ← (do let r14 ← (do let x12 ← (pure v3); let r13 ← pure []; pure (x12 :: r13)); DL.ask (lenD r14)); let y16 ← (pure (.int 1)); DL.ask ((gtD x15 y16).bind bOf)) (do let x27 ← (mkL (do let r26 ← (do let r17 ← (pure a0); DL.ask (itD r17)); lcF (fun d => some d) (fun (c19 : D) => (DL.andM (do let x20 ← (pure c19); let y21 ← (pure c_GAP); DL.ask ((neD x20 y21).bind bOf)) (DL.notM (do let x25 ← (do let r24 ← (do let x22 ← (pure c19); let r23 ← pure []; pure (x22 :: r23)); Mo.lift (m_is_label_text_206f r24)); DL.ask (truD x25))))) (fun (c19 : D) => (pure c19)) r26)); DL.ask (truD x27))); seqF (if t94 = true then (do let v29 ← (pure .non); pure (.rt v29)) else (pure (.nx ()))) fun (q28 : Unit) => (do let t93 ← (DL.notM (do let x30 ← (pure v3); DL.ask (truD x30))); seqF (if t93 = true then (do let v49 ← (iteM (do let x35 ← (chainM leD leD (pure (c2.getD 0 .non)) (do let r34 ← (do let x32 ← (pure a0); let r33 ← pure []; pure (x32 :: r33)); DL.ask (lenD r34)) (pure (c2.getD 1 .non))); DL.ask (bOf x35)) (do let r47 ← (do let x45 ← (do let r38 ← (do let x36 ← (pure a0); let r37 ← pure []; pure (x36 :: r37)); DL.ask (tupleD r38)); let r46 ← (do let x43 ← (do let r39 ← pure []; let r40 ← DL.ask (szL r39); pure (.tup r40)); let r44 ← (do let x41 ← (pure (.bl false)); let r42 ← pure []; pure (x41 :: r42)); pure (x43 :: r44)); pure (x45 :: r46)); let r48 ← DL.ask (szL r47); pure (.tup r48)) (pure .non)); pure (.rt v49)) else (pure (.nx ()))) fun (q31 : Unit) => (do let v50 ← (do let r61 ← (do let x59 ← (do let x56 ← (pure a0); let l57 ← (pure none); let u58 ← (do let x54 ← (do let x52 ← (pure v3); let y53 ← (pure (.int 0)); DL.ask (ixD x52 y53)); let i55 ← DL.ask (intOf x54); pure (some i55)); DL.ask (sliceD x56 l57 u58)); let r60 ← pure []; pure (x59 :: r60)); DL.ask (tupleD r61)); let v51 ← (do let r73 ← (do let x71 ← (do let x68 ← (pure a0); let l69 ← (do let x66 ← (do let x64 ← (do let x62 ← (pure v3); let y63 ← (pure (.int 0)); DL.ask (ixD x62 y63)); let y65 ← (pure (.int 1)); DL.ask (addD x64 y65)); let i67 ← DL.ask (intOf x66); pure (some i67)); let u70 ← (pure none); DL.ask (sliceD x68 l69 u70)); let r72 ← pure []; pure (x71 :: r72)); DL.ask (tupleD r73)); (do let v92 ← (iteM (DL.andM (do let x77 ← (do let r76 ← (do let x74 ← (pure v50); let r75 ← pure []; pure (x74 :: r75)); DL.ask (lenD r76)); let y78 ← (pure (c2.getD 2 .non)); DL.ask ((leD x77 y78).bind bOf)) (do let x82 ← (do let r81 ← (do let x79 ← (pure v51); let r80 ← pure []; pure (x79 :: r80)); DL.ask (lenD r81)); let y83 ← (pure (c2.getD 3 .non)); DL.ask ((leD x82 y83).bind bOf))) (do let r90 ← (do let x88 ← (pure v50); let r89 ← (do let x86 ← (pure v51); let r87 ← (do let x84 ← (pure (.bl true)); let r85 ← pure []; pure (x84 :: r85)); pure (x86 :: r87)); pure (x88 :: r89)); let r91 ← DL.ask (szL r90); pure (.tup r91)) (pure .non)); pure (.rt v92)))))))
theorem e_shape_of_items_2081 (a0 a1 : D) : b_shape_of_items_2081 a0 a1 = (do let c2 ← DL.ask ((unN 4) a1); let r11 ← (DL.ask (enumOf [a0])); let v3 ← (lcF un2 (fun (c8 : D × D) => (DL.ask ((eqD c8.2 c_GAP).bind bOf))) (fun (c8 : D × D) => (pure c8.1)) r11); let t94 ← (DL.orM (do let x15 ← (DL.ask (lenD [(.lst v3)])); DL.ask ((gtD x15 (.int 1)).bind bOf)) (do let r26 ← (DL.ask (itD a0)); let x27 ← (lcF (fun d => some d) (fun (c19 : D) => (DL.andM (DL.ask ((neD c19 c_GAP).bind bOf)) (DL.notM (do let x25 ← (Mo.lift (m_is_label_text_206f [c19])); DL.ask (truD x25))))) (fun (c19 : D) => (pure c19)) r26); DL.ask (truD (.lst x27)))); seqF (if t94 = true then (pure (.rt .non)) else (pure (.nx ()))) fun (q28 : Unit) => (do let t93 ← (DL.notM (DL.ask (truD (.lst v3)))); seqF (if t93 = true then (do let v49 ← (iteM (do let x35 ← (chainM leD leD (pure (c2.getD 0 .non)) (DL.ask (lenD [a0])) (pure (c2.getD 1 .non))); DL.ask (bOf x35)) (do let x45 ← (DL.ask (tupleD [a0])); let r40 ← DL.ask (szL []); let r48 ← DL.ask (szL [x45, (.tup r40), (.bl false)]); pure (.tup r48)) (pure .non)); pure (.rt v49)) else (pure (.nx ()))) fun (q31 : Unit) => (do let x54 ← (DL.ask (ixD (.lst v3) (.int 0))); let i55 ← DL.ask (intOf x54); let x59 ← (DL.ask (sliceD a0 none (some i55))); let v50 ← (DL.ask (tupleD [x59])); let x64 ← (DL.ask (ixD (.lst v3) (.int 0))); let x66 ← (DL.ask (addD x64 (.int 1))); let i67 ← DL.ask (intOf x66); let x71 ← (DL.ask (sliceD a0 (some i67) none)); let v51 ← (DL.ask (tupleD [x71])); let v92 ← (iteM (DL.andM (do let x77 ← (DL.ask (lenD [v50])); DL.ask ((leD x77 (c2.getD 2 .non)).bind bOf)) (do let x82 ← (DL.ask (lenD [v51])); DL.ask ((leD x82 (c2.getD 3 .non)).bind bOf))) (do let r91 ← DL.ask (szL [v50, v51, (.bl true)]); pure (.tup r91)) (pure .non)); pure (.rt v92)))) := by
  unfold b_shape_of_items_2081; simp only [pure_bind, bind_assoc, mkL]
def m_shape_of_items_2081 : List D → R D := apR2 fun a0 a1 => (runR false (b_shape_of_items_2081 a0 a1))
theorem n_shape_of_items_2081 : ∀ ds : List D, m_shape_of_items_2081 ds ≠ .stuck → ds.length = 2 := apR2_len _
def b_ports_of_0eba (a0 : D) : R (Fl Unit Empty) := (do let t40 ← (do let x1 ← (pure a0); let y2 ← (pure (.str [42])); DL.ask ((eqD x1 y2).bind bOf)); seqF (if t40 = true then (do let v4 ← (pure c_ALL_PORTS); pure (.rt v4)) else (pure (.nx ()))) fun (q3 : Unit) => (do let v5 ← (do let x7 ← (pure a0); let _ ← DL.ask (strOf x7); let y8 ← (pure (.str [45])); DL.ask (partD x7 y8)); let c6 ← DL.ask (un3 v5); (do let v9 ← (do let r12 ← (do let x10 ← (pure c6.1); let r11 ← pure []; pure (x10 :: r11)); Mo.lift (m_port_of_e04e r12)); (do let v13 ← (iteM (do let x14 ← (pure c6.2.1); let y15 ← (pure (.str [])); DL.ask ((eqD x14 y15).bind bOf)) (pure v9) (do let r18 ← (do let x16 ← (pure c6.2.2); let r17 ← pure []; pure (x16 :: r17)); Mo.lift (m_port_of_e04e r18))); (do let t39 ← (DL.orM (do let x19 ← (pure v9); let y20 ← (pure .non); DL.ask ((isD x19 y20).bind bOf)) (do let x21 ← (pure v13); let y22 ← (pure .non); DL.ask ((isD x21 y22).bind bOf))); seqF (if t39 = true then (do let v24 ← (pure .non); pure (.rt v24)) else (pure (.nx ()))) fun (q23 : Unit) => (do let t38 ← (DL.andM (do let x25 ← (pure c6.2.1); let y26 ← (pure (.str [45])); DL.ask ((eqD x25 y26).bind bOf)) (do let x27 ← (pure v9); let y28 ← (pure v13); DL.ask ((geD x27 y28).bind bOf))); seqF (if t38 = true then (do let v30 ← (pure .non); pure (.rt v30)) else (pure (.nx ()))) fun (q29 : Unit) => (do let v37 ← (do let r35 ← (do let x33 ← (pure v9); let r34 ← (do let x31 ← (pure v13); let r32 ← pure []; pure (x31 :: r32)); pure (x33 :: r34)); let r36 ← DL.ask (szL r35); pure (.tup r36)); pure (.rt v37))))))))
theorem e_ports_of_0eba (a0 : D) : b_ports_of_0eba a0 = (do let t40 ← (DL.ask ((eqD a0 (.str [42])).bind bOf)); seqF (if t40 = true then (pure (.rt c_ALL_PORTS)) else (pure (.nx ()))) fun (q3 : Unit) => (do let _ ← DL.ask (strOf a0); let v5 ← (DL.ask (partD a0 (.str [45]))); let c6 ← DL.ask (un3 v5); let v9 ← (Mo.lift (m_port_of_e04e [c6.1])); let v13 ← (iteM (DL.ask ((eqD c6.2.1 (.str [])).bind bOf)) (pure v9) (Mo.lift (m_port_of_e04e [c6.2.2]))); let t39 ← (DL.orM (DL.ask ((isD v9 .non).bind bOf)) (DL.ask ((isD v13 .non).bind bOf))); seqF (if t39 = true then (pure (.rt .non)) else (pure (.nx ()))) fun (q23 : Unit) => (do let t38 ← (DL.andM (DL.ask ((eqD c6.2.1 (.str [45])).bind bOf)) (DL.ask ((geD v9 v13).bind bOf))); seqF (if t38 = true then (pure (.rt .non)) else (pure (.nx ()))) fun (q29 : Unit) => (do let r36 ← DL.ask (szL [v9, v13]); pure (.rt (.tup r36)))))) := by
  unfold b_ports_of_0eba; simp only [pure_bind, bind_assoc, mkL]
def m_ports_of_0eba : List D → R D := apR1 fun a0 => (runR false (b_ports_of_0eba a0))
theorem n_ports_of_0eba : ∀ ds : List D, m_ports_of_0eba ds ≠ .stuck → ds.length = 1 := apR1_len _
def b__law_of_68b0 (a1 : D) : M (Fl Unit Empty) := (do let v9 ← (do let x7 ← (pure a1); let y8 ← (do let r6 ← (do let x4 ← (do let r3 ← (do let x1 ← (pure a1); let r2 ← pure []; pure (x1 :: r2)); DL.ask (lenD r3)); let r5 ← pure []; pure (x4 :: r5)); m__law_take_4983 r6); DL.ask (ixD x7 y8)); pure (.rt v9))
theorem e__law_of_68b0 (a1 : D) : b__law_of_68b0 a1 = (do let x4 ← (DL.ask (lenD [a1])); let y8 ← (m__law_take_4983 [x4]); let v9 ← (DL.ask (ixD a1 y8)); pure (.rt v9)) := by
  unfold b__law_of_68b0; simp only [pure_bind, bind_assoc, mkL]
def m__law_of_68b0 : List D → M D := apM1 fun a1 => (runM false (b__law_of_68b0 a1))
theorem n__law_of_68b0 : ∀ ds s, m__law_of_68b0 ds s ≠ .stuck → ds.length = 1 := apM1_len _
def b_host_shape_b82b (a0 : D) : R (Fl Unit Empty) := (do let t14 ← (DL.notM (do let x2 ← (do let x1 ← (pure a0); DL.ask (isiD "str" x1)); DL.ask (truD x2))); seqF (if t14 = true then (do let v4 ← (pure .non); pure (.rt v4)) else (pure (.nx ()))) fun (q3 : Unit) => (do let v13 ← (do let r12 ← (do let x10 ← (do let x7 ← (mkL (do let x5 ← (pure a0); let _ ← DL.ask (strOf x5); let y6 ← (pure (.str [46])); DL.ask (splitD x5 y6))); DL.ask (revD x7)); let r11 ← (do let x8 ← (pure c_HOST_LIMITS); let r9 ← pure []; pure (x8 :: r9)); pure (x10 :: r11)); Mo.lift (m_shape_of_items_2081 r12)); pure (.rt v13)))
theorem e_host_shape_b82b (a0 : D) : b_host_shape_b82b a0 = (do let t14 ← (DL.notM (do let x2 ← (DL.ask (isiD "str" a0)); DL.ask (truD x2))); seqF (if t14 = true then (pure (.rt .non)) else (pure (.nx ()))) fun (q3 : Unit) => (do let _ ← DL.ask (strOf a0); let x7 ← (DL.ask (splitD a0 (.str [46]))); let x10 ← (DL.ask (revD (.lst x7))); let v13 ← (Mo.lift (m_shape_of_items_2081 [x10, c_HOST_LIMITS])); pure (.rt v13))) := by
  unfold b_host_shape_b82b; simp only [pure_bind, bind_assoc, mkL]
def m_host_shape_b82b : List D → R D := apR1 fun a0 => (runR false (b_host_shape_b82b a0))
theorem n_host_shape_b82b : ∀ ds : List D, m_host_shape_b82b ds ≠ .stuck → ds.length = 1 := apR1_len _
def b_path_shape_25b3 (a0 : D) : R (Fl Unit Empty) := (do let t24 ← (DL.orM (DL.notM (do let x2 ← (do let x1 ← (pure a0); DL.ask (isiD "str" x1)); DL.ask (truD x2))) (DL.notM (do let x5 ← (do let x3 ← (pure a0); let _ ← DL.ask (strOf x3); let y4 ← (pure (.str [47])); DL.ask (strM (fun a b => .bl (PySem.Txt.startswith ⟨a.toArray⟩ ⟨b.toArray⟩)) x3 y4)); DL.ask (truD x5)))); seqF (if t24 = true then (do let v7 ← (pure .non); pure (.rt v7)) else (pure (.nx ()))) fun (q6 : Unit) => (do let v23 ← (do let r22 ← (do let x20 ← (iteM (do let x8 ← (pure a0); let y9 ← (pure (.str [47])); DL.ask ((neD x8 y9).bind bOf)) (mkL (do let x15 ← (do let x12 ← (pure a0); let l13 ← (do let x10 ← (pure (.int 1)); let i11 ← DL.ask (intOf x10); pure (some i11)); let u14 ← (pure none); DL.ask (sliceD x12 l13 u14)); let _ ← DL.ask (strOf x15); let y16 ← (pure (.str [47])); DL.ask (splitD x15 y16))) (mkL (do let r17 ← pure []; DL.ask (szL r17)))); let r21 ← (do let x18 ← (pure c_PATH_LIMITS); let r19 ← pure []; pure (x18 :: r19)); pure (x20 :: r21)); Mo.lift (m_shape_of_items_2081 r22)); pure (.rt v23)))
theorem e_path_shape_25b3 (a0 : D) : b_path_shape_25b3 a0 = (do let t24 ← (DL.orM (DL.notM (do let x2 ← (DL.ask (isiD "str" a0)); DL.ask (truD x2))) (DL.notM (do let _ ← DL.ask (strOf a0); let x5 ← (DL.ask (strM (fun a b => .bl (PySem.Txt.startswith ⟨a.toArray⟩ ⟨b.toArray⟩)) a0 (.str [47]))); DL.ask (truD x5)))); seqF (if t24 = true then (pure (.rt .non)) else (pure (.nx ()))) fun (q6 : Unit) => (do let x20 ← (iteM (DL.ask ((neD a0 (.str [47])).bind bOf)) (mkL (do let i11 ← DL.ask (intOf (.int 1)); let x15 ← (DL.ask (sliceD a0 (some i11) none)); let _ ← DL.ask (strOf x15); DL.ask (splitD x15 (.str [47])))) (mkL (DL.ask (szL [])))); let v23 ← (Mo.lift (m_shape_of_items_2081 [x20, c_PATH_LIMITS])); pure (.rt v23))) := by
  unfold b_path_shape_25b3; simp only [pure_bind, bind_assoc, mkL]
def m_path_shape_25b3 : List D → R D := apR1 fun a0 => (runR false (b_path_shape_25b3 a0))
theorem n_path_shape_25b3 : ∀ ds : List D, m_path_shape_25b3 ds ≠ .stuck → ds.length = 1 := apR1_len _
def b_rule_parts_d2df (a0 : D) : R (Fl Unit Empty) := (do let t79 ← (DL.orM (DL.notM (do let x2 ← (do let x1 ← (pure a0); DL.ask (isiD "str" x1)); DL.ask (truD x2))) (do let x14 ← (do let x5 ← (pure a0); let l6 ← (pure none); let u7 ← (do let x3 ← (pure (.int 2)); let i4 ← DL.ask (intOf x3); pure (some i4)); DL.ask (sliceD x5 l6 u7)); let y15 ← (do let r12 ← (do let x10 ← (pure (.str [43, 32])); let r11 ← (do let x8 ← (pure (.str [45, 32])); let r9 ← pure []; pure (x8 :: r9)); pure (x10 :: r11)); let r13 ← DL.ask (szL r12); pure (.tup r13)); DL.ask ((notInD x14 y15).bind bOf))); seqF (if t79 = true then (do let v17 ← (pure .non); pure (.rt v17)) else (pure (.nx ()))) fun (q16 : Unit) => (do let v18 ← (do let x25 ← (do let x22 ← (pure a0); let l23 ← (do let x20 ← (pure (.int 2)); let i21 ← DL.ask (intOf x20); pure (some i21)); let u24 ← (pure none); DL.ask (sliceD x22 l23 u24)); let _ ← DL.ask (strOf x25); let y26 ← (pure (.str [58, 47, 47])); DL.ask (partD x25 y26)); let c19 ← DL.ask (un3 v18); (do let t78 ← (DL.orM (do let x27 ← (pure c19.2.1); let y28 ← (pure (.str [])); DL.ask ((eqD x27 y28).bind bOf)) (do let x37 ← (pure c19.1); let y38 ← (do let r35 ← (do let x33 ← (pure (.str [104, 116, 116, 112])); let r34 ← (do let x31 ← (pure (.str [104, 116, 116, 112, 115])); let r32 ← (do let x29 ← (pure (.str [97, 110, 121])); let r30 ← pure []; pure (x29 :: r30)); pure (x31 :: r32)); pure (x33 :: r34)); let r36 ← DL.ask (szL r35); pure (.tup r36)); DL.ask ((notInD x37 y38).bind bOf))); seqF (if t78 = true then (do let v40 ← (pure .non); pure (.rt v40)) else (pure (.nx ()))) fun (q39 : Unit) => (do let v41 ← (do let x43 ← (pure c19.2.2); let _ ← DL.ask (strOf x43); let y44 ← (pure (.str [47])); DL.ask (partD x43 y44)); let c42 ← DL.ask (un3 v41); (do let v45 ← (do let x47 ← (pure c42.1); let _ ← DL.ask (strOf x47); let y48 ← (pure (.str [58])); DL.ask (partD x47 y48)); let c46 ← DL.ask (un3 v45); (do let t77 ← (DL.orM (do let x49 ← (pure c42.2.1); let y50 ← (pure (.str [])); DL.ask ((eqD x49 y50).bind bOf)) (DL.andM (do let x51 ← (pure c46.2.1); let y52 ← (pure (.str [58])); DL.ask ((eqD x51 y52).bind bOf)) (do let x56 ← (do let r55 ← (do let x53 ← (pure c46.2.2); let r54 ← pure []; pure (x53 :: r54)); Mo.lift (m_ports_of_0eba r55)); let y57 ← (pure .non); DL.ask ((isD x56 y57).bind bOf)))); seqF (if t77 = true then (do let v59 ← (pure .non); pure (.rt v59)) else (pure (.nx ()))) fun (q58 : Unit) => (do let v76 ← (do let r74 ← (do let x72 ← (do let x60 ← (pure a0); let y61 ← (pure (.int 0)); DL.ask (ixD x60 y61)); let r73 ← (do let x70 ← (pure c19.1); let r71 ← (do let x68 ← (pure c46.1); let r69 ← (do let x66 ← (pure c46.2.2); let r67 ← (do let x64 ← (do let x62 ← (pure (.str [47])); let y63 ← (pure c42.2.2); DL.ask (addD x62 y63)); let r65 ← pure []; pure (x64 :: r65)); pure (x66 :: r67)); pure (x68 :: r69)); pure (x70 :: r71)); pure (x72 :: r73)); let r75 ← DL.ask (szL r74); pure (.tup r75)); pure (.rt v76))))))))
theorem e_rule_parts_d2df (a0 : D) : b_rule_parts_d2df a0 = (do let t79 ← (DL.orM (DL.notM (do let x2 ← (DL.ask (isiD "str" a0)); DL.ask (truD x2))) (do let i4 ← DL.ask (intOf (.int 2)); let x14 ← (DL.ask (sliceD a0 none (some i4))); let r13 ← DL.ask (szL [(.str [43, 32]), (.str [45, 32])]); DL.ask ((notInD x14 (.tup r13)).bind bOf))); seqF (if t79 = true then (pure (.rt .non)) else (pure (.nx ()))) fun (q16 : Unit) => (do let i21 ← DL.ask (intOf (.int 2)); let x25 ← (DL.ask (sliceD a0 (some i21) none)); let _ ← DL.ask (strOf x25); let v18 ← (DL.ask (partD x25 (.str [58, 47, 47]))); let c19 ← DL.ask (un3 v18); let t78 ← (DL.orM (DL.ask ((eqD c19.2.1 (.str [])).bind bOf)) (do let r36 ← DL.ask (szL [(.str [104, 116, 116, 112]), (.str [104, 116, 116, 112, 115]), (.str [97, 110, 121])]); DL.ask ((notInD c19.1 (.tup r36)).bind bOf))); seqF (if t78 = true then (pure (.rt .non)) else (pure (.nx ()))) fun (q39 : Unit) => (do let _ ← DL.ask (strOf c19.2.2); let v41 ← (DL.ask (partD c19.2.2 (.str [47]))); let c42 ← DL.ask (un3 v41); let _ ← DL.ask (strOf c42.1); let v45 ← (DL.ask (partD c42.1 (.str [58]))); let c46 ← DL.ask (un3 v45); let t77 ← (DL.orM (DL.ask ((eqD c42.2.1 (.str [])).bind bOf)) (DL.andM (DL.ask ((eqD c46.2.1 (.str [58])).bind bOf)) (do let x56 ← (Mo.lift (m_ports_of_0eba [c46.2.2])); DL.ask ((isD x56 .non).bind bOf)))); seqF (if t77 = true then (pure (.rt .non)) else (pure (.nx ()))) fun (q58 : Unit) => (do let x72 ← (DL.ask (ixD a0 (.int 0))); let x64 ← (DL.ask (addD (.str [47]) c42.2.2)); let r75 ← DL.ask (szL [x72, c19.1, c46.1, c46.2.2, x64]); pure (.rt (.tup r75)))))) := by
  unfold b_rule_parts_d2df; simp only [pure_bind, bind_assoc, mkL]
def m_rule_parts_d2df : List D → R D := apR1 fun a0 => (runR false (b_rule_parts_d2df a0))
theorem n_rule_parts_d2df : ∀ ds : List D, m_rule_parts_d2df ds ≠ .stuck → ds.length = 1 := apR1_len _
def b__law_labels_5296 (a1 : D) : M (Fl Unit Empty) := (do let v1 ← (pure (.str [48, 49, 50, 51, 52, 53, 54, 55, 56, 57, 97, 98, 99, 100, 101, 102, 103, 104, 105, 106, 107, 108, 109, 110, 111, 112, 113, 114, 115, 116, 117, 118, 119, 120, 121, 122])); (do let v2 ← (do let r6 ← (do let x4 ← (pure v1); let r5 ← pure []; pure (x4 :: r5)); let r7 ← DL.ask (listD r6); DL.ask (szL r7)); let v3 ← (do let r8 ← pure []; DL.ask (szL r8)); (do let r80 ← (do let r27 ← (do let x25 ← (do let r24 ← (do let x22 ← (mkL (do let r21 ← (do let x19 ← (pure (.int 0)); let r20 ← (do let x17 ← (pure (.int 0)); let r18 ← (do let x15 ← (pure (.int 1)); let r16 ← (do let x13 ← (pure (.int 2)); let r14 ← (do let x11 ← (pure (.int 3)); let r12 ← (do let x9 ← (pure (.int 7)); let r10 ← pure []; pure (x9 :: r10)); pure (x11 :: r12)); pure (x13 :: r14)); pure (x15 :: r16)); pure (x17 :: r18)); pure (x19 :: r20)); DL.ask (szL r21))); let r23 ← pure []; pure (x22 :: r23)); m__law_of_68b0 r24); let r26 ← pure []; pure (x25 :: r26)); DL.ask (rng1 r27)); seqF (forF (fun d => some d) (fun (q28 : D) (c29 : D) => (do let v30 ← (do let x34 ← (pure q28); let y35 ← (do let r33 ← (do let x31 ← (pure v1); let r32 ← pure []; pure (x31 :: r32)); m__law_of_68b0 r33); DL.ask (addD x34 y35)); (pure (.nx v30)))) r80 (.str [])) fun (q36 : D) => (do let v37 ← (do let r45 ← (do let x43 ← (do let x41 ← (do let r40 ← (do let x38 ← (pure q36); let r39 ← pure []; pure (x38 :: r39)); DL.ask (lenD r40)); let y42 ← (pure (.int 1)); DL.ask (addD x41 y42)); let r44 ← pure []; pure (x43 :: r44)); m__law_take_4983 r45); (do let r79 ← (do let r48 ← (do let x46 ← (pure a1); let r47 ← pure []; pure (x46 :: r47)); DL.ask (rng1 r48)); seqF (forF (fun d => some d) (fun (q49 : List D × List D) (c50 : D) => (do let r60 ← (do let j59 ← (do let r58 ← (do let x56 ← (do let w52 ← Mo.noex (do let r55 ← (do let x53 ← (pure (.lst q49.1)); let r54 ← pure []; pure (x53 :: r54)); DL.ask (lenD r55)); DL.ask (flatD w52)); let r57 ← pure []; pure (x56 :: r57)); m__law_take_4983 r58); DL.ask (popI q49.1 j59)); (do let v61 ← (do let x75 ← (do let x68 ← (do let x65 ← (pure q36); let l66 ← (pure none); let u67 ← (do let x63 ← (pure v37); let i64 ← DL.ask (intOf x63); pure (some i64)); DL.ask (sliceD x65 l66 u67)); let y69 ← (pure r60.1); DL.ask (addD x68 y69)); let y76 ← (do let x72 ← (pure q36); let l73 ← (do let x70 ← (pure v37); let i71 ← DL.ask (intOf x70); pure (some i71)); let u74 ← (pure none); DL.ask (sliceD x72 l73 u74)); DL.ask (addD x75 y76)); let v62 ← DL.ask (apd q49.2 v61); (pure (.nx (r60.2, v62)))))) r79 (v2, v3)) fun (q77 : List D × List D) => (do let v78 ← (pure (.lst q77.2)); pure (.rt v78)))))))
theorem e__law_labels_5296 (a1 : D) : b__law_labels_5296 a1 = (do let r7 ← DL.ask (listD [(.str [48, 49, 50, 51, 52, 53, 54, 55, 56, 57, 97, 98, 99, 100, 101, 102, 103, 104, 105, 106, 107, 108, 109, 110, 111, 112, 113, 114, 115, 116, 117, 118, 119, 120, 121, 122])]); let v2 ← (DL.ask (szL r7)); let v3 ← (DL.ask (szL [])); let x22 ← (DL.ask (szL [(.int 0), (.int 0), (.int 1), (.int 2), (.int 3), (.int 7)])); let x25 ← (m__law_of_68b0 [(.lst x22)]); let r80 ← (DL.ask (rng1 [x25])); seqF (forF (fun d => some d) (fun (q28 : D) (c29 : D) => (do let y35 ← (m__law_of_68b0 [(.str [48, 49, 50, 51, 52, 53, 54, 55, 56, 57, 97, 98, 99, 100, 101, 102, 103, 104, 105, 106, 107, 108, 109, 110, 111, 112, 113, 114, 115, 116, 117, 118, 119, 120, 121, 122])]); let v30 ← (DL.ask (addD q28 y35)); (pure (.nx v30)))) r80 (.str [])) fun (q36 : D) => (do let x41 ← (DL.ask (lenD [q36])); let x43 ← (DL.ask (addD x41 (.int 1))); let v37 ← (m__law_take_4983 [x43]); let r79 ← (DL.ask (rng1 [a1])); seqF (forF (fun d => some d) (fun (q49 : List D × List D) (c50 : D) => (do let w52 ← Mo.noex (DL.ask (lenD [(.lst q49.1)])); let x56 ← (DL.ask (flatD w52)); let j59 ← (m__law_take_4983 [x56]); let r60 ← (DL.ask (popI q49.1 j59)); let i64 ← DL.ask (intOf v37); let x68 ← (DL.ask (sliceD q36 none (some i64))); let x75 ← (DL.ask (addD x68 r60.1)); let i71 ← DL.ask (intOf v37); let y76 ← (DL.ask (sliceD q36 (some i71) none)); let v61 ← (DL.ask (addD x75 y76)); let v62 ← DL.ask (apd q49.2 v61); (pure (.nx (r60.2, v62))))) r79 (v2, v3)) fun (q77 : List D × List D) => (pure (.rt (.lst q77.2))))) := by
  unfold b__law_labels_5296; simp only [pure_bind, bind_assoc, mkL]
def m__law_labels_5296 : List D → M D := apM1 fun a1 => (runM false (b__law_labels_5296 a1))
theorem n__law_labels_5296 : ∀ ds s, m__law_labels_5296 ds s ≠ .stuck → ds.length = 1 := apM1_len _
def b__law_item_9905 (a1 : D) : M (Fl Unit Empty) := (do let v1 ← (do let x8 ← (do let r5 ← (do let x3 ← (pure a1); let r4 ← pure []; pure (x3 :: r4)); m__law_of_68b0 r5); let l9 ← (pure none); let u10 ← (do let x6 ← (pure (.int 8)); let i7 ← DL.ask (intOf x6); pure (some i7)); DL.ask (sliceD x8 l9 u10)); let v2 ← (do let r13 ← (do let x11 ← (pure (.int 8)); let r12 ← pure []; pure (x11 :: r12)); m__law_take_4983 r13); (do let v14 ← (do let r22 ← (do let x20 ← (do let x18 ← (do let r17 ← (do let x15 ← (pure v1); let r16 ← pure []; pure (x15 :: r16)); DL.ask (lenD r17)); let y19 ← (pure (.int 1)); DL.ask (addD x18 y19)); let r21 ← pure []; pure (x20 :: r21)); m__law_take_4983 r22); (do let t91 ← (do let x23 ← (pure v2); let y24 ← (pure (.int 4)); DL.ask ((ltD x23 y24).bind bOf)); seqF (if t91 = true then (do let v26 ← (pure v1); pure (.rt v26)) else (pure (.nx ()))) fun (q25 : Unit) => (do let t90 ← (do let x27 ← (pure v2); let y28 ← (pure (.int 4)); DL.ask ((eqD x27 y28).bind bOf)); seqF (if t90 = true then (do let v30 ← (pure (.str [42])); pure (.rt v30)) else (pure (.nx ()))) fun (q29 : Unit) => (do let t89 ← (do let x31 ← (pure v2); let y32 ← (pure (.int 5)); DL.ask ((eqD x31 y32).bind bOf)); seqF (if t89 = true then (do let v46 ← (do let x44 ← (do let x41 ← (pure v1); let l42 ← (pure none); let u43 ← (do let x39 ← (do let r38 ← (do let x36 ← (pure v14); let r37 ← (do let x34 ← (pure (.int 7)); let r35 ← pure []; pure (x34 :: r35)); pure (x36 :: r37)); DL.ask (minD r38)); let i40 ← DL.ask (intOf x39); pure (some i40)); DL.ask (sliceD x41 l42 u43)); let y45 ← (pure (.str [42])); DL.ask (addD x44 y45)); pure (.rt v46)) else (pure (.nx ()))) fun (q33 : Unit) => (do let t88 ← (do let x47 ← (pure v2); let y48 ← (pure (.int 6)); DL.ask ((eqD x47 y48).bind bOf)); seqF (if t88 = true then (do let v67 ← (do let x65 ← (pure (.str [42])); let y66 ← (do let x62 ← (pure v1); let l63 ← (do let x60 ← (do let r59 ← (do let x57 ← (pure v14); let r58 ← (do let x55 ← (do let x53 ← (do let r52 ← (do let x50 ← (pure v1); let r51 ← pure []; pure (x50 :: r51)); DL.ask (lenD r52)); let y54 ← (pure (.int 7)); DL.ask (subD x53 y54)); let r56 ← pure []; pure (x55 :: r56)); pure (x57 :: r58)); DL.ask (maxD r59)); let i61 ← DL.ask (intOf x60); pure (some i61)); let u64 ← (pure none); DL.ask (sliceD x62 l63 u64)); DL.ask (addD x65 y66)); pure (.rt v67)) else (pure (.nx ()))) fun (q49 : Unit) => (do let v87 ← (do let x85 ← (do let x73 ← (do let x70 ← (pure v1); let l71 ← (pure none); let u72 ← (do let x68 ← (pure (.int 1)); let i69 ← DL.ask (intOf x68); pure (some i69)); DL.ask (sliceD x70 l71 u72)); let y74 ← (pure (.str [42])); DL.ask (addD x73 y74)); let y86 ← (do let x82 ← (pure v1); let l83 ← (do let x80 ← (do let x78 ← (do let r77 ← (do let x75 ← (pure v1); let r76 ← pure []; pure (x75 :: r76)); DL.ask (lenD r77)); let y79 ← (pure (.int 1)); DL.ask (subD x78 y79)); let i81 ← DL.ask (intOf x80); pure (some i81)); let u84 ← (pure none); DL.ask (sliceD x82 l83 u84)); DL.ask (addD x85 y86)); pure (.rt v87))))))))
theorem e__law_item_9905 (a1 : D) : b__law_item_9905 a1 = (do let x8 ← (m__law_of_68b0 [a1]); let i7 ← DL.ask (intOf (.int 8)); let v1 ← (DL.ask (sliceD x8 none (some i7))); let v2 ← (m__law_take_4983 [(.int 8)]); let x18 ← (DL.ask (lenD [v1])); let x20 ← (DL.ask (addD x18 (.int 1))); let v14 ← (m__law_take_4983 [x20]); let t91 ← (DL.ask ((ltD v2 (.int 4)).bind bOf)); seqF (if t91 = true then (pure (.rt v1)) else (pure (.nx ()))) fun (q25 : Unit) => (do let t90 ← (DL.ask ((eqD v2 (.int 4)).bind bOf)); seqF (if t90 = true then (pure (.rt (.str [42]))) else (pure (.nx ()))) fun (q29 : Unit) => (do let t89 ← (DL.ask ((eqD v2 (.int 5)).bind bOf)); seqF (if t89 = true then (do let x39 ← (DL.ask (minD [v14, (.int 7)])); let i40 ← DL.ask (intOf x39); let x44 ← (DL.ask (sliceD v1 none (some i40))); let v46 ← (DL.ask (addD x44 (.str [42]))); pure (.rt v46)) else (pure (.nx ()))) fun (q33 : Unit) => (do let t88 ← (DL.ask ((eqD v2 (.int 6)).bind bOf)); seqF (if t88 = true then (do let x53 ← (DL.ask (lenD [v1])); let x55 ← (DL.ask (subD x53 (.int 7))); let x60 ← (DL.ask (maxD [v14, x55])); let i61 ← DL.ask (intOf x60); let y66 ← (DL.ask (sliceD v1 (some i61) none)); let v67 ← (DL.ask (addD (.str [42]) y66)); pure (.rt v67)) else (pure (.nx ()))) fun (q49 : Unit) => (do let i69 ← DL.ask (intOf (.int 1)); let x73 ← (DL.ask (sliceD v1 none (some i69))); let x85 ← (DL.ask (addD x73 (.str [42]))); let x78 ← (DL.ask (lenD [v1])); let x80 ← (DL.ask (subD x78 (.int 1))); let i81 ← DL.ask (intOf x80); let y86 ← (DL.ask (sliceD v1 (some i81) none)); let v87 ← (DL.ask (addD x85 y86)); pure (.rt v87)))))) := by
  unfold b__law_item_9905; simp only [pure_bind, bind_assoc, mkL]
def m__law_item_9905 : List D → M D := apM1 fun a1 => (runM false (b__law_item_9905 a1))
theorem n__law_item_9905 : ∀ ds s, m__law_item_9905 ds s ≠ .stuck → ds.length = 1 := apM1_len _
def b__law_ports_a185 : M (Fl Unit Empty) := (do let v1 ← (do let r5 ← (do let x3 ← (pure (.int 6)); let r4 ← pure []; pure (x3 :: r4)); m__law_take_4983 r5); let v2 ← (do let r30 ← (do let x28 ← (mkL (do let r27 ← (do let x25 ← (pure (.int 1)); let r26 ← (do let x23 ← (pure (.int 79)); let r24 ← (do let x21 ← (pure (.int 80)); let r22 ← (do let x19 ← (pure (.int 442)); let r20 ← (do let x17 ← (pure (.int 443)); let r18 ← (do let x15 ← (pure (.int 8080)); let r16 ← (do let x13 ← (pure (.int 65534)); let r14 ← (do let x11 ← (do let x9 ← (pure (.int 1)); let y10 ← (do let r8 ← (do let x6 ← (pure (.int 65534)); let r7 ← pure []; pure (x6 :: r7)); m__law_take_4983 r8); DL.ask (addD x9 y10)); let r12 ← pure []; pure (x11 :: r12)); pure (x13 :: r14)); pure (x15 :: r16)); pure (x17 :: r18)); pure (x19 :: r20)); pure (x21 :: r22)); pure (x23 :: r24)); pure (x25 :: r26)); DL.ask (szL r27))); let r29 ← pure []; pure (x28 :: r29)); m__law_of_68b0 r30); (do let t123 ← (do let x31 ← (pure v1); let y32 ← (pure (.int 2)); DL.ask ((ltD x31 y32).bind bOf)); seqF (if t123 = true then (do let v40 ← (do let r38 ← (do let x36 ← (pure (.str [])); let r37 ← (do let x34 ← (pure .non); let r35 ← pure []; pure (x34 :: r35)); pure (x36 :: r37)); let r39 ← DL.ask (szL r38); pure (.tup r39)); pure (.rt v40)) else (pure (.nx ()))) fun (q33 : Unit) => (do let t122 ← (do let x41 ← (pure v1); let y42 ← (pure (.int 2)); DL.ask ((eqD x41 y42).bind bOf)); seqF (if t122 = true then (do let v56 ← (do let r54 ← (do let x52 ← (pure (.str [58, 42])); let r53 ← (do let x50 ← (do let r48 ← (do let x46 ← (pure (.int 1)); let r47 ← (do let x44 ← (pure (.int 65535)); let r45 ← pure []; pure (x44 :: r45)); pure (x46 :: r47)); let r49 ← DL.ask (szL r48); pure (.tup r49)); let r51 ← pure []; pure (x50 :: r51)); pure (x52 :: r53)); let r55 ← DL.ask (szL r54); pure (.tup r55)); pure (.rt v56)) else (pure (.nx ()))) fun (q43 : Unit) => (do let t121 ← (do let x57 ← (pure v1); let y58 ← (pure (.int 3)); DL.ask ((eqD x57 y58).bind bOf)); seqF (if t121 = true then (do let v60 ← (do let x64 ← (pure v2); let y65 ← (do let r63 ← (do let x61 ← (pure (.int 2)); let r62 ← pure []; pure (x61 :: r62)); m__law_take_4983 r63); DL.ask (addD x64 y65)); (do let v83 ← (do let r81 ← (do let x79 ← (do let x69 ← (pure (.str [58])); let y70 ← (do let r68 ← (do let x66 ← (pure v60); let r67 ← pure []; pure (x66 :: r67)); DL.ask (strD r68)); DL.ask (addD x69 y70)); let r80 ← (do let x77 ← (do let r75 ← (do let x73 ← (pure v60); let r74 ← (do let x71 ← (pure v60); let r72 ← pure []; pure (x71 :: r72)); pure (x73 :: r74)); let r76 ← DL.ask (szL r75); pure (.tup r76)); let r78 ← pure []; pure (x77 :: r78)); pure (x79 :: r80)); let r82 ← DL.ask (szL r81); pure (.tup r82)); pure (.rt v83))) else (pure (.nx v2))) fun (q59 : D) => (do let v84 ← (do let x94 ← (do let x85 ← (pure q59); let y86 ← (pure (.int 1)); DL.ask (addD x85 y86)); let y95 ← (iteM (do let x87 ← (pure v1); let y88 ← (pure (.int 4)); DL.ask ((eqD x87 y88).bind bOf)) (do let r93 ← (do let x91 ← (do let x89 ← (pure (.int 65535)); let y90 ← (pure q59); DL.ask (subD x89 y90)); let r92 ← pure []; pure (x91 :: r92)); m__law_take_4983 r93) (pure (.int 0))); DL.ask (addD x94 y95)); (do let v120 ← (do let r118 ← (do let x116 ← (do let x106 ← (do let x101 ← (do let x99 ← (pure (.str [58])); let y100 ← (do let r98 ← (do let x96 ← (pure q59); let r97 ← pure []; pure (x96 :: r97)); DL.ask (strD r98)); DL.ask (addD x99 y100)); let y102 ← (pure (.str [45])); DL.ask (addD x101 y102)); let y107 ← (do let r105 ← (do let x103 ← (pure v84); let r104 ← pure []; pure (x103 :: r104)); DL.ask (strD r105)); DL.ask (addD x106 y107)); let r117 ← (do let x114 ← (do let r112 ← (do let x110 ← (pure q59); let r111 ← (do let x108 ← (pure v84); let r109 ← pure []; pure (x108 :: r109)); pure (x110 :: r111)); let r113 ← DL.ask (szL r112); pure (.tup r113)); let r115 ← pure []; pure (x114 :: r115)); pure (x116 :: r117)); let r119 ← DL.ask (szL r118); pure (.tup r119)); pure (.rt v120)))))))
theorem e__law_ports_a185 : b__law_ports_a185 = (do let v1 ← (m__law_take_4983 [(.int 6)]); let y10 ← (m__law_take_4983 [(.int 65534)]); let x11 ← (DL.ask (addD (.int 1) y10)); let x28 ← (DL.ask (szL [(.int 1), (.int 79), (.int 80), (.int 442), (.int 443), (.int 8080), (.int 65534), x11])); let v2 ← (m__law_of_68b0 [(.lst x28)]); let t123 ← (DL.ask ((ltD v1 (.int 2)).bind bOf)); seqF (if t123 = true then (do let r39 ← DL.ask (szL [(.str []), .non]); pure (.rt (.tup r39))) else (pure (.nx ()))) fun (q33 : Unit) => (do let t122 ← (DL.ask ((eqD v1 (.int 2)).bind bOf)); seqF (if t122 = true then (do let r49 ← DL.ask (szL [(.int 1), (.int 65535)]); let r55 ← DL.ask (szL [(.str [58, 42]), (.tup r49)]); pure (.rt (.tup r55))) else (pure (.nx ()))) fun (q43 : Unit) => (do let t121 ← (DL.ask ((eqD v1 (.int 3)).bind bOf)); seqF (if t121 = true then (do let y65 ← (m__law_take_4983 [(.int 2)]); let v60 ← (DL.ask (addD v2 y65)); let y70 ← (DL.ask (strD [v60])); let x79 ← (DL.ask (addD (.str [58]) y70)); let r76 ← DL.ask (szL [v60, v60]); let r82 ← DL.ask (szL [x79, (.tup r76)]); pure (.rt (.tup r82))) else (pure (.nx v2))) fun (q59 : D) => (do let x94 ← (DL.ask (addD q59 (.int 1))); let y95 ← (iteM (DL.ask ((eqD v1 (.int 4)).bind bOf)) (do let x91 ← (DL.ask (subD (.int 65535) q59)); m__law_take_4983 [x91]) (pure (.int 0))); let v84 ← (DL.ask (addD x94 y95)); let y100 ← (DL.ask (strD [q59])); let x101 ← (DL.ask (addD (.str [58]) y100)); let x106 ← (DL.ask (addD x101 (.str [45]))); let y107 ← (DL.ask (strD [v84])); let x116 ← (DL.ask (addD x106 y107)); let r113 ← DL.ask (szL [q59, v84]); let r119 ← DL.ask (szL [x116, (.tup r113)]); pure (.rt (.tup r119)))))) := by
  unfold b__law_ports_a185; simp only [pure_bind, bind_assoc, mkL]
def m__law_ports_a185 : List D → M D := apM0 (runM false (b__law_ports_a185))
theorem n__law_ports_a185 : ∀ ds s, m__law_ports_a185 ds s ≠ .stuck → ds.length = 0 := apM0_len _
def b_Rule_closeness_3470 (a0 : D) : R (Fl Unit Empty) := (do let v1 ← (iteM (do let x3 ← (do let x2 ← (pure a0); DL.ask (fldD ["Page", "Rule"] "host" x2)); let y4 ← (pure .non); DL.ask ((isD x3 y4).bind bOf)) (pure (.int 1)) (do let x6 ← (do let x5 ← (pure a0); DL.ask (fldD ["Page", "Rule"] "host" x5)); Mo.lift (attrD [] [("HostPattern", m_HostPattern_fixed_fb96), ("PathPattern", m_PathPattern_fixed_fb96)] "fixed" x6))); (do let v7 ← (orV (do let x9 ← (do let x8 ← (pure a0); DL.ask (fldD ["Rule"] "ports" x8)); let y10 ← (pure .non); DL.ask (isD x9 y10)) (do let x17 ← (do let x12 ← (do let x11 ← (pure a0); DL.ask (fldD ["Rule"] "ports" x11)); let y13 ← (pure (.int 0)); DL.ask (ixD x12 y13)); let y18 ← (do let x15 ← (do let x14 ← (pure a0); DL.ask (fldD ["Rule"] "ports" x14)); let y16 ← (pure (.int 1)); DL.ask (ixD x15 y16)); DL.ask (eqD x17 y18))); (do let v30 ← (do let r28 ← (do let x26 ← (pure v1); let r27 ← (do let x24 ← (do let x20 ← (do let x19 ← (pure a0); DL.ask (fldD ["Page", "Rule"] "path" x19)); Mo.lift (attrD [] [("HostPattern", m_HostPattern_fixed_fb96), ("PathPattern", m_PathPattern_fixed_fb96)] "fixed" x20)); let r25 ← (do let x22 ← (iteM (do let x21 ← (pure v7); DL.ask (truD x21)) (pure (.int 1)) (pure (.int 0))); let r23 ← pure []; pure (x22 :: r23)); pure (x24 :: r25)); pure (x26 :: r27)); let r29 ← DL.ask (szL r28); pure (.tup r29)); pure (.rt v30))))
theorem e_Rule_closeness_3470 (a0 : D) : b_Rule_closeness_3470 a0 = (do let v1 ← (iteM (do let x3 ← (DL.ask (fldD ["Page", "Rule"] "host" a0)); DL.ask ((isD x3 .non).bind bOf)) (pure (.int 1)) (do let x6 ← (DL.ask (fldD ["Page", "Rule"] "host" a0)); Mo.lift (attrD [] [("HostPattern", m_HostPattern_fixed_fb96), ("PathPattern", m_PathPattern_fixed_fb96)] "fixed" x6))); let v7 ← (orV (do let x9 ← (DL.ask (fldD ["Rule"] "ports" a0)); DL.ask (isD x9 .non)) (do let x12 ← (DL.ask (fldD ["Rule"] "ports" a0)); let x17 ← (DL.ask (ixD x12 (.int 0))); let x15 ← (DL.ask (fldD ["Rule"] "ports" a0)); let y18 ← (DL.ask (ixD x15 (.int 1))); DL.ask (eqD x17 y18))); let x20 ← (DL.ask (fldD ["Page", "Rule"] "path" a0)); let x24 ← (Mo.lift (attrD [] [("HostPattern", m_HostPattern_fixed_fb96), ("PathPattern", m_PathPattern_fixed_fb96)] "fixed" x20)); let x22 ← (iteM (DL.ask (truD v7)) (pure (.int 1)) (pure (.int 0))); let r29 ← DL.ask (szL [v1, x24, x22]); pure (.rt (.tup r29))) := by
  unfold b_Rule_closeness_3470; simp only [pure_bind, bind_assoc, mkL]
def m_Rule_closeness_3470 : List D → R D := apR1 fun a0 => (runR false (b_Rule_closeness_3470 a0))
def b_near_of_fb19 (a0 : D) : R (Fl Unit Empty) := (do let v1 ← (do let r6 ← (do let x4 ← (mkL (do let x2 ← (pure a0); let _ ← DL.ask (strOf x2); let y3 ← (pure (.str [46])); DL.ask (splitD x2 y3))); let r5 ← pure []; pure (x4 :: r5)); DL.ask (tupleD r6)); (do let v16 ← (iteM (DL.andM (do let x10 ← (do let r9 ← (do let x7 ← (pure v1); let r8 ← pure []; pure (x7 :: r8)); Mo.lift (m_is_host_45ba r9)); DL.ask (truD x10)) (do let x14 ← (do let r13 ← (do let x11 ← (pure v1); let r12 ← pure []; pure (x11 :: r12)); DL.ask (lenD r13)); let y15 ← (pure c_MOST_NEAR); DL.ask ((leD x14 y15).bind bOf))) (pure v1) (pure .non)); pure (.rt v16)))
theorem e_near_of_fb19 (a0 : D) : b_near_of_fb19 a0 = (do let _ ← DL.ask (strOf a0); let x4 ← (DL.ask (splitD a0 (.str [46]))); let v1 ← (DL.ask (tupleD [(.lst x4)])); let v16 ← (iteM (DL.andM (do let x10 ← (Mo.lift (m_is_host_45ba [v1])); DL.ask (truD x10)) (do let x14 ← (DL.ask (lenD [v1])); DL.ask ((leD x14 c_MOST_NEAR).bind bOf))) (pure v1) (pure .non)); pure (.rt v16)) := by
  unfold b_near_of_fb19; simp only [pure_bind, bind_assoc, mkL]
def m_near_of_fb19 : List D → R D := apR1 fun a0 => (runR false (b_near_of_fb19 a0))
theorem n_near_of_fb19 : ∀ ds : List D, m_near_of_fb19 ds ≠ .stuck → ds.length = 1 := apR1_len _
def b__law_some_353f (a1 a2 : D) : M (Fl Unit Empty) := (do let v15 ← (mkL (do let r14 ← (do let r8 ← (do let x6 ← (do let r5 ← (do let x3 ← (do let x1 ← (pure a2); let y2 ← (pure (.int 1)); DL.ask (addD x1 y2)); let r4 ← pure []; pure (x3 :: r4)); m__law_take_4983 r5); let r7 ← pure []; pure (x6 :: r7)); DL.ask (rng1 r8)); lcF (fun d => some d) (fun (c10 : D) => pure true) (fun (c10 : D) => (do let r13 ← (do let x11 ← (pure a1); let r12 ← pure []; pure (x11 :: r12)); m__law_item_9905 r13)) r14)); pure (.rt v15))
theorem e__law_some_353f (a1 a2 : D) : b__law_some_353f a1 a2 = (do let x3 ← (DL.ask (addD a2 (.int 1))); let x6 ← (m__law_take_4983 [x3]); let r14 ← (DL.ask (rng1 [x6])); let v15 ← (lcF (fun d => some d) (fun (c10 : D) => pure true) (fun (c10 : D) => (m__law_item_9905 [a1])) r14); pure (.rt (.lst v15))) := by
  unfold b__law_some_353f; simp only [pure_bind, bind_assoc, mkL]
def m__law_some_353f : List D → M D := apM2 fun a1 a2 => (runM false (b__law_some_353f a1 a2))
theorem n__law_some_353f : ∀ ds s, m__law_some_353f ds s ≠ .stuck → ds.length = 2 := apM2_len _
def m_HostPattern_init_23dd : List D → R (List D) := apI1 fun a1 => (do let z10 ← (do let x8 ← (pure a1); let r9 ← (do let x6 ← (pure c_HOST); let r7 ← (do let x4 ← (do let r3 ← (do let x1 ← (pure a1); let r2 ← pure []; pure (x1 :: r2)); Mo.lift (m_host_shape_b82b r3)); let r5 ← pure []; pure (x4 :: r5)); pure (x6 :: r7)); pure (x8 :: r9)); m_Pattern_init_4a0d z10)
theorem n_HostPattern_init_23dd : ∀ ds : List D, m_HostPattern_init_23dd ds ≠ .stuck → ds.length = 1 := apI1_len _
def m_PathPattern_init_28de : List D → R (List D) := apI1 fun a1 => (do let z10 ← (do let x8 ← (pure a1); let r9 ← (do let x6 ← (pure c_PATH); let r7 ← (do let x4 ← (do let r3 ← (do let x1 ← (pure a1); let r2 ← pure []; pure (x1 :: r2)); Mo.lift (m_path_shape_25b3 r3)); let r5 ← pure []; pure (x4 :: r5)); pure (x6 :: r7)); pure (x8 :: r9)); m_Pattern_init_4a0d z10)
theorem n_PathPattern_init_28de : ∀ ds : List D, m_PathPattern_init_28de ds ≠ .stuck → ds.length = 1 := apI1_len _
def b__law_host_part_4860 (a1 : D) : M (Fl Unit Empty) := (do let v1 ← (do let r4 ← (do let x2 ← (pure (.int 5)); let r3 ← pure []; pure (x2 :: r3)); m__law_take_4983 r4); (do let t81 ← (do let x5 ← (pure v1); let y6 ← (pure (.int 0)); DL.ask ((eqD x5 y6).bind bOf)); seqF (if t81 = true then (do let v31 ← (do let r29 ← (do let x27 ← (pure (.str [126])); let r28 ← (do let x25 ← (do let r24 ← (do let x22 ← (mkL (do let r21 ← (do let r15 ← (do let x13 ← (do let x11 ← (pure (.int 1)); let y12 ← (do let r10 ← (do let x8 ← (pure (.int 4)); let r9 ← pure []; pure (x8 :: r9)); m__law_take_4983 r10); DL.ask (addD x11 y12)); let r14 ← pure []; pure (x13 :: r14)); DL.ask (rng1 r15)); lcF (fun d => some d) (fun (c17 : D) => pure true) (fun (c17 : D) => (do let r20 ← (do let x18 ← (pure a1); let r19 ← pure []; pure (x18 :: r19)); m__law_of_68b0 r20)) r21)); let r23 ← pure []; pure (x22 :: r23)); DL.ask (tupleD r24)); let r26 ← pure []; pure (x25 :: r26)); pure (x27 :: r28)); let r30 ← DL.ask (szL r29); pure (.tup r30)); pure (.rt v31)) else (pure (.nx ()))) fun (q7 : Unit) => (do let t80 ← (do let x32 ← (pure v1); let y33 ← (pure (.int 3)); DL.ask ((ltD x32 y33).bind bOf)); seqF (if t80 = true then (do let v54 ← (do let r52 ← (do let x50 ← (pure (.str [])); let r51 ← (do let x48 ← (do let x46 ← (mkL (do let r40 ← (do let x38 ← (do let r37 ← (do let x35 ← (pure a1); let r36 ← pure []; pure (x35 :: r36)); m__law_item_9905 r37); let r39 ← pure []; pure (x38 :: r39)); DL.ask (szL r40))); let y47 ← (do let r45 ← (do let x43 ← (pure a1); let r44 ← (do let x41 ← (pure (.int 3)); let r42 ← pure []; pure (x41 :: r42)); pure (x43 :: r44)); m__law_some_353f r45); DL.ask (addD x46 y47)); let r49 ← pure []; pure (x48 :: r49)); pure (x50 :: r51)); let r53 ← DL.ask (szL r52); pure (.tup r53)); pure (.rt v54)) else (pure (.nx ()))) fun (q34 : Unit) => (do let v55 ← (do let r60 ← (do let x58 ← (pure a1); let r59 ← (do let x56 ← (pure (.int 2)); let r57 ← pure []; pure (x56 :: r57)); pure (x58 :: r59)); m__law_some_353f r60); (do let v79 ← (do let r77 ← (do let x75 ← (pure (.str [])); let r76 ← (do let x73 ← (do let x71 ← (do let x64 ← (pure v55); let y65 ← (mkL (do let r63 ← (do let x61 ← (pure (.str [42, 42])); let r62 ← pure []; pure (x61 :: r62)); DL.ask (szL r63))); DL.ask (addD x64 y65)); let y72 ← (do let r70 ← (do let x68 ← (pure a1); let r69 ← (do let x66 ← (pure (.int 3)); let r67 ← pure []; pure (x66 :: r67)); pure (x68 :: r69)); m__law_some_353f r70); DL.ask (addD x71 y72)); let r74 ← pure []; pure (x73 :: r74)); pure (x75 :: r76)); let r78 ← DL.ask (szL r77); pure (.tup r78)); pure (.rt v79))))))
theorem e__law_host_part_4860 (a1 : D) : b__law_host_part_4860 a1 = (do let v1 ← (m__law_take_4983 [(.int 5)]); let t81 ← (DL.ask ((eqD v1 (.int 0)).bind bOf)); seqF (if t81 = true then (do let y12 ← (m__law_take_4983 [(.int 4)]); let x13 ← (DL.ask (addD (.int 1) y12)); let r21 ← (DL.ask (rng1 [x13])); let x22 ← (lcF (fun d => some d) (fun (c17 : D) => pure true) (fun (c17 : D) => (m__law_of_68b0 [a1])) r21); let x25 ← (DL.ask (tupleD [(.lst x22)])); let r30 ← DL.ask (szL [(.str [126]), x25]); pure (.rt (.tup r30))) else (pure (.nx ()))) fun (q7 : Unit) => (do let t80 ← (DL.ask ((ltD v1 (.int 3)).bind bOf)); seqF (if t80 = true then (do let x38 ← (m__law_item_9905 [a1]); let x46 ← (DL.ask (szL [x38])); let y47 ← (m__law_some_353f [a1, (.int 3)]); let x48 ← (DL.ask (addD (.lst x46) y47)); let r53 ← DL.ask (szL [(.str []), x48]); pure (.rt (.tup r53))) else (pure (.nx ()))) fun (q34 : Unit) => (do let v55 ← (m__law_some_353f [a1, (.int 2)]); let y65 ← (DL.ask (szL [(.str [42, 42])])); let x71 ← (DL.ask (addD v55 (.lst y65))); let y72 ← (m__law_some_353f [a1, (.int 3)]); let x73 ← (DL.ask (addD x71 y72)); let r78 ← DL.ask (szL [(.str []), x73]); pure (.rt (.tup r78))))) := by
  unfold b__law_host_part_4860; simp only [pure_bind, bind_assoc, mkL]
def m__law_host_part_4860 : List D → M D := apM1 fun a1 => (runM false (b__law_host_part_4860 a1))
theorem n__law_host_part_4860 : ∀ ds s, m__law_host_part_4860 ds s ≠ .stuck → ds.length = 1 := apM1_len _
def b__law_path_items_69f5 (a1 : D) : M (Fl Unit Empty) := (do let t32 ← (do let x4 ← (do let r3 ← (do let x1 ← (pure (.int 3)); let r2 ← pure []; pure (x1 :: r2)); m__law_take_4983 r3); let y5 ← (pure (.int 0)); DL.ask ((eqD x4 y5).bind bOf)); seqF (if t32 = true then (do let v12 ← (do let r11 ← (do let x9 ← (pure a1); let r10 ← (do let x7 ← (pure (.int 3)); let r8 ← pure []; pure (x7 :: r8)); pure (x9 :: r10)); m__law_some_353f r11); pure (.rt v12)) else (pure (.nx ()))) fun (q6 : Unit) => (do let v13 ← (do let r18 ← (do let x16 ← (pure a1); let r17 ← (do let x14 ← (pure (.int 2)); let r15 ← pure []; pure (x14 :: r15)); pure (x16 :: r17)); m__law_some_353f r18); (do let v31 ← (do let x29 ← (do let x22 ← (pure v13); let y23 ← (mkL (do let r21 ← (do let x19 ← (pure (.str [42, 42])); let r20 ← pure []; pure (x19 :: r20)); DL.ask (szL r21))); DL.ask (addD x22 y23)); let y30 ← (do let r28 ← (do let x26 ← (pure a1); let r27 ← (do let x24 ← (pure (.int 2)); let r25 ← pure []; pure (x24 :: r25)); pure (x26 :: r27)); m__law_some_353f r28); DL.ask (addD x29 y30)); pure (.rt v31))))
theorem e__law_path_items_69f5 (a1 : D) : b__law_path_items_69f5 a1 = (do let x4 ← (m__law_take_4983 [(.int 3)]); let t32 ← (DL.ask ((eqD x4 (.int 0)).bind bOf)); seqF (if t32 = true then (do let v12 ← (m__law_some_353f [a1, (.int 3)]); pure (.rt v12)) else (pure (.nx ()))) fun (q6 : Unit) => (do let v13 ← (m__law_some_353f [a1, (.int 2)]); let y23 ← (DL.ask (szL [(.str [42, 42])])); let x29 ← (DL.ask (addD v13 (.lst y23))); let y30 ← (m__law_some_353f [a1, (.int 2)]); let v31 ← (DL.ask (addD x29 y30)); pure (.rt v31))) := by
  unfold b__law_path_items_69f5; simp only [pure_bind, bind_assoc, mkL]
def m__law_path_items_69f5 : List D → M D := apM1 fun a1 => (runM false (b__law_path_items_69f5 a1))
theorem n__law_path_items_69f5 : ∀ ds s, m__law_path_items_69f5 ds s ≠ .stuck → ds.length = 1 := apM1_len _
def b__law_rule_88fc (a1 : D) : M (Fl Unit Empty) := (do let v1 ← (do let r12 ← (do let x10 ← (mkL (do let r9 ← (do let x7 ← (pure (.str [43])); let r8 ← (do let x5 ← (pure (.str [43])); let r6 ← (do let x3 ← (pure (.str [45])); let r4 ← pure []; pure (x3 :: r4)); pure (x5 :: r6)); pure (x7 :: r8)); DL.ask (szL r9))); let r11 ← pure []; pure (x10 :: r11)); m__law_of_68b0 r12); let v2 ← (do let r22 ← (do let x20 ← (mkL (do let r19 ← (do let x17 ← (pure (.str [97, 110, 121])); let r18 ← (do let x15 ← (pure (.str [104, 116, 116, 112])); let r16 ← (do let x13 ← (pure (.str [104, 116, 116, 112, 115])); let r14 ← pure []; pure (x13 :: r14)); pure (x15 :: r16)); pure (x17 :: r18)); DL.ask (szL r19))); let r21 ← pure []; pure (x20 :: r21)); m__law_of_68b0 r22); (do let v23 ← (do let r27 ← (do let x25 ← (pure a1); let r26 ← pure []; pure (x25 :: r26)); m__law_host_part_4860 r27); let v24 ← (do let r30 ← (do let x28 ← (pure a1); let r29 ← pure []; pure (x28 :: r29)); m__law_path_items_69f5 r30); (do let v31 ← (do let r33 ← pure []; m__law_ports_a185 r33); let c32 ← DL.ask (un2 v31); (do let v34 ← (do let x61 ← (do let x57 ← (do let x55 ← (do let x53 ← (do let x43 ← (do let x39 ← (do let x37 ← (do let x35 ← (pure v1); let y36 ← (pure (.str [32])); DL.ask (addD x35 y36)); let y38 ← (pure v2); DL.ask (addD x37 y38)); let y40 ← (pure (.str [58, 47, 47])); DL.ask (addD x39 y40)); let y44 ← (do let x41 ← (pure v23); let y42 ← (pure (.int 0)); DL.ask (ixD x41 y42)); DL.ask (addD x43 y44)); let y54 ← (do let x51 ← (pure (.str [46])); let _ ← DL.ask (strOf x51); let y52 ← (mkL (do let r49 ← (do let x47 ← (do let x45 ← (pure v23); let y46 ← (pure (.int 1)); DL.ask (ixD x45 y46)); let r48 ← pure []; pure (x47 :: r48)); let r50 ← DL.ask (listD r49); DL.ask (szL r50))); DL.ask (joinD x51 y52)); DL.ask (addD x53 y54)); let y56 ← (pure c32.1); DL.ask (addD x55 y56)); let y58 ← (pure (.str [47])); DL.ask (addD x57 y58)); let y62 ← (do let x59 ← (pure (.str [47])); let _ ← DL.ask (strOf x59); let y60 ← (pure v24); DL.ask (joinD x59 y60)); DL.ask (addD x61 y62)); (do let v81 ← (do let r79 ← (do let x77 ← (do let r73 ← (do let x71 ← (pure v1); let r72 ← (do let x69 ← (pure v2); let r70 ← (do let x67 ← (pure v23); let r68 ← (do let x65 ← (pure c32.2); let r66 ← (do let x63 ← (pure v24); let r64 ← pure []; pure (x63 :: r64)); pure (x65 :: r66)); pure (x67 :: r68)); pure (x69 :: r70)); pure (x71 :: r72)); let r74 ← DL.ask (szL r73); pure (.tup r74)); let r78 ← (do let x75 ← (pure v34); let r76 ← pure []; pure (x75 :: r76)); pure (x77 :: r78)); let r80 ← DL.ask (szL r79); pure (.tup r80)); pure (.rt v81))))))
theorem e__law_rule_88fc (a1 : D) : b__law_rule_88fc a1 = (do let x10 ← (DL.ask (szL [(.str [43]), (.str [43]), (.str [45])])); let v1 ← (m__law_of_68b0 [(.lst x10)]); let x20 ← (DL.ask (szL [(.str [97, 110, 121]), (.str [104, 116, 116, 112]), (.str [104, 116, 116, 112, 115])])); let v2 ← (m__law_of_68b0 [(.lst x20)]); let v23 ← (m__law_host_part_4860 [a1]); let v24 ← (m__law_path_items_69f5 [a1]); let v31 ← (m__law_ports_a185 []); let c32 ← DL.ask (un2 v31); let x37 ← (DL.ask (addD v1 (.str [32]))); let x39 ← (DL.ask (addD x37 v2)); let x43 ← (DL.ask (addD x39 (.str [58, 47, 47]))); let y44 ← (DL.ask (ixD v23 (.int 0))); let x53 ← (DL.ask (addD x43 y44)); let _ ← DL.ask (strOf (.str [46])); let x47 ← (DL.ask (ixD v23 (.int 1))); let r50 ← DL.ask (listD [x47]); let y52 ← (DL.ask (szL r50)); let y54 ← (DL.ask (joinD (.str [46]) (.lst y52))); let x55 ← (DL.ask (addD x53 y54)); let x57 ← (DL.ask (addD x55 c32.1)); let x61 ← (DL.ask (addD x57 (.str [47]))); let _ ← DL.ask (strOf (.str [47])); let y62 ← (DL.ask (joinD (.str [47]) v24)); let v34 ← (DL.ask (addD x61 y62)); let r74 ← DL.ask (szL [v1, v2, v23, c32.2, v24]); let r80 ← DL.ask (szL [(.tup r74), v34]); pure (.rt (.tup r80))) := by
  unfold b__law_rule_88fc; simp only [pure_bind, bind_assoc, mkL]
def m__law_rule_88fc : List D → M D := apM1 fun a1 => (runM false (b__law_rule_88fc a1))
theorem n__law_rule_88fc : ∀ ds s, m__law_rule_88fc ds s ≠ .stuck → ds.length = 1 := apM1_len _
def b__law_is_9abc (a0 a1 a2 : D) : R (Fl Unit Empty) := (do let v1 ← (pure a1); let c2 ← DL.ask ((unN 5) v1); (do let v3 ← (do let x6 ← (pure (.str [47])); let y7 ← (do let x4 ← (pure (.str [47])); let _ ← DL.ask (strOf x4); let y5 ← (pure (c2.getD 4 .non)); DL.ask (joinD x4 y5)); DL.ask (addD x6 y7)); (do let v8 ← (do let r19 ← (do let x17 ← (orV (do let x9 ← (pure (c2.getD 3 .non)); let y10 ← (pure .non); DL.ask (isD x9 y10)) (do let x15 ← (do let x11 ← (pure (c2.getD 3 .non)); let y12 ← (pure (.int 0)); DL.ask (ixD x11 y12)); let y16 ← (do let x13 ← (pure (c2.getD 3 .non)); let y14 ← (pure (.int 1)); DL.ask (ixD x13 y14)); DL.ask (eqD x15 y16))); let r18 ← pure []; pure (x17 :: r18)); DL.ask (intD r19)); (do let v20 ← (iteM (do let x23 ← (do let x21 ← (pure (c2.getD 2 .non)); let y22 ← (pure (.int 0)); DL.ask (ixD x21 y22)); let y24 ← (pure (.str [126])); DL.ask ((eqD x23 y24).bind bOf)) (pure (.int 1)) (do let r29 ← (do let x27 ← (do let x25 ← (pure (c2.getD 2 .non)); let y26 ← (pure (.int 1)); DL.ask (ixD x25 y26)); let r28 ← pure []; pure (x27 :: r28)); Mo.lift (m__law_fixed_a772 r29))); (do let v30 ← (mkL (do let r56 ← (do let x54 ← (do let x31 ← (pure a0); DL.ask (fldD ["Page", "HostPattern", "PathPattern", "Rule"] "text" x31)); let r55 ← (do let x52 ← (do let x32 ← (pure a0); DL.ask (fldD ["Rule"] "sign" x32)); let r53 ← (do let x50 ← (do let x33 ← (pure a0); DL.ask (fldD ["Page", "Rule"] "scheme" x33)); let r51 ← (do let x48 ← (do let x34 ← (pure a0); DL.ask (fldD ["Rule"] "near" x34)); let r49 ← (do let x46 ← (do let x35 ← (pure a0); DL.ask (fldD ["Rule"] "ports" x35)); let r47 ← (do let x44 ← (do let x36 ← (pure a0); Mo.lift (attrD [] [("Rule", m_Rule_closeness_3470)] "closeness" x36)); let r45 ← (do let x42 ← (do let x37 ← (pure a0); Mo.lift (attrD [] [("Rule", m_Rule_is_offer_6fe5)] "is_offer" x37)); let r43 ← (do let x40 ← (do let x39 ← (do let x38 ← (pure a0); DL.ask (fldD ["Page", "Rule"] "path" x38)); DL.ask (fldD ["Page", "HostPattern", "PathPattern", "Rule"] "text" x39)); let r41 ← pure []; pure (x40 :: r41)); pure (x42 :: r43)); pure (x44 :: r45)); pure (x46 :: r47)); pure (x48 :: r49)); pure (x50 :: r51)); pure (x52 :: r53)); pure (x54 :: r55)); DL.ask (szL r56))); (do let v57 ← (iteM (do let x60 ← (do let x58 ← (pure (c2.getD 2 .non)); let y59 ← (pure (.int 0)); DL.ask (ixD x58 y59)); let y61 ← (pure (.str [126])); DL.ask ((eqD x60 y61).bind bOf)) (do let x62 ← (pure (c2.getD 2 .non)); let y63 ← (pure (.int 1)); DL.ask (ixD x62 y63)) (pure .non)); (do let t148 ← (do let x100 ← (do let r66 ← (do let x64 ← (pure v30); let r65 ← pure []; pure (x64 :: r65)); DL.ask (reprD r66)); let y101 ← (do let r99 ← (do let x97 ← (mkL (do let r96 ← (do let x94 ← (pure a2); let r95 ← (do let x92 ← (pure (c2.getD 0 .non)); let r93 ← (do let x90 ← (pure (c2.getD 1 .non)); let r91 ← (do let x88 ← (pure v57); let r89 ← (do let x86 ← (pure (c2.getD 3 .non)); let r87 ← (do let x84 ← (do let r76 ← (do let x74 ← (pure v20); let r75 ← (do let x72 ← (do let r69 ← (do let x67 ← (pure (c2.getD 4 .non)); let r68 ← pure []; pure (x67 :: r68)); Mo.lift (m__law_fixed_a772 r69)); let r73 ← (do let x70 ← (pure v8); let r71 ← pure []; pure (x70 :: r71)); pure (x72 :: r73)); pure (x74 :: r75)); let r77 ← DL.ask (szL r76); pure (.tup r77)); let r85 ← (do let x82 ← (do let x78 ← (pure (c2.getD 0 .non)); let y79 ← (pure (.str [43])); DL.ask (eqD x78 y79)); let r83 ← (do let x80 ← (pure v3); let r81 ← pure []; pure (x80 :: r81)); pure (x82 :: r83)); pure (x84 :: r85)); pure (x86 :: r87)); pure (x88 :: r89)); pure (x90 :: r91)); pure (x92 :: r93)); pure (x94 :: r95)); DL.ask (szL r96))); let r98 ← pure []; pure (x97 :: r98)); DL.ask (reprD r99)); DL.ask ((neD x100 y101).bind bOf)); seqF (if t148 = true then (do let v103 ← (pure (.bl false)); pure (.rt v103)) else (pure (.nx ()))) fun (q102 : Unit) => (do let t147 ← (DL.orM (DL.notM (do let x109 ← (do let x104 ← (pure a0); DL.ask (fldD ["Page", "Rule"] "path" x104)); let y110 ← (do let r107 ← (do let x105 ← (pure v3); let r106 ← pure []; pure (x105 :: r106)); let o108 ← Mo.lift (m_PathPattern_init_28de r107); pure (D.ins "PathPattern" ["text", "level", "head", "tail", "gap"] o108)); DL.ask ((eqO [("Page", m_Page_eq_ca54), ("HostPattern", m_HostPattern_eq_ad46), ("PathPattern", m_PathPattern_eq_f7cd), ("Rule", m_Rule_eq_ea23)] x109 y110).bind bOf))) (do let x113 ← (do let x112 ← (do let x111 ← (pure a0); DL.ask (fldD ["Page", "Rule"] "path" x111)); DL.ask (fldD ["HostPattern", "PathPattern"] "level" x112)); let y114 ← (pure (.str [112, 97, 116, 104])); DL.ask ((neD x113 y114).bind bOf))); seqF (if t147 = true then (do let v116 ← (pure (.bl false)); pure (.rt v116)) else (pure (.nx ()))) fun (q115 : Unit) => (do let t146 ← (do let x119 ← (do let x117 ← (pure (c2.getD 2 .non)); let y118 ← (pure (.int 0)); DL.ask (ixD x117 y118)); let y120 ← (pure (.str [126])); DL.ask ((eqD x119 y120).bind bOf)); seqF (if t146 = true then (do let v125 ← (do let x123 ← (do let x122 ← (pure a0); DL.ask (fldD ["Page", "Rule"] "host" x122)); let y124 ← (pure .non); DL.ask (isD x123 y124)); pure (.rt v125)) else (pure (.nx ()))) fun (q121 : Unit) => (do let v145 ← (andV (do let x135 ← (do let x126 ← (pure a0); DL.ask (fldD ["Page", "Rule"] "host" x126)); let y136 ← (do let r133 ← (do let x131 ← (do let x129 ← (pure (.str [46])); let _ ← DL.ask (strOf x129); let y130 ← (do let x127 ← (pure (c2.getD 2 .non)); let y128 ← (pure (.int 1)); DL.ask (ixD x127 y128)); DL.ask (joinD x129 y130)); let r132 ← pure []; pure (x131 :: r132)); let o134 ← Mo.lift (m_HostPattern_init_23dd r133); pure (D.ins "HostPattern" ["text", "level", "head", "tail", "gap"] o134)); DL.ask (eqO [("Page", m_Page_eq_ca54), ("HostPattern", m_HostPattern_eq_ad46), ("PathPattern", m_PathPattern_eq_f7cd), ("Rule", m_Rule_eq_ea23)] x135 y136)) (do let x143 ← (do let x138 ← (do let x137 ← (pure a0); DL.ask (fldD ["Page", "Rule"] "host" x137)); DL.ask (fldD ["Page", "HostPattern", "PathPattern", "Rule"] "text" x138)); let y144 ← (do let x141 ← (pure (.str [46])); let _ ← DL.ask (strOf x141); let y142 ← (do let x139 ← (pure (c2.getD 2 .non)); let y140 ← (pure (.int 1)); DL.ask (ixD x139 y140)); DL.ask (joinD x141 y142)); DL.ask (eqD x143 y144))); pure (.rt v145)))))))))))
theorem e__law_is_9abc (a0 a1 a2 : D) : b__law_is_9abc a0 a1 a2 = (do let c2 ← DL.ask ((unN 5) a1); let _ ← DL.ask (strOf (.str [47])); let y7 ← (DL.ask (joinD (.str [47]) (c2.getD 4 .non))); let v3 ← (DL.ask (addD (.str [47]) y7)); let x17 ← (orV (DL.ask (isD (c2.getD 3 .non) .non)) (do let x15 ← (DL.ask (ixD (c2.getD 3 .non) (.int 0))); let y16 ← (DL.ask (ixD (c2.getD 3 .non) (.int 1))); DL.ask (eqD x15 y16))); let v8 ← (DL.ask (intD [x17])); let v20 ← (iteM (do let x23 ← (DL.ask (ixD (c2.getD 2 .non) (.int 0))); DL.ask ((eqD x23 (.str [126])).bind bOf)) (pure (.int 1)) (do let x27 ← (DL.ask (ixD (c2.getD 2 .non) (.int 1))); Mo.lift (m__law_fixed_a772 [x27]))); let x54 ← (DL.ask (fldD ["Page", "HostPattern", "PathPattern", "Rule"] "text" a0)); let x52 ← (DL.ask (fldD ["Rule"] "sign" a0)); let x50 ← (DL.ask (fldD ["Page", "Rule"] "scheme" a0)); let x48 ← (DL.ask (fldD ["Rule"] "near" a0)); let x46 ← (DL.ask (fldD ["Rule"] "ports" a0)); let x44 ← (Mo.lift (attrD [] [("Rule", m_Rule_closeness_3470)] "closeness" a0)); let x42 ← (Mo.lift (attrD [] [("Rule", m_Rule_is_offer_6fe5)] "is_offer" a0)); let x39 ← (DL.ask (fldD ["Page", "Rule"] "path" a0)); let x40 ← (DL.ask (fldD ["Page", "HostPattern", "PathPattern", "Rule"] "text" x39)); let v30 ← (DL.ask (szL [x54, x52, x50, x48, x46, x44, x42, x40])); let v57 ← (iteM (do let x60 ← (DL.ask (ixD (c2.getD 2 .non) (.int 0))); DL.ask ((eqD x60 (.str [126])).bind bOf)) (DL.ask (ixD (c2.getD 2 .non) (.int 1))) (pure .non)); let x100 ← (DL.ask (reprD [(.lst v30)])); let x72 ← (Mo.lift (m__law_fixed_a772 [(c2.getD 4 .non)])); let r77 ← DL.ask (szL [v20, x72, v8]); let x82 ← (DL.ask (eqD (c2.getD 0 .non) (.str [43]))); let x97 ← (DL.ask (szL [a2, (c2.getD 0 .non), (c2.getD 1 .non), v57, (c2.getD 3 .non), (.tup r77), x82, v3])); let y101 ← (DL.ask (reprD [(.lst x97)])); let t148 ← (DL.ask ((neD x100 y101).bind bOf)); seqF (if t148 = true then (pure (.rt (.bl false))) else (pure (.nx ()))) fun (q102 : Unit) => (do let t147 ← (DL.orM (DL.notM (do let x109 ← (DL.ask (fldD ["Page", "Rule"] "path" a0)); let o108 ← Mo.lift (m_PathPattern_init_28de [v3]); DL.ask ((eqO [("Page", m_Page_eq_ca54), ("HostPattern", m_HostPattern_eq_ad46), ("PathPattern", m_PathPattern_eq_f7cd), ("Rule", m_Rule_eq_ea23)] x109 (D.ins "PathPattern" ["text", "level", "head", "tail", "gap"] o108)).bind bOf))) (do let x112 ← (DL.ask (fldD ["Page", "Rule"] "path" a0)); let x113 ← (DL.ask (fldD ["HostPattern", "PathPattern"] "level" x112)); DL.ask ((neD x113 (.str [112, 97, 116, 104])).bind bOf))); seqF (if t147 = true then (pure (.rt (.bl false))) else (pure (.nx ()))) fun (q115 : Unit) => (do let x119 ← (DL.ask (ixD (c2.getD 2 .non) (.int 0))); let t146 ← (DL.ask ((eqD x119 (.str [126])).bind bOf)); seqF (if t146 = true then (do let x123 ← (DL.ask (fldD ["Page", "Rule"] "host" a0)); let v125 ← (DL.ask (isD x123 .non)); pure (.rt v125)) else (pure (.nx ()))) fun (q121 : Unit) => (do let v145 ← (andV (do let x135 ← (DL.ask (fldD ["Page", "Rule"] "host" a0)); let _ ← DL.ask (strOf (.str [46])); let y130 ← (DL.ask (ixD (c2.getD 2 .non) (.int 1))); let x131 ← (DL.ask (joinD (.str [46]) y130)); let o134 ← Mo.lift (m_HostPattern_init_23dd [x131]); DL.ask (eqO [("Page", m_Page_eq_ca54), ("HostPattern", m_HostPattern_eq_ad46), ("PathPattern", m_PathPattern_eq_f7cd), ("Rule", m_Rule_eq_ea23)] x135 (D.ins "HostPattern" ["text", "level", "head", "tail", "gap"] o134))) (do let x138 ← (DL.ask (fldD ["Page", "Rule"] "host" a0)); let x143 ← (DL.ask (fldD ["Page", "HostPattern", "PathPattern", "Rule"] "text" x138)); let _ ← DL.ask (strOf (.str [46])); let y142 ← (DL.ask (ixD (c2.getD 2 .non) (.int 1))); let y144 ← (DL.ask (joinD (.str [46]) y142)); DL.ask (eqD x143 y144))); pure (.rt v145))))) := by
  unfold b__law_is_9abc; simp only [pure_bind, bind_assoc, mkL]
def m__law_is_9abc : List D → R D := apR3 fun a0 a1 a2 => (runR false (b__law_is_9abc a0 a1 a2))
theorem n__law_is_9abc : ∀ ds : List D, m__law_is_9abc ds ≠ .stuck → ds.length = 3 := apR3_len _
def b_Rule_init_6a3b (a1 : D) : R (Fl (List D) Empty) := (do let v1 ← (do let r4 ← (do let x2 ← (pure a1); let r3 ← pure []; pure (x2 :: r3)); Mo.lift (m_rule_parts_d2df r4)); (do let t50 ← (do let x5 ← (pure v1); let y6 ← (pure .non); DL.ask ((isD x5 y6).bind bOf)); seqF (if t50 = true then (do let v8 ← (pure a1); raiseX "BadRule" "rule" v8) else (pure (.nx ()))) fun (q7 : Unit) => (do let v9 ← (pure a1); (do let v10 ← (pure v1); let c11 ← DL.ask (unN 5 v10); (do let v12 ← (do let r15 ← (do let x13 ← (pure (c11.getD 3 .non)); let r14 ← pure []; pure (x13 :: r14)); Mo.lift (m_ports_of_0eba r15)); (do let v16 ← (iteM (do let x22 ← (do let x19 ← (pure (c11.getD 2 .non)); let l20 ← (pure none); let u21 ← (do let x17 ← (pure (.int 1)); let i18 ← DL.ask (intOf x17); pure (some i18)); DL.ask (sliceD x19 l20 u21)); let y23 ← (pure (.str [126])); DL.ask ((eqD x22 y23).bind bOf)) (do let r31 ← (do let x29 ← (do let x26 ← (pure (c11.getD 2 .non)); let l27 ← (do let x24 ← (pure (.int 1)); let i25 ← DL.ask (intOf x24); pure (some i25)); let u28 ← (pure none); DL.ask (sliceD x26 l27 u28)); let r30 ← pure []; pure (x29 :: r30)); Mo.lift (m_near_of_fb19 r31)) (pure .non)); (do let v32 ← (pure .non); (seqF (tryFs [("BadHost", "host"), ("BadPage", "page"), ("BadPath", "path"), ("BadPattern", "pattern"), ("BadPort", "port"), ("BadRule", "rule"), ("BadScheme", "scheme")] (do let v35 ← (do let r38 ← (do let x36 ← (pure (c11.getD 4 .non)); let r37 ← pure []; pure (x36 :: r37)); let o39 ← Mo.lift (m_PathPattern_init_28de r38); pure (D.ins "PathPattern" ["text", "level", "head", "tail", "gap"] o39)); (do let t48 ← (do let x40 ← (pure v16); let y41 ← (pure .non); DL.ask ((isD x40 y41).bind bOf)); seqF (if t48 = true then (do let v43 ← (do let r46 ← (do let x44 ← (pure (c11.getD 2 .non)); let r45 ← pure []; pure (x44 :: r45)); let o47 ← Mo.lift (m_HostPattern_init_23dd r46); pure (D.ins "HostPattern" ["text", "level", "head", "tail", "gap"] o47)); (pure (.nx v43))) else (pure (.nx v32))) fun (q42 : D) => (pure (.nx (v35, q42))))) [("BadPattern", fun e49 => (Mo.lift R.stuck))]) fun (q33 : D × D) => (pure (.nx [v9, (c11.getD 0 .non), (c11.getD 1 .non), (c11.getD 3 .non), v12, v16, q33.2, q33.1]))))))))))
theorem e_Rule_init_6a3b (a1 : D) : b_Rule_init_6a3b a1 = (do let v1 ← (Mo.lift (m_rule_parts_d2df [a1])); let t50 ← (DL.ask ((isD v1 .non).bind bOf)); seqF (if t50 = true then (raiseX "BadRule" "rule" a1) else (pure (.nx ()))) fun (q7 : Unit) => (do let c11 ← DL.ask (unN 5 v1); let v12 ← (Mo.lift (m_ports_of_0eba [(c11.getD 3 .non)])); let v16 ← (iteM (do let i18 ← DL.ask (intOf (.int 1)); let x22 ← (DL.ask (sliceD (c11.getD 2 .non) none (some i18))); DL.ask ((eqD x22 (.str [126])).bind bOf)) (do let i25 ← DL.ask (intOf (.int 1)); let x29 ← (DL.ask (sliceD (c11.getD 2 .non) (some i25) none)); Mo.lift (m_near_of_fb19 [x29])) (pure .non)); (seqF (tryFs [("BadHost", "host"), ("BadPage", "page"), ("BadPath", "path"), ("BadPattern", "pattern"), ("BadPort", "port"), ("BadRule", "rule"), ("BadScheme", "scheme")] (do let o39 ← Mo.lift (m_PathPattern_init_28de [(c11.getD 4 .non)]); let t48 ← (DL.ask ((isD v16 .non).bind bOf)); seqF (if t48 = true then (do let o47 ← Mo.lift (m_HostPattern_init_23dd [(c11.getD 2 .non)]); (pure (.nx (D.ins "HostPattern" ["text", "level", "head", "tail", "gap"] o47)))) else (pure (.nx .non))) fun (q42 : D) => (pure (.nx ((D.ins "PathPattern" ["text", "level", "head", "tail", "gap"] o39), q42)))) [("BadPattern", fun e49 => (Mo.lift R.stuck))]) fun (q33 : D × D) => (pure (.nx [a1, (c11.getD 0 .non), (c11.getD 1 .non), (c11.getD 3 .non), v12, v16, q33.2, q33.1]))))) := by
  unfold b_Rule_init_6a3b; simp only [pure_bind, bind_assoc, mkL]
def m_Rule_init_6a3b : List D → R (List D) := apI1 fun a1 => runI (b_Rule_init_6a3b a1)
theorem n_Rule_init_6a3b : ∀ ds : List D, m_Rule_init_6a3b ds ≠ .stuck → ds.length = 1 := apI1_len _
def b_law_1303 (a0 : D) : R (Fl Unit Empty) := (do let r154 ← (do let r16 ← (do let x14 ← (do let r13 ← (do let x11 ← (pure (.int 1)); let r12 ← (do let x9 ← (do let r8 ← (do let x6 ← (pure (.int 3)); let r7 ← (do let x4 ← (do let r3 ← (do let x1 ← (pure a0); let r2 ← pure []; pure (x1 :: r2)); DL.ask (lenD r3)); let r5 ← pure []; pure (x4 :: r5)); pure (x6 :: r7)); DL.ask (minD r8)); let r10 ← pure []; pure (x9 :: r10)); pure (x11 :: r12)); DL.ask (maxD r13)); let r15 ← pure []; pure (x14 :: r15)); DL.ask (rng1 r16)); seqF (forF (fun d => some d) (fun (q17 : Unit) (c18 : D) => (do let v19 ← (do let r25 ← (do let x23 ← (pure a0); let r24 ← (do let x21 ← (pure c18); let r22 ← pure []; pure (x21 :: r22)); pure (x23 :: r24)); let r26 ← Mo.lift (m__law_bag_b4c5 r25); DL.ask (lstOf r26)); let v20 ← (do let r27 ← pure []; DL.ask (szL r27)); withBag (.lst v19) (do let v29 ← (do let r32 ← (do let x30 ← (pure (.int 4)); let r31 ← pure []; pure (x30 :: r31)); m__law_labels_5296 r32); (do let r151 ← (do let r35 ← (do let x33 ← (pure (.int 8)); let r34 ← pure []; pure (x33 :: r34)); DL.ask (rng1 r35)); seqF (forF (fun d => some d) (fun (q36 : List D) (c37 : D) => (do let v38 ← (do let r42 ← (do let x40 ← (pure v29); let r41 ← pure []; pure (x40 :: r41)); m__law_rule_88fc r42); let c39 ← DL.ask (un2 v38); (do let v43 ← (do let r55 ← (do let x53 ← (do let r47 ← (do let x45 ← (pure c39.2); let r46 ← pure []; pure (x45 :: r46)); let o48 ← Mo.lift (m_Rule_init_6a3b r47); pure (D.ins "Rule" ["text", "sign", "scheme", "written_ports", "ports", "near", "host", "path"] o48)); let r54 ← (do let x51 ← (pure c39.1); let r52 ← (do let x49 ← (pure c39.2); let r50 ← pure []; pure (x49 :: r50)); pure (x51 :: r52)); pure (x53 :: r54)); let r56 ← DL.ask (szL r55); pure (.tup r56)); let v44 ← DL.ask (apd q36 v43); (pure (.nx v44))))) r151 v20) fun (q57 : List D) => (do let r150 ← (do let r58 ← (pure (.lst q57)); DL.ask (itD r58)); seqF (forF un3 (fun (q59 : Unit) (c60 : D × D × D) => (do let t148 ← (DL.orM (DL.notM (do let x68 ← (do let r67 ← (do let x65 ← (pure c60.1); let r66 ← (do let x63 ← (pure c60.2.1); let r64 ← (do let x61 ← (pure c60.2.2); let r62 ← pure []; pure (x61 :: r62)); pure (x63 :: r64)); pure (x65 :: r66)); Mo.lift (m__law_is_9abc r67)); DL.ask (truD x68))) (DL.orM (DL.notM (do let x74 ← (pure c60.1); let y75 ← (do let r69 ← pure []; let z73 ← (do let x71 ← (pure c60.2.2); let r72 ← (pure []); pure (x71 :: r72)); let o70 ← Mo.lift (kwR 1 (kwI [0] [] (0 + 1) m_Rule_init_6a3b) r69 z73); pure (D.ins "Rule" ["text", "sign", "scheme", "written_ports", "ports", "near", "host", "path"] o70)); DL.ask ((eqO [("Page", m_Page_eq_ca54), ("HostPattern", m_HostPattern_eq_ad46), ("PathPattern", m_PathPattern_eq_f7cd), ("Rule", m_Rule_eq_ea23)] x74 y75).bind bOf))) (DL.orM (do let x76 ← (pure c60.1); let y77 ← (pure c60.2.2); DL.ask ((eqO [("Page", m_Page_eq_ca54), ("HostPattern", m_HostPattern_eq_ad46), ("PathPattern", m_PathPattern_eq_f7cd), ("Rule", m_Rule_eq_ea23)] x76 y77).bind bOf)) (do let x78 ← (pure c60.1); let y79 ← (pure (.int 0)); DL.ask ((eqO [("Page", m_Page_eq_ca54), ("HostPattern", m_HostPattern_eq_ad46), ("PathPattern", m_PathPattern_eq_f7cd), ("Rule", m_Rule_eq_ea23)] x78 y79).bind bOf))))); seqF (if t148 = true then (do let v81 ← (pure (.bl false)); pure (.rt v81)) else (pure (.nx ()))) fun (q80 : Unit) => (do let v82 ← (do let x107 ← (do let x98 ← (do let x85 ← (pure c60.2.2); let l86 ← (pure none); let u87 ← (do let x83 ← (pure (.int 2)); let i84 ← DL.ask (intOf x83); pure (some i84)); DL.ask (sliceD x85 l86 u87)); let y99 ← (do let r97 ← (do let x95 ← (mkL (do let r94 ← (do let x92 ← (pure (.str [97, 110, 121])); let r93 ← (do let x90 ← (pure (.str [104, 116, 116, 112])); let r91 ← (do let x88 ← (pure (.str [104, 116, 116, 112, 115])); let r89 ← pure []; pure (x88 :: r89)); pure (x90 :: r91)); pure (x92 :: r93)); DL.ask (szL r94))); let r96 ← pure []; pure (x95 :: r96)); m__law_of_68b0 r97); DL.ask (addD x98 y99)); let y108 ← (do let x104 ← (pure c60.2.2); let l105 ← (do let x102 ← (do let x100 ← (pure c60.2.2); let _ ← DL.ask (strOf x100); let y101 ← (pure (.str [58])); DL.ask (indexD x100 y101)); let i103 ← DL.ask (intOf x102); pure (some i103)); let u106 ← (pure none); DL.ask (sliceD x104 l105 u106)); DL.ask (addD x107 y108)); (do let t147 ← (do let x123 ← (do let r117 ← (do let x115 ← (do let x113 ← (do let r111 ← (do let x109 ← (pure v82); let r110 ← pure []; pure (x109 :: r110)); let o112 ← Mo.lift (m_Rule_init_6a3b r111); pure (D.ins "Rule" ["text", "sign", "scheme", "written_ports", "ports", "near", "host", "path"] o112)); let y114 ← (pure c60.1); DL.ask (eqO [("Page", m_Page_eq_ca54), ("HostPattern", m_HostPattern_eq_ad46), ("PathPattern", m_PathPattern_eq_f7cd), ("Rule", m_Rule_eq_ea23)] x113 y114)); let r116 ← pure []; pure (x115 :: r116)); DL.ask (reprD r117)); let y124 ← (do let r122 ← (do let x120 ← (do let x118 ← (pure v82); let y119 ← (pure c60.2.2); DL.ask (eqO [("Page", m_Page_eq_ca54), ("HostPattern", m_HostPattern_eq_ad46), ("PathPattern", m_PathPattern_eq_f7cd), ("Rule", m_Rule_eq_ea23)] x118 y119)); let r121 ← pure []; pure (x120 :: r121)); DL.ask (reprD r122)); DL.ask ((neD x123 y124).bind bOf)); seqF (if t147 = true then (do let v126 ← (pure (.bl false)); pure (.rt v126)) else (pure (.nx ()))) fun (q125 : Unit) => (do let r146 ← (do let r127 ← (pure (.lst q57)); DL.ask (itD r127)); seqF (forF un3 (fun (q128 : Unit) (c129 : D × D × D) => (do let t144 ← (do let x140 ← (do let r134 ← (do let x132 ← (do let x130 ← (pure c60.1); let y131 ← (pure c129.1); DL.ask (eqO [("Page", m_Page_eq_ca54), ("HostPattern", m_HostPattern_eq_ad46), ("PathPattern", m_PathPattern_eq_f7cd), ("Rule", m_Rule_eq_ea23)] x130 y131)); let r133 ← pure []; pure (x132 :: r133)); DL.ask (reprD r134)); let y141 ← (do let r139 ← (do let x137 ← (do let x135 ← (pure c60.2.2); let y136 ← (pure c129.2.2); DL.ask (eqO [("Page", m_Page_eq_ca54), ("HostPattern", m_HostPattern_eq_ad46), ("PathPattern", m_PathPattern_eq_f7cd), ("Rule", m_Rule_eq_ea23)] x135 y136)); let r138 ← pure []; pure (x137 :: r138)); DL.ask (reprD r139)); DL.ask ((neD x140 y141).bind bOf)); seqF (if t144 = true then (do let v143 ← (pure (.bl false)); pure (.rt v143)) else (pure (.nx ()))) fun (q142 : Unit) => (pure (.nx ())))) r146 ()) fun (q145 : Unit) => (pure (.nx ()))))))) r150 ()) fun (q149 : Unit) => (pure (.nx ()))))))) r154 ()) fun (q152 : Unit) => (do let v153 ← (pure (.bl true)); pure (.rt v153)))
theorem e_law_1303 (a0 : D) : b_law_1303 a0 = (do let x4 ← (DL.ask (lenD [a0])); let x9 ← (DL.ask (minD [(.int 3), x4])); let x14 ← (DL.ask (maxD [(.int 1), x9])); let r154 ← (DL.ask (rng1 [x14])); seqF (forF (fun d => some d) (fun (q17 : Unit) (c18 : D) => (do let r26 ← Mo.lift (m__law_bag_b4c5 [a0, c18]); let v19 ← (DL.ask (lstOf r26)); let v20 ← (DL.ask (szL [])); withBag (.lst v19) (do let v29 ← (m__law_labels_5296 [(.int 4)]); let r151 ← (DL.ask (rng1 [(.int 8)])); seqF (forF (fun d => some d) (fun (q36 : List D) (c37 : D) => (do let v38 ← (m__law_rule_88fc [v29]); let c39 ← DL.ask (un2 v38); let o48 ← Mo.lift (m_Rule_init_6a3b [c39.2]); let r56 ← DL.ask (szL [(D.ins "Rule" ["text", "sign", "scheme", "written_ports", "ports", "near", "host", "path"] o48), c39.1, c39.2]); let v44 ← DL.ask (apd q36 (.tup r56)); (pure (.nx v44)))) r151 v20) fun (q57 : List D) => (do let r150 ← (DL.ask (itD (.lst q57))); seqF (forF un3 (fun (q59 : Unit) (c60 : D × D × D) => (do let t148 ← (DL.orM (DL.notM (do let x68 ← (Mo.lift (m__law_is_9abc [c60.1, c60.2.1, c60.2.2])); DL.ask (truD x68))) (DL.orM (DL.notM (do let o70 ← Mo.lift (kwR 1 (kwI [0] [] (0 + 1) m_Rule_init_6a3b) [] [c60.2.2]); DL.ask ((eqO [("Page", m_Page_eq_ca54), ("HostPattern", m_HostPattern_eq_ad46), ("PathPattern", m_PathPattern_eq_f7cd), ("Rule", m_Rule_eq_ea23)] c60.1 (D.ins "Rule" ["text", "sign", "scheme", "written_ports", "ports", "near", "host", "path"] o70)).bind bOf))) (DL.orM (DL.ask ((eqO [("Page", m_Page_eq_ca54), ("HostPattern", m_HostPattern_eq_ad46), ("PathPattern", m_PathPattern_eq_f7cd), ("Rule", m_Rule_eq_ea23)] c60.1 c60.2.2).bind bOf)) (DL.ask ((eqO [("Page", m_Page_eq_ca54), ("HostPattern", m_HostPattern_eq_ad46), ("PathPattern", m_PathPattern_eq_f7cd), ("Rule", m_Rule_eq_ea23)] c60.1 (.int 0)).bind bOf))))); seqF (if t148 = true then (pure (.rt (.bl false))) else (pure (.nx ()))) fun (q80 : Unit) => (do let i84 ← DL.ask (intOf (.int 2)); let x98 ← (DL.ask (sliceD c60.2.2 none (some i84))); let x95 ← (DL.ask (szL [(.str [97, 110, 121]), (.str [104, 116, 116, 112]), (.str [104, 116, 116, 112, 115])])); let y99 ← (m__law_of_68b0 [(.lst x95)]); let x107 ← (DL.ask (addD x98 y99)); let _ ← DL.ask (strOf c60.2.2); let x102 ← (DL.ask (indexD c60.2.2 (.str [58]))); let i103 ← DL.ask (intOf x102); let y108 ← (DL.ask (sliceD c60.2.2 (some i103) none)); let v82 ← (DL.ask (addD x107 y108)); let o112 ← Mo.lift (m_Rule_init_6a3b [v82]); let x115 ← (DL.ask (eqO [("Page", m_Page_eq_ca54), ("HostPattern", m_HostPattern_eq_ad46), ("PathPattern", m_PathPattern_eq_f7cd), ("Rule", m_Rule_eq_ea23)] (D.ins "Rule" ["text", "sign", "scheme", "written_ports", "ports", "near", "host", "path"] o112) c60.1)); let x123 ← (DL.ask (reprD [x115])); let x120 ← (DL.ask (eqO [("Page", m_Page_eq_ca54), ("HostPattern", m_HostPattern_eq_ad46), ("PathPattern", m_PathPattern_eq_f7cd), ("Rule", m_Rule_eq_ea23)] v82 c60.2.2)); let y124 ← (DL.ask (reprD [x120])); let t147 ← (DL.ask ((neD x123 y124).bind bOf)); seqF (if t147 = true then (pure (.rt (.bl false))) else (pure (.nx ()))) fun (q125 : Unit) => (do let r146 ← (DL.ask (itD (.lst q57))); seqF (forF un3 (fun (q128 : Unit) (c129 : D × D × D) => (do let x132 ← (DL.ask (eqO [("Page", m_Page_eq_ca54), ("HostPattern", m_HostPattern_eq_ad46), ("PathPattern", m_PathPattern_eq_f7cd), ("Rule", m_Rule_eq_ea23)] c60.1 c129.1)); let x140 ← (DL.ask (reprD [x132])); let x137 ← (DL.ask (eqO [("Page", m_Page_eq_ca54), ("HostPattern", m_HostPattern_eq_ad46), ("PathPattern", m_PathPattern_eq_f7cd), ("Rule", m_Rule_eq_ea23)] c60.2.2 c129.2.2)); let y141 ← (DL.ask (reprD [x137])); let t144 ← (DL.ask ((neD x140 y141).bind bOf)); seqF (if t144 = true then (pure (.rt (.bl false))) else (pure (.nx ()))) fun (q142 : Unit) => (pure (.nx ())))) r146 ()) fun (q145 : Unit) => (pure (.nx ())))))) r150 ()) fun (q149 : Unit) => (pure (.nx ())))))) r154 ()) fun (q152 : Unit) => (pure (.rt (.bl true)))) := by
  unfold b_law_1303; simp only [pure_bind, bind_assoc, mkL]
def m_law_1303 : List D → R D := apR1 fun a0 => (runR false (b_law_1303 a0))
end FN
namespace FN
open DL PySem PySem.W
/-! ### texts of patterns -/
theorem parts_len (x : Str) (w : Nat) : ∀ (cuts : List Nat) (a : Nat), (StrLaws.partsFrom x w a cuts).length = cuts.length + 1
  | [], a => rfl
  | c :: r, a => by
    show (StrLaws.partsFrom x w (c + w) r).length + 1 = _
    rw [parts_len x w r]
    rfl
theorem spl_count {c : Nat} : ∀ (z acc : List Nat), (TL.spl [c] 0 acc z).length = z.count c + 1
  | [], acc => by rw [TL.spl_nil]; rfl
  | x :: r, acc => by
    by_cases h : x = c
    · subst h
      have hp : TL.pre [x] (x :: r) = true := by simp [TL.pre]
      rw [TL.spl_hit hp]
      show (TL.spl [x] 0 [] r).length + 1 = _
      rw [spl_count r, List.count_cons_self]
    · have hp : TL.pre [c] (x :: r) = false := TL.pre_of_head [] r h
      rw [TL.spl_miss hp, spl_count r, List.count_cons_of_ne h]
theorem count_one (a : List Nat) (c : Nat) : Txt.count ⟨a.toArray⟩ ⟨[c].toArray⟩ = (a.count c : Int) := by
  have hy : TL.tl (⟨[c].toArray⟩ : Str) ≠ [] := by simp [TL.tl]
  obtain ⟨f, g, hn⟩ := StrLaws.occ_tight ⟨a.toArray⟩ ⟨[c].toArray⟩ (TL.len1 hy)
  have key := congrArg List.length (TL.parts_spl hy _ 0 f (Nat.zero_le _) g hn)
  rw [List.length_map, parts_len, List.drop_zero] at key
  have e : TL.tl (⟨[c].toArray⟩ : Str) = [c] := rfl
  have e2 : TL.tl (⟨a.toArray⟩ : Str) = a := by simp [TL.tl]
  rw [e, e2, spl_count] at key
  unfold Txt.count
  omega
theorem find_one (a : List Nat) (c : Nat) : decide (Txt.find ⟨a.toArray⟩ ⟨[c].toArray⟩ < 0) = !decide (c ∈ a) := by
  have h := StrLaws.found_one (⟨a.toArray⟩ : Str) c
  have e2 : (⟨a.toArray⟩ : Str).cps.toList = a := by simp
  rw [e2] at h
  unfold Txt.find
  have hc : (⟨[c].toArray⟩ : Str) = ⟨#[c]⟩ := rfl
  rw [hc, ← h]
  cases Builtin.Str.occurrences ⟨a.toArray⟩ ⟨#[c]⟩ 0 (⟨a.toArray⟩ : Str).length 1 with
  | nil => rfl
  | cons i r =>
    have : ¬ ((i : Int) < 0) := by omega
    simp [this]
/-- an item of a pattern, not the gap -/
def isIt (z : List Nat) : Bool := decide (1 ≤ z.length) && decide (z.length ≤ 8) && decide (z.count 42 ≤ 1) && z.all fun c => decide (c = 42) || decide (c ∈ CH)
theorem item_ok (z : List Nat) : m_is_label_text_206f [.str z] = .ok (.bl (isIt z)) := by
  have is1 : isiD "str" (.str z) = some (.bl true) := rfl
  have hl : lenD [.str z] = some (.int z.length) := rfl
  have hc : strM (fun a b => .int (PySem.Txt.count ⟨a.toArray⟩ ⟨b.toArray⟩)) (.str z) (.str [42]) = some (.int (z.count 42 : Int)) := by
    show some (D.int (PySem.Txt.count ⟨z.toArray⟩ ⟨[42].toArray⟩)) = _
    rw [count_one]
  have hcm : (chainM leD leD (pure (.int 1)) (DL.ask (lenD [.str z])) (pure c_LONGEST_TEXT) : R D) = .ok (.bl (decide (1 ≤ (z.length : Int)) && decide ((z.length : Int) ≤ 8))) := by
    rw [hl]
    unfold chainM
    simp only [le_l, askR, pure_bind, Option.bind_some, bOf_bl, c_LONGEST_TEXT]
    cases decide (1 ≤ (z.length : Int)) <;> rfl
  have gt : (gtD (.int (z.count 42 : Int)) (.int 1)).bind bOf = some (decide ((1 : Int) < (z.count 42 : Int))) := rfl
  have ewalk : (lcF (fun d => some d) (fun (c15 : D) => (DL.andM (DL.ask ((neD c15 (.str [42])).bind bOf)) (DL.ask ((notInD c15 c_CHARACTERS).bind bOf)))) (fun (c15 : D) => (pure c15)) (chrs z) : R (List D)) = .ok ((chrs z).filter fun d => !(decide (sgn d = 42) || decide (sgn d ∈ CH))) := by
    refine (lcR (u := fun d => some d) (xe := fun c15 : D => (pure c15 : R D)) (c := fun d => d) (p := fun d => !(decide (sgn d = 42) || decide (sgn d ∈ CH))) (f := fun d => d) (chrs z) (fun _ _ => rfl) (fun d m => ?_) (fun _ _ _ => rfl)).trans ?_
    rotate_left
    · rw [List.map_id']
    · obtain ⟨c, _, rfl⟩ := chrs_mem m
      have e1 : (neD (.str [c]) (.str [42])).bind bOf = some (!decide ([c] = [42])) := by rw [ne_ss]; rfl
      have e2 : (notInD (.str [c]) c_CHARACTERS).bind bOf = some (!decide (c ∈ CH)) := notin_sign
      have e3 : decide ([c] = [42]) = decide (c = 42) := by simp
      have e4 : sgn (.str [c]) = c := rfl
      simp only [DL.andM, e1, e2, e3, e4, askR, pure_bind]
      cases decide (c = 42) <;> rfl
  unfold m_is_label_text_206f apR1
  simp only [e_is_label_text_206f, is1, DL.notM, DL.orM, askR, pure_bind, tru_bl, Bool.not_true, Bool.false_eq_true, if_false, hcm, okpR, bOf_bl, str_of, hc, gt, it_str, ewalk]
  unfold isIt
  by_cases h1 : 1 ≤ z.length
  · by_cases h2 : z.length ≤ 8
    · by_cases h3 : z.count 42 ≤ 1
      · have e1 : decide ((1 : Int) ≤ (z.length : Int)) = true := decide_eq_true (by omega)
        have e2 : decide ((z.length : Int) ≤ 8) = true := decide_eq_true (by omega)
        have e3 : decide ((1 : Int) < (z.count 42 : Int)) = false := decide_eq_false (by omega)
        simp only [e1, e2, e3, Bool.and_self, Bool.not_true, Bool.false_eq_true, if_false, decide_eq_true h1, decide_eq_true h2, decide_eq_true h3, Bool.true_and]
        rw [filter_chrs (fun c => !(decide (c = 42) || decide (c ∈ CH)))]
        have ef := filter_none (z := z) (p := fun c => decide (c = 42) || decide (c ∈ CH))
        show R.ok (D.bl (!(!(chrs (List.filter (fun c => !(decide (c = 42) || decide (c ∈ CH))) z)).isEmpty))) = _
        rw [chrs_empty, ef, Bool.not_not]
        rfl
      · have e1 : decide ((1 : Int) ≤ (z.length : Int)) = true := decide_eq_true (by omega)
        have e2 : decide ((z.length : Int) ≤ 8) = true := decide_eq_true (by omega)
        have e3 : decide ((1 : Int) < (z.count 42 : Int)) = true := decide_eq_true (by omega)
        simp only [e1, e2, e3, Bool.and_self, Bool.not_true, Bool.false_eq_true, if_false, if_true, decide_eq_false h3, Bool.and_false, Bool.false_and]
        rfl
    · have e1 : decide ((1 : Int) ≤ (z.length : Int)) = true := decide_eq_true (by omega)
      have e2 : decide ((z.length : Int) ≤ 8) = false := decide_eq_false (by omega)
      simp only [e1, e2, Bool.and_false, Bool.not_false, if_true, decide_eq_false h2, Bool.and_false, Bool.false_and]
      rfl
  · have e1 : decide ((1 : Int) ≤ (z.length : Int)) = false := decide_eq_false (by omega)
    simp only [e1, Bool.false_and, Bool.not_false, if_true, decide_eq_false h1, Bool.false_and]
    rfl
end FN
namespace FN
open DL PySem PySem.W
def gp : List Nat := [42, 42]
def gapIx : List (List Nat) → Nat → List D
  | [], _ => []
  | z :: r, k => if z = gp then .int (k : Int) :: gapIx r (k + 1) else gapIx r (k + 1)
def enumK (I : List (List Nat)) (k : Nat) : List D := match I with
  | [] => []
  | z :: r => .tup [.int (k : Int), .str z] :: enumK r (k + 1)
theorem enumK_eq : ∀ (I : List (List Nat)) (k : Nat), (I.map D.str).mapIdx (fun i d => D.tup [.int ((i + k : Nat) : Int), d]) = enumK I k
  | [], _ => rfl
  | z :: r, k => by
    rw [List.map_cons, List.mapIdx_cons]
    show _ :: _ = _ :: enumK r (k + 1)
    rw [← enumK_eq r (k + 1)]
    simp only [Nat.zero_add]
    congr 1
    congr 1
    funext i d
    rw [show i + 1 + k = i + (k + 1) by omega]
theorem enumL_strs (I : List (List Nat)) : enumL (I.map D.str) = enumK I 0 := by
  rw [← enumK_eq]
  rfl
def sndZ : D → Bool
  | .tup [_, .str z] => decide (z = gp)
  | _ => false
def fstZ : D → D
  | .tup [a, _] => a
  | d => d
def pairZ : D → D × D
  | .tup [a, b] => (a, b)
  | d => (d, d)
theorem enumK_mem : ∀ {I : List (List Nat)} {k : Nat} {d : D}, d ∈ enumK I k → ∃ (i : Int) (z : List Nat), d = .tup [.int i, .str z]
  | [], _, _, h => by cases h
  | z :: r, k, d, h => by
    have h' : d ∈ (D.tup [.int (k : Int), .str z] :: enumK r (k + 1)) := h
    rcases List.mem_cons.mp h' with rfl | h'
    · exact ⟨_, _, rfl⟩
    · exact enumK_mem h'
theorem enumK_filter : ∀ (I : List (List Nat)) (k : Nat), ((enumK I k).filter sndZ).map fstZ = gapIx I k
  | [], _ => rfl
  | z :: r, k => by
    show (List.filter sndZ (D.tup [.int (k : Int), .str z] :: enumK r (k + 1))).map fstZ = gapIx (z :: r) k
    have ih := enumK_filter r (k + 1)
    by_cases h : z = gp
    · have e : sndZ (D.tup [.int (k : Int), .str z]) = true := decide_eq_true h
      rw [List.filter_cons_of_pos e, List.map_cons, ih]
      show _ = (if z = gp then _ else _)
      rw [if_pos h]
      rfl
    · have e : ¬ sndZ (D.tup [.int (k : Int), .str z]) = true := by
        show ¬ decide (z = gp) = true
        simpa using h
      rw [List.filter_cons_of_neg e, ih]
      show _ = (if z = gp then _ else _)
      rw [if_neg h]
theorem gaps_ok (I : List (List Nat)) : (lcF un2 (fun (c8 : D × D) => (DL.ask ((eqD c8.2 c_GAP).bind bOf))) (fun (c8 : D × D) => (pure c8.1)) (enumK I 0) : R (List D)) = .ok (gapIx I 0) := by
  refine (lcR (u := un2) (xe := fun c8 : D × D => (pure c8.1 : R D)) (c := pairZ) (p := sndZ) (f := fstZ) (enumK I 0) (fun d m => ?_) (fun d m => ?_) (fun d m _ => ?_)).trans ?_
  · obtain ⟨i, z, rfl⟩ := enumK_mem m
    rfl
  · obtain ⟨i, z, rfl⟩ := enumK_mem m
    show (DL.ask ((eqD (.str z) (.str [42, 42])).bind bOf) : R Bool) = .ok (decide (z = gp))
    rw [eq_ss]
    rfl
  · obtain ⟨i, z, rfl⟩ := enumK_mem m
    rfl
  · rw [enumK_filter]
theorem gap_none : ∀ {I : List (List Nat)} {k : Nat}, gp ∉ I → gapIx I k = []
  | [], _, _ => rfl
  | z :: r, k, h => by
    show (if z = gp then _ else _) = _
    rw [if_neg fun e => h (by rw [e]; exact .head _)]
    exact gap_none fun m => h (.tail _ m)
theorem gap_one : ∀ {A B : List (List Nat)} {k : Nat}, gp ∉ A → gp ∉ B → gapIx (A ++ gp :: B) k = [.int ((k + A.length : Nat) : Int)]
  | [], B, k, _, hB => by
    show (if gp = gp then _ else _) = _
    rw [if_pos rfl, gap_none hB]
    rfl
  | z :: r, B, k, hA, hB => by
    show (if z = gp then D.int (k : Int) :: gapIx (r ++ gp :: B) (k + 1) else gapIx (r ++ gp :: B) (k + 1)) = _
    rw [if_neg fun e => hA (by rw [e]; exact .head _), gap_one (k := k + 1) (fun m => hA (.tail _ m)) hB, List.length_cons, show k + 1 + r.length = k + (r.length + 1) by omega]
theorem it_gap {z : List Nat} (h : isIt z = true) : z ≠ gp := by
  rintro rfl
  revert h
  decide
/-- the items that are no items -/
theorem bad_ok (I : List (List Nat)) (h : ∀ z ∈ I, z = gp ∨ isIt z = true) : (lcF (fun d => some d) (fun (c19 : D) => (DL.andM (DL.ask ((neD c19 c_GAP).bind bOf)) (DL.notM (do let x25 ← (Mo.lift (m_is_label_text_206f [c19])); DL.ask (truD x25))))) (fun (c19 : D) => (pure c19)) (I.map D.str) : R (List D)) = .ok [] := by
  refine (lcR (u := fun d => some d) (xe := fun c19 : D => (pure c19 : R D)) (c := fun d => d) (p := fun _ => false) (f := fun d => d) (I.map D.str) (fun _ _ => rfl) (fun d m => ?_) (fun _ _ q => by cases q)).trans ?_
  · obtain ⟨z, hz, rfl⟩ := List.mem_map.mp m
    have e1 : (neD (.str z) c_GAP).bind bOf = some (!decide (z = gp)) := by
      show (neD (.str z) (.str [42, 42])).bind bOf = _
      rw [ne_ss]
      rfl
    simp only [DL.andM, e1, askR, pure_bind, DL.notM, item_ok, lift_pR, okpR, tru_bl]
    rcases h z hz with rfl | hi
    · rfl
    · rw [hi, decide_eq_false (it_gap hi)]
      rfl
  · rw [show (I.map D.str).filter (fun _ => false) = [] from List.filter_eq_nil_iff.mpr fun _ _ => by simp]
    rfl
end FN
namespace FN
open DL PySem PySem.W
theorem cut_toD {z : List D} {n : Nat} : cutL z none (some (n : Int)) = z.take n := by rw [cut_hi (by omega)]; rfl
theorem cut_fromD {z : List D} {n : Nat} : cutL z (some ((n : Int) + 1)) none = z.drop (n + 1) := by
  have := cut_lo (z := z) (i := (n : Int) + 1) (by omega)
  rw [this]
  congr 1
def limD (a b c d : Nat) : D := .tup [.int (a : Int), .int (b : Int), .int (c : Int), .int (d : Int)]
theorem shape_plain {I : List (List Nat)} {l0 l1 mh mt : Nat} (h : ∀ z ∈ I, isIt z = true) (h0 : l0 ≤ I.length) (h1 : I.length ≤ l1) : m_shape_of_items_2081 [.lst (I.map .str), limD l0 l1 mh mt] = .ok (.tup [.tup (I.map .str), .tup [], .bl false]) := by
  have ng : gp ∉ I := fun m => it_gap (h _ m) rfl
  have e1 : enumOf [.lst (I.map D.str)] = some (enumK I 0) := congrArg some (enumL_strs I)
  have e2 : unN 4 (limD l0 l1 mh mt) = some [.int (l0 : Int), .int (l1 : Int), .int (mh : Int), .int (mt : Int)] := rfl
  have eg := gaps_ok I
  rw [gap_none ng] at eg
  have eb := bad_ok I fun z m => .inr (h z m)
  have l0' : lenD [.lst ([] : List D)] = some (.int 0) := rfl
  have g0 : (gtD (.int 0) (.int 1)).bind bOf = some false := rfl
  have hl : lenD [.lst (I.map D.str)] = some (.int (I.length : Int)) := by
    show some (D.int ((I.map D.str).length : Int)) = _
    rw [List.length_map]
  have t0 : truD (.lst ([] : List D)) = some false := rfl
  have s0 : szL [] = some [] := sz_ok (by simp)
  have ch : (chainM leD leD (pure (.int (l0 : Int))) (pure (.int (I.length : Int))) (pure (.int (l1 : Int))) : R D) = .ok (.bl true) := by
    unfold chainM
    simp only [le_l, askR, pure_bind, Option.bind_some, bOf_bl, decide_eq_true (show (l0 : Int) ≤ (I.length : Int) by omega), if_true, decide_eq_true (show (I.length : Int) ≤ (l1 : Int) by omega)]
    rfl
  unfold m_shape_of_items_2081 apR2
  simp only [e_shape_of_items_2081, e2, e1, askR, pure_bind, eg, okpR, l0', g0, DL.orM, Bool.false_eq_true, if_false, it_lst, eb, t0]
  simp only [askR, pure_bind, okpR, t0, Bool.false_eq_true, if_false, DL.notM, Bool.not_false, sqp, if_true, iteM, List.getD_cons_zero, List.getD_cons_succ, hl, ch, bOf_bl, tup_lst, s0, sz3]
  rfl
theorem shape_gap {A B : List (List Nat)} {l0 l1 mh mt : Nat} (hA : ∀ z ∈ A, isIt z = true) (hB : ∀ z ∈ B, isIt z = true) (h0 : A.length ≤ mh) (h1 : B.length ≤ mt) : m_shape_of_items_2081 [.lst ((A ++ gp :: B).map .str), limD l0 l1 mh mt] = .ok (.tup [.tup (A.map .str), .tup (B.map .str), .bl true]) := by
  have na : gp ∉ A := fun m => it_gap (hA _ m) rfl
  have nb : gp ∉ B := fun m => it_gap (hB _ m) rfl
  have e1 : enumOf [.lst ((A ++ gp :: B).map D.str)] = some (enumK (A ++ gp :: B) 0) := congrArg some (enumL_strs _)
  have e2 : unN 4 (limD l0 l1 mh mt) = some [.int (l0 : Int), .int (l1 : Int), .int (mh : Int), .int (mt : Int)] := rfl
  have eg := gaps_ok (A ++ gp :: B)
  rw [gap_one na nb, Nat.zero_add] at eg
  have eb := bad_ok (A ++ gp :: B) fun z m => by
    rcases List.mem_append.mp m with m | m
    · exact .inr (hA z m)
    · rcases List.mem_cons.mp m with m | m
      · exact .inl m
      · exact .inr (hB z m)
  have l1' : lenD [.lst [D.int (A.length : Int)]] = some (.int 1) := rfl
  have g0 : (gtD (.int 1) (.int 1)).bind bOf = some false := rfl
  have t0 : truD (.lst ([] : List D)) = some false := rfl
  have t1 : truD (.lst [D.int (A.length : Int)]) = some true := rfl
  have x0 : ixD (.lst [D.int (A.length : Int)]) (.int 0) = some (.int (A.length : Int)) := rfl
  have i0 : ∀ i : Int, intOf (.int i) = some i := fun _ => rfl
  have c1 : cutL ((A ++ gp :: B).map D.str) none (some (A.length : Int)) = A.map D.str := by
    rw [show (A ++ gp :: B).map D.str = A.map D.str ++ (gp :: B).map D.str by simp]
    have : cutL (A.map D.str ++ (gp :: B).map D.str) none (some (A.length : Int)) = (A.map D.str ++ (gp :: B).map D.str).take A.length := cut_toD
    rw [this, List.take_left' (by simp)]
  have c2 : cutL ((A ++ gp :: B).map D.str) (some ((A.length : Int) + 1)) none = B.map D.str := by
    have : cutL ((A ++ gp :: B).map D.str) (some ((A.length : Int) + 1)) none = ((A ++ gp :: B).map D.str).drop (A.length + 1) := cut_fromD
    rw [this, show (A ++ gp :: B).map D.str = (A.map D.str ++ [D.str gp]) ++ B.map D.str by simp, List.drop_left' (by simp)]
  have ll : ∀ xs : List D, lenD [.tup xs] = some (.int (xs.length : Int)) := fun _ => rfl
  have q1 : (leD (.int ((A.map D.str).length : Int)) (.int (mh : Int))).bind bOf = some true := by
    rw [le_l]
    show some (decide _) = _
    rw [decide_eq_true (by simpa using h0)]
  have q2 : (leD (.int ((B.map D.str).length : Int)) (.int (mt : Int))).bind bOf = some true := by
    rw [le_l]
    show some (decide _) = _
    rw [decide_eq_true (by simpa using h1)]
  unfold m_shape_of_items_2081 apR2
  simp only [e_shape_of_items_2081, e2, e1, askR, pure_bind, eg, okpR, l1', g0, DL.orM, Bool.false_eq_true, if_false, it_lst, eb, t0]
  simp only [askR, pure_bind, okpR, Bool.false_eq_true, if_false, t0, t1, DL.notM, Bool.not_true, sqp, x0, i0, add_ii, slice_l, c1, c2, tup_lst, ll, List.getD_cons_zero, List.getD_cons_succ, DL.andM, q1, q2, if_true, iteM, sz3]
  rfl
end FN
namespace FN
open DL PySem PySem.W
/-- items of a pattern: its head, its tail, whether a gap is between them -/
def PatI (l0 l1 mh mt : Nat) (I h t : List (List Nat)) (g : Bool) : Prop := (∀ z ∈ h ++ t, isIt z = true) ∧ ((g = false ∧ I = h ∧ t = [] ∧ l0 ≤ h.length ∧ h.length ≤ l1) ∨ (g = true ∧ I = h ++ gp :: t ∧ h.length ≤ mh ∧ t.length ≤ mt))
theorem shape_ok {l0 l1 mh mt : Nat} {I h t : List (List Nat)} {g : Bool} (p : PatI l0 l1 mh mt I h t g) : m_shape_of_items_2081 [.lst (I.map .str), limD l0 l1 mh mt] = .ok (.tup [.tup (h.map .str), .tup (t.map .str), .bl g]) := by
  obtain ⟨hz, ⟨rfl, rfl, rfl, h0, h1⟩ | ⟨rfl, rfl, h0, h1⟩⟩ := p
  · exact shape_plain (fun z m => hz z (by simpa using m)) h0 h1
  · exact shape_gap (fun z m => hz z (List.mem_append_left _ m)) (fun z m => hz z (List.mem_append_right _ m)) h0 h1
theorem pat_mem {l0 l1 mh mt : Nat} {I h t : List (List Nat)} {g : Bool} (p : PatI l0 l1 mh mt I h t g) : ∀ z ∈ I, z = gp ∨ isIt z = true := by
  obtain ⟨hz, ⟨rfl, rfl, rfl, h0, h1⟩ | ⟨rfl, rfl, h0, h1⟩⟩ := p
  · exact fun z m => .inr (hz z (by simpa using m))
  · intro z m
    rcases List.mem_append.mp m with m | m
    · exact .inr (hz z (List.mem_append_left _ m))
    · rcases List.mem_cons.mp m with m | m
      · exact .inl m
      · exact .inr (hz z (List.mem_append_right _ m))
theorem it_free {z : List Nat} {s : Nat} (h : z = gp ∨ isIt z = true) (hs : s ∉ CH) (h2 : s ≠ 42) : s ∉ z := by
  intro m
  rcases h with rfl | h
  · simp only [gp, List.mem_cons, List.not_mem_nil, or_false, or_self] at m
    exact h2 m
  · unfold isIt at h
    simp only [Bool.and_eq_true] at h
    have := List.all_eq_true.mp h.2 s m
    simp only [Bool.or_eq_true, decide_eq_true_eq] at this
    rcases this with e | e
    · exact h2 e
    · exact hs e
theorem it_len {z : List Nat} (h : z = gp ∨ isIt z = true) : z.length ≤ 8 := by
  rcases h with rfl | h
  · decide
  · unfold isIt at h
    simp only [Bool.and_eq_true, decide_eq_true_eq] at h
    exact h.1.1.2
theorem join_len {s : Nat} : ∀ {I : List (List Nat)}, (∀ z ∈ I, z.length ≤ 8) → (joinN [s] I).length ≤ 9 * I.length
  | [], _ => Nat.zero_le _
  | [p], h => by
    show p.length ≤ 9 * 1
    have := h p (.head _)
    omega
  | p :: q :: r, h => by
    show (p ++ ([s] ++ joinN [s] (q :: r))).length ≤ _
    have ih := join_len (s := s) (I := q :: r) fun z m => h z (.tail _ m)
    have := h p (.head _)
    simp only [List.length_append, List.length_cons, List.length_nil] at ih ⊢
    omega
theorem split_its {s : Nat} {I : List (List Nat)} (hs : s < 256) (hc : s ∉ CH) (h2 : s ≠ 42) (h : ∀ z ∈ I, z = gp ∨ isIt z = true) (h0 : I ≠ []) (hl : I.length ≤ 1000) : splitD (.str (joinN [s] I)) (.str [s]) = some (I.map .str) := by
  have hj := join_len (s := s) fun z m => it_len (h z m)
  show (if s < 256 ∧ (joinN [s] I).length ≤ 1000000 then some ((TL.spl [s] 0 [] (joinN [s] I)).map D.str) else none) = _
  rw [if_pos ⟨hs, by omega⟩, joinN_eq, TL.spl_join h0 fun p m => it_free (h p m) hc h2]
theorem host_shape_ok {I h t : List (List Nat)} {g : Bool} (p : PatI 1 4 3 2 I.reverse h t g) (h0 : I ≠ []) (hl : I.length ≤ 1000) : m_host_shape_b82b [.str (joinN [46] I)] = .ok (.tup [.tup (h.map .str), .tup (t.map .str), .bl g]) := by
  have e1 := split_its (s := 46) (by decide) (by decide) (by decide) (fun z m => pat_mem p z (by simpa using m)) h0 hl
  have is1 : isiD "str" (.str (joinN [46] I)) = some (.bl true) := rfl
  have er : revD (.lst (I.map D.str)) = some (.lst (I.reverse.map D.str)) := by
    show some (D.lst (I.map D.str).reverse) = _
    rw [List.map_reverse]
  have es : m_shape_of_items_2081 [.lst (I.reverse.map .str), c_HOST_LIMITS] = .ok (.tup [.tup (h.map .str), .tup (t.map .str), .bl g]) := shape_ok p
  unfold m_host_shape_b82b apR1
  simp only [e_host_shape_b82b, is1, DL.notM, askR, pure_bind, tru_bl, Bool.not_true, Bool.false_eq_true, if_false, sqp, str_of, e1, er, es, lift_pR, okpR]
  rfl
theorem path_shape_ok {I h t : List (List Nat)} {g : Bool} (p : PatI 0 3 2 2 I h t g) (hl : I.length ≤ 1000) : m_path_shape_25b3 [.str (47 :: joinN [47] I)] = .ok (.tup [.tup (h.map .str), .tup (t.map .str), .bl g]) := by
  have is1 : isiD "str" (.str (47 :: joinN [47] I)) = some (.bl true) := rfl
  have st : strM (fun a b => .bl (PySem.Txt.startswith ⟨a.toArray⟩ ⟨b.toArray⟩)) (.str (47 :: joinN [47] I)) (.str [47]) = some (.bl true) := by
    show some (D.bl (PySem.Txt.startswith ⟨(47 :: joinN [47] I).toArray⟩ ⟨[47].toArray⟩)) = _
    have h := (StrLaws.subAt_one (⟨(47 :: joinN [47] I).toArray⟩ : Str) 47 0).mpr (by simp)
    have h2 : PySem.Txt.startswith ⟨(47 :: joinN [47] I).toArray⟩ ⟨[47].toArray⟩ = true := by
      unfold PySem.Txt.startswith
      rw [Bool.and_eq_true, decide_eq_true_eq]
      exact h
    rw [h2]
  have i1 : intOf (.int 1) = some 1 := rfl
  have sl : cutL (47 :: joinN [47] I) (some 1) none = joinN [47] I := by
    rw [show (1 : Int) = ((0 : Nat) : Int) + 1 from rfl, cut_from]
    rfl
  have s0 : szL [] = some [] := sz_ok (by simp)
  have ex : (iteM (DL.ask ((neD (.str (47 :: joinN [47] I)) (.str [47])).bind bOf)) (mkL (do let x15 ← (DL.ask (some (.str (joinN [47] I)))); let _ ← DL.ask (strOf x15); DL.ask (splitD x15 (.str [47])))) (mkL (DL.ask (some []))) : R D) = .ok (.lst (I.map .str)) := by
    simp only [ne_ss, Option.bind_some, bOf_bl, askR, iteM, pure_bind, str_of]
    by_cases c : I = []
    · subst c
      rfl
    · have hne : joinN [47] I ≠ [] := by
        intro e
        cases I with
        | nil => exact c rfl
        | cons z r =>
          cases r with
          | nil =>
            have e' : z = [] := e
            rcases pat_mem p z (.head _) with q | q
            · rw [e'] at q; cases q
            · rw [e'] at q; revert q; decide
          | cons q r => 
            have e' : z ++ ([47] ++ joinN [47] (q :: r)) = [] := e
            simp at e'
      have d : decide (47 :: joinN [47] I = [47]) = false := decide_eq_false fun e => hne (by injection e)
      have e1 := split_its (s := 47) (by decide) (by decide) (by decide) (fun z m => pat_mem p z m) c hl
      simp only [d, Bool.not_false, if_true, e1, askR]
      rfl
  have es : m_shape_of_items_2081 [.lst (I.map .str), c_PATH_LIMITS] = .ok (.tup [.tup (h.map .str), .tup (t.map .str), .bl g]) := shape_ok p
  unfold m_path_shape_25b3 apR1
  simp only [e_path_shape_25b3, is1, DL.notM, DL.orM, askR, pure_bind, tru_bl, Bool.not_true, Bool.false_eq_true, if_false, sqp, str_of, st, i1, slice_s, sl, s0]
  have ex2 := ex
  simp only [askR, pure_bind, str_of] at ex2
  rw [ex2]
  simp only [okpR, pure_bind, es, lift_pR]
  rfl
end FN
namespace FN
open DL PySem PySem.W
theorem of_ok3 {ds : List D} (h0 : ds ≠ []) (h1 : ds.length ≤ 1000000) : Ok (m__law_of_68b0 [.lst ds]) fun d => d ∈ ds := by
  refine ok_runM ?_
  have hp : 0 < ds.length := List.length_pos_iff.mpr h0
  simp only [e__law_of_68b0, len_lst, askM, pure_bind]
  refine ok_then (take_ok2 (n := ds.length) (by omega) (by omega)) ?_
  rintro d ⟨i, rfl, h2, h3⟩
  simp only [ix_lst h2 h3, askM, pure_bind]
  exact ok_pure (List.getElem_mem _)
/-! ### rules of all pages: their ports -/
def iPd (i j : Int) : D := .tup [.int i, .int j]
theorem num_ne {i : Int} (h1 : 0 ≤ i) {c : Nat} (hc : c < 48 ∨ 57 < c) : decide (numD i = [c]) = false := decide_eq_false fun e => num_free hc h1 (by rw [e]; simp)
theorem ports_nil : m_ports_of_0eba [.str []] = .ok .non := by
  have e1 : partD (.str []) (.str [45]) = some (.tup [.str [], .str [], .str []]) := part_none (by simp) (by simp) rfl
  have h := port_of_any []
  have p0 : m_port_of_e04e [.str []] = .ok .non := h
  have d0 : decide (([] : List Nat) = [42]) = false := by decide
  unfold m_ports_of_0eba apR1
  simp only [e_ports_of_0eba, eq_ss, d0, Option.bind_some, bOf_bl, askR, pure_bind, Bool.false_eq_true, if_false, str_of, e1, un3_3, lift_pR, okpR, p0]
  rfl
theorem ports_star : m_ports_of_0eba [.str [42]] = .ok (iPd 1 65535) := by
  unfold m_ports_of_0eba apR1
  simp only [e_ports_of_0eba, eq_ss, decide_true, Option.bind_some, bOf_bl, askR, pure_bind, if_true]
  rfl
theorem ports_one {i : Int} (h1 : 1 ≤ i) (h2 : i ≤ 65535) : m_ports_of_0eba [.str (numD i)] = .ok (iPd i i) := by
  have hn := num_len (i := i) (by omega)
  have e1 : partD (.str (numD i)) (.str [45]) = some (.tup [.str (numD i), .str [], .str []]) := part_none (by simp) (by omega) (TL.par_none1 (num_free (by omega) (by omega)))
  have isn : isD (.int i) .non = some (.bl false) := rfl
  have d2 : decide (([] : List Nat) = [45]) = false := by decide
  unfold m_ports_of_0eba apR1
  simp only [e_ports_of_0eba, eq_ss, num_ne (by omega : 0 ≤ i) (by omega : 42 < 48 ∨ 57 < 42), Option.bind_some, bOf_bl, askR, pure_bind, Bool.false_eq_true, if_false, str_of, e1, un3_3, lift_pR, okpR, port_of_ok h1 h2, decide_true, iteM, if_true, isn, DL.orM, DL.andM, d2, sz2]
  rfl
theorem ports_two {i j : Int} (h1 : 1 ≤ i) (h2 : i < j) (h3 : j ≤ 65535) : m_ports_of_0eba [.str (numD i ++ 45 :: numD j)] = .ok (iPd i j) := by
  have hn := num_len (i := i) (by omega)
  have hm := num_len (i := j) (by omega)
  have e1 : partD (.str (numD i ++ 45 :: numD j)) (.str [45]) = some (.tup [.str (numD i), .str [45], .str (numD j)]) := part_some (by simp) (by simp; omega) (TL.par_part1 (s := 45) (S := []) (p := numD i) (rest := numD j) (acc := []) (num_free (by omega) (by omega)))
  have d0 : decide (numD i ++ 45 :: numD j = [42]) = false := decide_eq_false fun e => by
    have : (45 : Nat) ∈ ([42] : List Nat) := by rw [← e]; simp
    simp at this
  have isn : ∀ k : Int, isD (.int k) .non = some (.bl false) := fun _ => rfl
  have d2 : decide (([45] : List Nat) = []) = false := by decide
  have ge : geD (.int i) (.int j) = some (.bl (decide (j ≤ i))) := rfl
  unfold m_ports_of_0eba apR1
  simp only [e_ports_of_0eba, eq_ss, d0, Option.bind_some, bOf_bl, askR, pure_bind, Bool.false_eq_true, if_false, str_of, e1, un3_3, lift_pR, okpR, port_of_ok h1 (by omega : i ≤ 65535), port_of_ok (by omega : 1 ≤ j) h3, decide_true, iteM, if_true, isn, DL.orM, DL.andM, d2, ge, decide_eq_false (by omega : ¬ j ≤ i), sz2]
  rfl
def Dr (t : List Nat) (pd : D) : Prop := (t = [] ∧ pd = .non) ∨ ∃ u lo hi, t = 58 :: u ∧ pd = iPd lo hi ∧ 1 ≤ lo ∧ lo ≤ hi ∧ hi ≤ 65535 ∧ m_ports_of_0eba [.str u] = .ok (iPd lo hi) ∧ 47 ∉ u ∧ (∀ c ∈ u, c < 1114112) ∧ u.length ≤ 100
theorem ports_ok : Ok (m__law_ports_a185 []) fun d => ∃ t pd, d = .tup [.str t, pd] ∧ Dr t pd := by
  unfold m__law_ports_a185 apM0
  refine ok_runM ?_
  rw [e__law_ports_a185]
  refine ok_then (take_ok2 (by decide) (by decide)) fun v1 hv => ?_
  obtain ⟨w, rfl, w0, w1⟩ := hv
  refine ok_then (take_ok2 (by decide) (by decide)) fun y10 hy => ?_
  obtain ⟨k, rfl, k0, k1⟩ := hy
  refine ok_bind (ok_ask add_ii ?_)
  refine ok_bind (ok_ask (sz_ok (by simp)) ?_)
  refine ok_then (of_ok3 (by simp) (by simp)) fun v2 hm => ?_
  obtain ⟨lo, rfl, l1, l2⟩ : ∃ lo : Int, v2 = .int lo ∧ 1 ≤ lo ∧ lo ≤ 65534 := by
    simp only [List.mem_cons, List.not_mem_nil, or_false] at hm
    rcases hm with rfl | rfl | rfl | rfl | rfl | rfl | rfl | rfl
    all_goals exact ⟨_, rfl, by omega, by omega⟩
  refine ok_bind (ok_ask lti ?_)
  refine ok_seq ?_
  refine ok_ite (fun _ => ?_) (fun hw => ok_pure ?_)
  · exact ok_bind (ok_ask sz2 (ok_pure ⟨[], .non, rfl, .inl ⟨rfl, rfl⟩⟩))
  refine ok_bind (ok_ask eqi ?_)
  refine ok_seq ?_
  refine ok_ite (fun _ => ?_) (fun hw2 => ok_pure ?_)
  · refine ok_bind (ok_ask sz2 (ok_bind (ok_ask sz2 (ok_pure ⟨[58, 42], _, rfl, .inr ⟨[42], 1, 65535, rfl, rfl, by omega, by omega, by omega, ports_star, by decide, by decide, by decide⟩⟩))))
  refine ok_bind (ok_ask eqi ?_)
  refine ok_seq ?_
  refine ok_ite (fun _ => ?_) (fun hw3 => ok_pure ?_)
  · refine ok_then (take_ok2 (by decide) (by decide)) fun y hy => ?_
    obtain ⟨q, rfl, q0, q1⟩ := hy
    have hn := num_len (i := lo + q) (by omega)
    refine ok_bind (ok_ask add_ii ?_)
    refine ok_bind (ok_ask (str_i (by omega)) ?_)
    refine ok_bind (ok_ask (add_ss (by simp; omega)) ?_)
    refine ok_bind (ok_ask sz2 (ok_bind (ok_ask sz2 (ok_pure ⟨58 :: numD (lo + q), _, rfl, .inr ⟨_, lo + q, lo + q, rfl, rfl, by omega, by omega, by omega, ports_one (by omega) (by omega), num_free (by omega) (by omega), num_tx (by omega), by omega⟩⟩))))
  refine ok_bind (ok_ask add_ii ?_)
  refine ok_then (P := fun d : D => ∃ q : Int, d = D.int q ∧ 0 ≤ q ∧ q < 65535 - lo) ?_ fun y95 hy => ?_
  · unfold iteM
    refine ok_bind (ok_ask eqi ?_)
    refine ok_ite (fun _ => ?_) (fun _ => ok_pure ⟨0, rfl, by omega, by omega⟩)
    refine ok_bind (ok_ask sub_ii ?_)
    exact take_ok2 (by omega) (by omega)
  obtain ⟨q, rfl, q0, q1⟩ := hy
  have hn := num_len (i := lo) (by omega)
  have hm := num_len (i := lo + 1 + q) (by omega)
  refine ok_bind (ok_ask add_ii ?_)
  refine ok_bind (ok_ask (str_i (by omega)) ?_)
  refine ok_bind (ok_ask (add_ss (by simp; omega)) ?_)
  refine ok_bind (ok_ask (add_ss (by simp; omega)) ?_)
  refine ok_bind (ok_ask (str_i (by omega)) ?_)
  refine ok_bind (ok_ask (add_ss (by simp; omega)) ?_)
  refine ok_bind (ok_ask sz2 (ok_bind (ok_ask sz2 (ok_pure ⟨58 :: (numD lo ++ 45 :: numD (lo + 1 + q)), _, ?_, .inr ⟨_, lo, lo + 1 + q, rfl, rfl, by omega, by omega, by omega, ports_two (by omega) (by omega) (by omega), ?_, ?_, ?_⟩⟩))))
  · simp [iPd]
  · intro m
    rcases List.mem_append.mp m with m | m
    · exact num_free (by omega) (by omega) m
    · rcases List.mem_cons.mp m with m | m
      · omega
      · exact num_free (by omega) (by omega) m
  · intro c m
    rcases List.mem_append.mp m with m | m
    · exact num_tx (by omega) c m
    · rcases List.mem_cons.mp m with m | m
      · omega
      · exact num_tx (by omega) c m
  · simp; omega
theorem in_strsT {k : Nat} {z : List Nat} {S : List (List Nat)} (h : Tx k z) (hz : ∀ w ∈ S, Tx 1000 w) : inP (.str z) (.tup (S.map .str)) = some (decide (z ∈ S)) := by
  have e : inP (.str z) (.tup (S.map .str)) = match toPy (.str z), toPy (.tup (S.map .str)) with
    | some x, some (.tuple ys) => if SeqAt.shaped x && SeqAt.shaped (.tuple ys) then some (ys.any fun z => PyData.eqv z x) else none
    | _, _ => none := by
    unfold inP
    split
    · rename_i q; cases q
    · rename_i q; cases q
    · rename_i ds _ q; cases q; rfl
    · rename_i q1 q2 q3; first | exact absurd rfl (q1 _) | exact absurd rfl (q2 _) | exact absurd rfl (q3 _)
  rw [e, toPy, toPy, toPyL_strs]
  simp only [Option.map_some, shaped_str h, (shaped_strs hz).2, Bool.and_self, if_true, any_strs]
theorem notin_T {k : Nat} {z : List Nat} {S : List (List Nat)} (h : Tx k z) (hz : ∀ w ∈ S, Tx 1000 w) : (notInD (.str z) (.tup (S.map .str))).bind bOf = some (!decide (z ∈ S)) := by
  unfold notInD
  rw [in_strsT h hz]
  rfl
theorem tx_all {S : List (List Nat)} (h : (S.all fun w => decide (w.length ≤ 1000) && w.all fun c => decide (c < 1114112)) = true) : ∀ w ∈ S, Tx 1000 w := fun w m => by
  have := List.all_eq_true.mp h w m
  simp only [Bool.and_eq_true, decide_eq_true_eq, List.all_eq_true] at this
  exact ⟨this.1, fun c hc => by simpa using this.2 c hc⟩
theorem ix_zero {c : Nat} {r : List Nat} : ixD (.str (c :: r)) (.int 0) = some (.str [c]) := by
  unfold ixD L2.atI
  simp only [ixN_ok (n := (c :: r).length) (i := 0) (Int.le_refl 0) (by simp)]
  rfl
def Sg (s : List Nat) : Prop := s = [43] ∨ s = [45]
def Wd (w : List Nat) : Prop := w = [97, 110, 121] ∨ w = kHttp ∨ w = kHttps
def wrt (t : List Nat) : List Nat := t.drop 1
def ruT (s w nm t pj : List Nat) : List Nat := s ++ [32] ++ w ++ [58, 47, 47] ++ nm ++ t ++ [47] ++ pj
theorem dr_facts {t : List Nat} {pd : D} (ht : Dr t pd) : m_ports_of_0eba [.str (wrt t)] = .ok pd ∧ (isD pd .non = some (.bl (decide (t = [])))) ∧ t.length ≤ 101 ∧ 47 ∉ t ∧ (∀ c ∈ t, c < 1114112) ∧ (t = [] ∨ t = 58 :: wrt t) := by
  rcases ht with ⟨rfl, rfl⟩ | ⟨u, lo, hi, rfl, rfl, _, _, _, e, h1, h2, h3⟩
  · exact ⟨ports_nil, rfl, by simp, by simp, by simp, .inl rfl⟩
  · refine ⟨e, rfl, by simp; omega, ?_, ?_, .inr rfl⟩
    · intro m
      rcases List.mem_cons.mp m with m | m
      · omega
      · exact h1 m
    · intro c m
      rcases List.mem_cons.mp m with m | m
      · omega
      · exact h2 c m
theorem parts38 {s w nm t pj : List Nat} {pd : D} (hs : Sg s) (hw : Wd w) (ht : Dr t pd) (hn1 : 47 ∉ nm) (hn2 : 58 ∉ nm) (hnl : nm.length ≤ 1000) (hpl : pj.length ≤ 1000) : m_rule_parts_d2df [.str (ruT s w nm t pj)] = .ok (.tup [.str s, .str w, .str nm, .str (wrt t), .str (47 :: pj)]) := by
  obtain ⟨hp, hn, z1, z2, z3, hcase⟩ := dr_facts ht
  have hsl : s.length = 1 := by rcases hs with rfl | rfl <;> rfl
  have hwl : w.length ≤ 5 := by rcases hw with rfl | rfl | rfl <;> decide
  have e0 : isiD "str" (.str (ruT s w nm t pj)) = some (.bl true) := rfl
  have et : cutL (ruT s w nm t pj) none (some 2) = s ++ [32] := by
    rw [show (2 : Int) = ((2 : Nat) : Int) from rfl, cut_to]
    rcases hs with rfl | rfl <;> rfl
  have ed : cutL (ruT s w nm t pj) (some 2) none = w ++ ([58, 47, 47] ++ (nm ++ t ++ (47 :: pj))) := by
    rw [show (2 : Int) = ((1 : Nat) : Int) + 1 from rfl, cut_from]
    rcases hs with rfl | rfl <;> simp [ruT]
  have ein : (notInD (.str (s ++ [32])) (.tup [.str [43, 32], .str [45, 32]])).bind bOf = some false := by
    have tx : Tx 2 (s ++ [32]) := by rcases hs with rfl | rfl <;> exact ⟨by decide, by decide⟩
    have := notin_T (S := [[43, 32], [45, 32]]) tx (tx_all (by decide))
    rw [show decide (s ++ [32] ∈ ([[43, 32], [45, 32]] : List (List Nat))) = true by rcases hs with rfl | rfl <;> decide] at this
    exact this
  have ep1 : partD (.str (w ++ ([58, 47, 47] ++ (nm ++ t ++ (47 :: pj))))) (.str [58, 47, 47]) = some (.tup [.str w, .str [58, 47, 47], .str (nm ++ t ++ (47 :: pj))]) := part_some (by simp) (by simp; omega) (TL.par_part1 (s := 58) (S := [47, 47]) (acc := []) (by rcases hw with rfl | rfl | rfl <;> decide))
  have ein2 : (notInD (.str w) (.tup [.str [104, 116, 116, 112], .str [104, 116, 116, 112, 115], .str [97, 110, 121]])).bind bOf = some false := by
    have tx : Tx 5 w := by rcases hw with rfl | rfl | rfl <;> exact ⟨by decide, by decide⟩
    have := notin_T (S := [kHttp, kHttps, [97, 110, 121]]) tx (tx_all (by decide))
    rw [show decide (w ∈ ([kHttp, kHttps, [97, 110, 121]] : List (List Nat))) = true by rcases hw with rfl | rfl | rfl <;> decide] at this
    exact this
  have ep2 : partD (.str (nm ++ t ++ (47 :: pj))) (.str [47]) = some (.tup [.str (nm ++ t), .str [47], .str pj]) := part_some (by simp) (by simp; omega) (TL.par_part1 (s := 47) (S := []) (p := nm ++ t) (rest := pj) (acc := []) (by simp; exact ⟨hn1, z2⟩))
  have ep3 : partD (.str (nm ++ t)) (.str [58]) = some (.tup [.str nm, .str (if t = [] then [] else [58]), .str (wrt t)]) := by
    rcases hcase with rfl | hc
    · rw [List.append_nil]
      exact part_none (by simp) (by omega) (TL.par_none1 hn2)
    · rw [if_neg (by rw [hc]; simp)]
      have h1 := part_some (z := nm ++ t) (S := [58]) (p := nm) (q := wrt t) (by simp) (by simp; omega) (by
        rw [hc]
        exact TL.par_part1 (s := 58) (S := []) (p := nm) (rest := wrt (58 :: wrt t)) (acc := []) hn2)
      exact h1
  have eor : (DL.andM (DL.ask ((eqD (.str (if t = [] then [] else [58])) (.str [58])).bind bOf)) (do let x56 ← (Mo.lift (m_ports_of_0eba [.str (wrt t)])); DL.ask ((isD x56 .non).bind bOf)) : R Bool) = .ok false := by
    rw [hp]
    by_cases c : t = []
    · rw [if_pos c]; rfl
    · rw [if_neg c]
      simp only [eq_ss, decide_true, Option.bind_some, bOf_bl, askR, DL.andM, pure_bind, if_true, lift_pR, okpR, hn, decide_eq_false c]
  have e0i : ixD (.str (ruT s w nm t pj)) (.int 0) = some (.str s) := by
    rcases hs with rfl | rfl <;> exact ix_zero
  have esz : ∀ a b c d e : D, szL [a, b, c, d, e] = some [a, b, c, d, e] := fun a b c d e => sz_ok (by simp)
  have esz3 : ∀ a b c : D, szL [a, b, c] = some [a, b, c] := fun a b c => sz_ok (by simp)
  have d1 : decide (([58, 47, 47] : List Nat) = []) = false := by decide
  have d2 : decide (([47] : List Nat) = []) = false := by decide
  have i2 : intOf (.int 2) = some 2 := rfl
  have ea : addD (.str [47]) (.str pj) = some (.str (47 :: pj)) := add_ss (by simp; omega)
  unfold m_rule_parts_d2df apR1
  simp only [e_rule_parts_d2df, e0, DL.notM, DL.orM, askR, pure_bind, tru_bl, Bool.not_true, Bool.false_eq_true, if_false, i2, slice_s, et, ed, sz2, ein, str_of, ep1, un3_3, eq_ss, d1, Option.bind_some, bOf_bl, esz3, ein2, ep2, ep3, d2, eor, okpR, e0i, ea, esz]
  rw [show (DL.andM (pure (decide ((if t = [] then [] else [58]) = [58]))) (do let x56 ← (Mo.lift (m_ports_of_0eba [.str (wrt t)])); DL.ask ((isD x56 .non).bind bOf)) : R Bool) = pure false from by
    have := eor
    simpa only [eq_ss, Option.bind_some, bOf_bl, askR, okpR] using this]
  rfl
end FN
namespace FN
open DL PySem PySem.W
def PNs : List Str := ["text", "level", "head", "tail", "gap"]
def RNs : List Str := ["text", "sign", "scheme", "written_ports", "ports", "near", "host", "path"]
def ptF (x : List Nat) (lv : D) (h t : List (List Nat)) (g : Bool) : List D := [.str x, lv, .tup (h.map .str), .tup (t.map .str), .bl g]
theorem pat_init {x lv : D} {h t : List (List Nat)} {g : Bool} : m_Pattern_init_4a0d [x, lv, .tup [.tup (h.map .str), .tup (t.map .str), .bl g]] = .ok [x, lv, .tup (h.map .str), .tup (t.map .str), .bl g] := rfl
theorem host_init38 {I h t : List (List Nat)} {g : Bool} (p : PatI 1 4 3 2 I.reverse h t g) (h0 : I ≠ []) (hl : I.length ≤ 1000) : m_HostPattern_init_23dd [.str (joinN [46] I)] = .ok (ptF (joinN [46] I) c_HOST h t g) := by
  unfold m_HostPattern_init_23dd apI1
  simp only [pure_bind, host_shape_ok p h0 hl, lift_pR, okpR, pat_init]
  rfl
theorem path_init38 {I h t : List (List Nat)} {g : Bool} (p : PatI 0 3 2 2 I h t g) (hl : I.length ≤ 1000) : m_PathPattern_init_28de [.str (47 :: joinN [47] I)] = .ok (ptF (47 :: joinN [47] I) c_PATH h t g) := by
  unfold m_PathPattern_init_28de apI1
  simp only [pure_bind, path_shape_ok p hl, lift_pR, okpR, pat_init]
  rfl
/-- a rule's host part: its name, near, host -/
inductive NmK : List Nat → D → D → Prop
  | near {A : List (List Nat)} (h0 : A ≠ []) (hl : A.length ≤ 4) (hA : ∀ z ∈ A, isLab 20 z = true) : NmK (126 :: joinN [46] A) (.tup (A.map .str)) .non
  | host {I h t : List (List Nat)} {g : Bool} (p : PatI 1 4 3 2 I.reverse h t g) (h0 : I ≠ []) (hl : I.length ≤ 10) : NmK (joinN [46] I) .non (.ins "HostPattern" PNs (ptF (joinN [46] I) c_HOST h t g))
inductive PjK : List Nat → D → Prop
  | mk {J h t : List (List Nat)} {g : Bool} (p : PatI 0 3 2 2 J h t g) (hl : J.length ≤ 10) : PjK (joinN [47] J) (.ins "PathPattern" PNs (ptF (47 :: joinN [47] J) c_PATH h t g))
theorem near_ok38 {A : List (List Nat)} (h0 : A ≠ []) (hl : A.length ≤ 4) (hA : ∀ z ∈ A, isLab 20 z = true) : m_near_of_fb19 [.str (joinN [46] A)] = .ok (.tup (A.map .str)) := by
  have hr : okRow A = true := row_of (by omega) hA
  have hj := (join_row2 (S := [46]) hr (by simp)).2
  have e1 := split_ok (A := A) (s := 46) (by omega) (by decide) hA h0 (by omega)
  have e2 : m_is_host_45ba [.tup (A.map .str)] = .ok (.bl true) := by
    rw [is_host_row, hr]
    cases A with
    | nil => exact absurd rfl h0
    | cons _ _ => rfl
  have ll : ∀ xs : List D, lenD [.tup xs] = some (.int (xs.length : Int)) := fun _ => rfl
  have q1 : (leD (.int ((A.map D.str).length : Int)) c_MOST_NEAR).bind bOf = some true := by
    show (leD (.int ((A.map D.str).length : Int)) (.int 4)).bind bOf = _
    rw [le_l]
    show some (decide _) = _
    rw [decide_eq_true (by rw [List.length_map]; omega)]
  unfold m_near_of_fb19 apR1
  simp only [e_near_of_fb19, str_of, askR, pure_bind, e1, tup_lst, e2, lift_pR, okpR, tru_bl, DL.andM, if_true, ll, q1, iteM]
  rfl
theorem its_free {s : Nat} (hs : s ∉ CH) (h1 : s ≠ 42) (h2 : s ≠ 46) : ∀ {I : List (List Nat)}, (∀ z ∈ I, z = gp ∨ isIt z = true) → s ∉ joinN [46] I
  | [], _, m => by cases m
  | [z], h, m => it_free (h z (.head _)) hs h1 m
  | z :: q :: r, h, m => by
    have m' : s ∈ z ++ ([46] ++ joinN [46] (q :: r)) := m
    rcases List.mem_append.mp m' with m' | m'
    · exact it_free (h z (.head _)) hs h1 m'
    · rcases List.mem_append.mp m' with m' | m'
      · exact h2 (by simpa using m')
      · exact its_free hs h1 h2 (fun z m => h z (.tail _ m)) m'
theorem nm_free {nm : List Nat} {n h : D} (k : NmK nm n h) {s : Nat} (hs : s ∉ CH) (h1 : s ≠ 42) (h2 : s ≠ 46) (h3 : s ≠ 126) : s ∉ nm := by
  cases k with
  | near h0 hl hA =>
    intro m
    rcases List.mem_cons.mp m with m | m
    · exact h3 m
    · exact join_free (s := s) (t := 46) hs h2 hA m
  | host p h0 hl =>
    have pm := pat_mem p
    intro m
    exact its_free hs h1 h2 (fun z m => pm z (by simpa using m)) m
theorem nm_len {nm : List Nat} {n h : D} (k : NmK nm n h) : nm.length ≤ 1000 := by
  cases k with
  | near h0 hl hA =>
    have hr : okRow _ = true := row_of (by omega) hA
    have e : ∀ {A : List (List Nat)}, (∀ z ∈ A, z.length ≤ 20) → (joinN [46] A).length ≤ 21 * A.length := by
      intro A
      induction A with
      | nil => intro _; exact Nat.zero_le _
      | cons z r ih =>
        intro h
        cases r with
        | nil =>
          show z.length ≤ 21 * 1
          have := h z (.head _)
          omega
        | cons q r =>
          show (z ++ ([46] ++ joinN [46] (q :: r))).length ≤ _
          have := ih fun z m => h z (.tail _ m)
          have := h z (.head _)
          simp only [List.length_append, List.length_cons, List.length_nil] at *
          omega
    have := e fun z m => (lab_tx (hA z m)).1
    simp only [List.length_cons]
    have hl' := hl
    omega
  | host p h0 hl =>
    have := join_len (s := 46) fun z m => it_len (pat_mem p z (by simpa using m))
    omega
theorem pj_len {pj : List Nat} {d : D} (k : PjK pj d) : pj.length ≤ 1000 := by
  cases k with
  | mk p hl =>
    have := join_len (s := 47) fun z m => it_len (pat_mem p z m)
    omega
def ruF (s w nm t pj : List Nat) (pd near host path : D) : List D := [.str (ruT s w nm t pj), .str s, .str w, .str (wrt t), pd, near, host, path]
theorem init38 {s w nm t pj : List Nat} {pd near host path : D} (hs : Sg s) (hw : Wd w) (ht : Dr t pd) (hn : NmK nm near host) (hp : PjK pj path) : m_Rule_init_6a3b [.str (ruT s w nm t pj)] = .ok (ruF s w nm t pj pd near host path) := by
  have h1 := parts38 (pj := pj) hs hw ht (nm_free hn (s := 47) (by decide) (by decide) (by decide) (by decide)) (nm_free hn (s := 58) (by decide) (by decide) (by decide) (by decide)) (nm_len hn) (pj_len hp)
  have h2 := (dr_facts ht).1
  have isn : ∀ xs : List D, isD (.tup xs) .non = some (.bl false) := fun _ => rfl
  have isnn : isD .non .non = some (.bl true) := rfl
  have un5 : ∀ a b c d e : D, unN 5 (.tup [a, b, c, d, e]) = some [a, b, c, d, e] := fun _ _ _ _ _ => rfl
  have i1 : intOf (.int 1) = some 1 := rfl
  have ct : cutL nm none (some 1) = nm.take 1 := by rw [show (1 : Int) = ((1 : Nat) : Int) from rfl, cut_to]
  have cf : cutL nm (some 1) none = nm.drop 1 := by rw [show (1 : Int) = ((0 : Nat) : Int) + 1 from rfl, cut_from]
  unfold m_Rule_init_6a3b apI1
  simp only [e_Rule_init_6a3b, h1, lift_pR, okpR, pure_bind, isn, askR, Option.bind_some, bOf_bl, Bool.false_eq_true, if_false, un5, sqp, List.getD_cons_zero, List.getD_cons_succ, h2, i1, slice_s, ct, cf, eq_ss, iteM]
  cases hp with
  | mk p hl =>
    have ep := path_init38 p (by omega)
    cases hn with
    | near h0 hl hA =>
      simp only [List.take_succ_cons, List.take_zero, decide_true, if_true, List.drop_succ_cons, List.drop_zero, near_ok38 h0 hl hA, okpR, pure_bind, ep, isn, askR, Option.bind_some, bOf_bl, Bool.false_eq_true, if_false]
      rfl
    | host q h0 hl2 =>
      have hnf : decide (List.take 1 (joinN [46] _) = [126]) = false := decide_eq_false fun e => its_free (s := 126) (by decide) (by decide) (by decide) (fun z m => pat_mem q z (by simpa using m)) (List.mem_of_mem_take (i := 1) (by rw [e]; exact .head _))
      simp only [hnf, Bool.false_eq_true, if_false, pure_bind, ep, isnn, askR, Option.bind_some, bOf_bl, if_true, host_init38 q h0 (by omega), okpR]
      rfl
end FN
namespace FN
open DL PySem PySem.W
theorem of_str38 {cs : List Nat} (h0 : cs ≠ []) (h1 : cs.length ≤ 1000000) : Ok (m__law_of_68b0 [.str cs]) fun d => ∃ c ∈ cs, d = .str [c] := by
  refine ok_runM ?_
  simp only [e__law_of_68b0, len_str, askM, pure_bind]
  have hp : 0 < cs.length := List.length_pos_iff.mpr h0
  refine ok_then (take_ok2 (n := (cs.length : Int)) (by omega) (by omega)) ?_
  rintro d ⟨i, rfl, i0, i1⟩
  obtain ⟨c, hc, e⟩ := ix_str i0 i1
  simp only [e, askM, pure_bind]
  exact ok_pure ⟨c, hc, rfl⟩
theorem labels38_ok : Ok (m__law_labels_5296 [.int 4]) fun d => ∃ zs : List (List Nat), d = .lst (zs.map .str) ∧ zs.length = 4 ∧ ∀ z ∈ zs, isLab 8 z = true := by
  have s0 : szL [] = some [] := sz_ok (by simp)
  refine ok_runM ?_
  simp only [e__law_labels_5296, list_s, askM, pure_bind]
  rw [show szL (chrs [48, 49, 50, 51, 52, 53, 54, 55, 56, 57, 97, 98, 99, 100, 101, 102, 103, 104, 105, 106, 107, 108, 109, 110, 111, 112, 113, 114, 115, 116, 117, 118, 119, 120, 121, 122]) = some (chrs CH) from szCH]
  simp only [askM, pure_bind, s0, sz_ok, List.length_cons, List.length_nil, Nat.reduceAdd, Nat.reduceLeDiff]
  refine ok_then (of_ok3 (by simp) (by simp)) ?_
  intro d hd
  obtain ⟨j, rfl, h4, h5⟩ : ∃ j : Int, d = .int j ∧ 0 ≤ j ∧ j ≤ 7 := by
    simp only [List.mem_cons, List.not_mem_nil, or_false] at hd
    rcases hd with rfl | rfl | rfl | rfl | rfl | rfl <;> exact ⟨_, rfl, by omega, by omega⟩
  clear hd
  rw [rng1_ok (j := j) (by omega) (by omega)]
  simp only [askM, pure_bind]
  refine ok_seqP (fun q => ∃ z, q = .str z ∧ z.length ≤ 7 ∧ ∀ c ∈ z, c ∈ CH) (ok_for (fun n q => ∃ z, q = .str z ∧ z.length ≤ n ∧ ∀ c ∈ z, c ∈ CH) _ _ ⟨[], rfl, by simp, by simp⟩ (fun n d q hd hq => ⟨d, rfl, ?_⟩) ?_) ?_
  · obtain ⟨z, rfl, hz, hm⟩ := hq
    have hn : n < 7 := by have := (range_get hd).1; omega
    refine ok_then (of_str38 (cs := CH) (by decide) (by decide)) ?_
    rintro d ⟨c, hc, rfl⟩
    rw [add_ss (by simp; omega)]
    simp only [askM, pure_bind]
    refine ok_pure ⟨z ++ [c], rfl, by simp; omega, fun x hx => ?_⟩
    rcases List.mem_append.mp hx with hx | hx
    · exact hm x hx
    · rw [List.mem_singleton.mp hx]; exact hc
  · rintro q ⟨z, rfl, hz, hm⟩
    rw [range_len] at hz
    exact ⟨z, rfl, by omega, hm⟩
  rintro q ⟨z, rfl, hz, hm⟩
  simp only [len_str, add_ii, askM, pure_bind]
  refine ok_then (take_ok2 (n := (z.length : Int) + 1) (by omega) (by omega)) ?_
  rintro d ⟨p, rfl, p0, p1⟩
  rw [rng1_ok (j := 4) (by omega) (by omega)]
  simp only [askM, pure_bind]
  refine ok_seqP (fun q => ∃ zs : List (List Nat), q.2 = zs.map .str ∧ zs.length = 4 ∧ ∀ z ∈ zs, isLab 8 z = true) (ok_for (fun n q => ∃ (cs : List Nat) (zs : List (List Nat)), q.1 = chrs cs ∧ cs.length + n = 36 ∧ (∀ c ∈ cs, c ∈ CH) ∧ q.2 = zs.map .str ∧ zs.length = n ∧ ∀ z ∈ zs, isLab 8 z = true) _ _ ⟨CH, [], rfl, rfl, fun _ m => m, rfl, rfl, by simp⟩ (fun n d q hd hq => ⟨d, rfl, ?_⟩) ?_) ?_
  · obtain ⟨cs, zs, e1, hl, hc, e2, hzl, hzs⟩ := hq
    have hn : n < 4 := by have := (range_get hd).1; omega
    obtain ⟨q1, q2⟩ := q
    have e1' : q1 = chrs cs := e1
    have e2' : q2 = zs.map .str := e2
    subst e1'
    subst e2'
    clear e1 e2
    simp only [len_lst, chrs_len, noexM, askM, pure_bind, flat_int]
    refine ok_then (take_ok2 (n := (cs.length : Int)) (by omega) (by omega)) ?_
    rintro d ⟨i, rfl, i0, i1⟩
    rw [pop_ok i0 (by rw [chrs_len]; exact i1)]
    have eg : (chrs cs)[i.toNat]'(by rw [chrs_len]; omega) = .str [cs[i.toNat]'(by omega)] := by simp [chrs]
    have ee : (chrs cs).eraseIdx i.toNat = chrs (cs.eraseIdx i.toNat) := erase_map _ _ _
    have hci : cs[i.toNat]'(by omega) ∈ CH := hc _ (List.getElem_mem _)
    simp only [askM, pure_bind, eg, ee, int_of, slice_s]
    generalize cs[i.toNat]'(by omega) = c at hci ⊢
    have k1 := cutL_len z none (some p)
    have k2 := cutL_len z (some p) none
    rw [add_ss (by simp only [List.length_singleton]; omega)]
    simp only [askM, pure_bind]
    rw [add_ss (by simp only [List.length_append, List.length_singleton]; omega)]
    simp only [askM, pure_bind]
    rw [apd_ok (by rw [List.length_map]; omega)]
    simp only [askM, pure_bind]
    refine ok_pure ⟨cs.eraseIdx i.toNat, zs ++ [cutL z none (some p) ++ [c] ++ cutL z (some p) none], rfl, ?_, fun x hx => hc x (List.mem_of_mem_eraseIdx hx), by simp, by simp; omega, fun x hx => ?_⟩
    · rw [List.length_eraseIdx]
      rw [if_pos (by omega)]; omega
    · rcases List.mem_append.mp hx with hx | hx
      · exact hzs x hx
      · rw [List.mem_singleton.mp hx]
        obtain ⟨pn, rfl⟩ := Int.eq_ofNat_of_zero_le p0
        have t1 : cutL z none (some (pn : Int)) = z.take pn := by rw [cut_hi (by omega)]; rfl
        have t2 : cutL z (some (pn : Int)) none = z.drop pn := by rw [cut_lo (by omega)]; rfl
        refine isLab_iff.mpr ⟨?_, ?_, ?_⟩
        · simp only [List.length_append, List.length_singleton]; omega
        · rw [t1, t2]
          simp only [List.length_append, List.length_singleton, List.length_take, List.length_drop]; omega
        · intro y hy
          rcases List.mem_append.mp hy with hy | hy
          · rcases List.mem_append.mp hy with hy | hy
            · exact hm y (cutL_mem hy)
            · rw [List.mem_singleton.mp hy]; exact hci
          · exact hm y (cutL_mem hy)
  · rintro q ⟨cs, zs, e1, hl, hc, e2, hzl, hzs⟩
    rw [range_len] at hzl
    exact ⟨zs, e2, hzl, hzs⟩
  rintro q ⟨zs, e2, hzl, hzs⟩
  rw [e2]
  exact ok_pure ⟨zs, rfl, hzl, hzs⟩
theorem it_lab {z : List Nat} (h : isLab 8 z = true) : isIt z = true := by
  obtain ⟨a, b, c⟩ := isLab_iff.mp h
  unfold isIt
  have e : z.count 42 = 0 := List.count_eq_zero.mpr fun m => absurd (c 42 m) (by decide)
  rw [decide_eq_true a, decide_eq_true b, e]
  simp only [Nat.zero_le, decide_true, Bool.true_and, List.all_eq_true, Bool.or_eq_true, decide_eq_true_eq]
  exact fun x m => .inr (c x m)
theorem it_star {a b : List Nat} (ha : ∀ c ∈ a, c ∈ CH) (hb : ∀ c ∈ b, c ∈ CH) (h : a.length + b.length ≤ 7) : isIt (a ++ [42] ++ b) = true := by
  have ca : a.count 42 = 0 := List.count_eq_zero.mpr fun m => absurd (ha 42 m) (by decide)
  have cb : b.count 42 = 0 := List.count_eq_zero.mpr fun m => absurd (hb 42 m) (by decide)
  unfold isIt
  have e : (a ++ [42] ++ b).count 42 = 1 := by
    rw [List.count_append, List.count_append, ca, cb]
    rfl
  rw [e, decide_eq_true (by simp only [List.length_append, List.length_singleton]; omega), decide_eq_true (by simp only [List.length_append, List.length_singleton]; omega)]
  simp only [Nat.le_refl, decide_true, Bool.true_and, List.all_eq_true, Bool.or_eq_true, decide_eq_true_eq]
  intro x m
  rcases List.mem_append.mp m with m | m
  · rcases List.mem_append.mp m with m | m
    · exact .inr (ha x m)
    · exact .inl (List.mem_singleton.mp m)
  · exact .inr (hb x m)
def Lab8 (zs : List (List Nat)) : Prop := zs ≠ [] ∧ zs.length ≤ 10 ∧ ∀ z ∈ zs, isLab 8 z = true
theorem of_lab {zs : List (List Nat)} (h : Lab8 zs) : Ok (m__law_of_68b0 [.lst (zs.map .str)]) fun d => ∃ z, d = .str z ∧ isLab 8 z = true := by
  refine ok_mono (of_ok3 (fun e => h.1 (List.map_eq_nil_iff.mp e)) (by rw [List.length_map]; have := h.2.1; omega)) fun d m => ?_
  obtain ⟨z, hz, rfl⟩ := List.mem_map.mp m
  exact ⟨z, rfl, h.2.2 z hz⟩
theorem item_draw {zs : List (List Nat)} (h : Lab8 zs) : Ok (m__law_item_9905 [.lst (zs.map .str)]) fun d => ∃ z, d = .str z ∧ isIt z = true := by
  refine ok_runM ?_
  simp only [e__law_item_9905]
  refine ok_then (of_lab h) ?_
  rintro d ⟨z, rfl, hz⟩
  obtain ⟨a, b, c⟩ := isLab_iff.mp hz
  have c8 : cutL z none (some 8) = z := by
    rw [show (8 : Int) = ((8 : Nat) : Int) from rfl, cut_to, List.take_of_length_le b]
  simp only [int_of, slice_s, c8, askM, pure_bind]
  refine ok_then (take_ok2 (n := 8) (by omega) (by omega)) ?_
  rintro d ⟨m, rfl, m0, m1⟩
  simp only [len_str, add_ii, askM, pure_bind]
  refine ok_then (take_ok2 (n := (z.length : Int) + 1) (by omega) (by omega)) ?_
  rintro d ⟨k, rfl, k0, k1⟩
  obtain ⟨kn, rfl⟩ := Int.eq_ofNat_of_zero_le k0
  refine ok_bind (ok_ask lti ?_)
  refine ok_seq ?_
  refine ok_ite (fun _ => ok_pure ⟨z, rfl, it_lab hz⟩) (fun _ => ok_pure ?_)
  refine ok_bind (ok_ask eqi ?_)
  refine ok_seq ?_
  refine ok_ite (fun _ => ok_pure ⟨[42], rfl, by decide⟩) (fun _ => ok_pure ?_)
  refine ok_bind (ok_ask eqi ?_)
  refine ok_seq ?_
  refine ok_ite (fun _ => ?_) (fun _ => ok_pure ?_)
  · obtain ⟨i, hi, hb⟩ : ∃ i : Nat, minD [.int (kn : Int), .int 7] = some (.int (i : Int)) ∧ i ≤ 7 := by
      by_cases q : (7 : Int) < (kn : Int)
      · exact ⟨7, by show some (D.int (if (7 : Int) < (kn : Int) then 7 else (kn : Int))) = _; rw [if_pos q]; rfl, by omega⟩
      · exact ⟨kn, by show some (D.int (if (7 : Int) < (kn : Int) then 7 else (kn : Int))) = _; rw [if_neg q], by omega⟩
    simp only [hi, int_of, slice_s, cut_to, askM, pure_bind]
    rw [add_ss (by rw [List.length_take]; simp; omega)]
    simp only [askM, pure_bind]
    refine ok_pure ⟨z.take i ++ [42], rfl, ?_⟩
    have := it_star (a := z.take i) (b := []) (fun x m => c x (List.mem_of_mem_take m)) (by simp) (by rw [List.length_take]; simp; omega)
    simpa using this
  refine ok_bind (ok_ask eqi ?_)
  refine ok_seq ?_
  refine ok_ite (fun _ => ?_) (fun _ => ok_pure ?_)
  · obtain ⟨i, hi, hb⟩ : ∃ i : Nat, maxD [.int (kn : Int), .int ((z.length : Int) - 7)] = some (.int (i : Int)) ∧ z.length ≤ i + 7 := by
      by_cases q : (z.length : Int) - 7 > (kn : Int)
      · exact ⟨z.length - 7, by
          show some (D.int (if (z.length : Int) - 7 > (kn : Int) then (z.length : Int) - 7 else (kn : Int))) = _
          rw [if_pos q, show (z.length : Int) - 7 = ((z.length - 7 : Nat) : Int) by omega], by omega⟩
      · exact ⟨kn, by show some (D.int (if (z.length : Int) - 7 > (kn : Int) then (z.length : Int) - 7 else (kn : Int))) = _; rw [if_neg q], by omega⟩
    have cd : cutL z (some (i : Int)) none = z.drop i := by rw [cut_lo (by omega)]; rfl
    simp only [sub_ii, hi, int_of, slice_s, cd, askM, pure_bind]
    rw [add_ss (by rw [List.length_drop]; simp; omega)]
    simp only [askM, pure_bind]
    refine ok_pure ⟨[42] ++ z.drop i, rfl, ?_⟩
    have := it_star (a := []) (b := z.drop i) (by simp) (fun x m => c x (List.mem_of_mem_drop m)) (by rw [List.length_drop]; simp; omega)
    simpa using this
  have cl : cutL z (some ((z.length : Int) - 1)) none = z.drop (z.length - 1) := by
    rw [cut_lo (by omega)]
    congr 1
    omega
  have c1 : cutL z none (some 1) = z.take 1 := by rw [show (1 : Int) = ((1 : Nat) : Int) from rfl, cut_to]
  simp only [int_of, slice_s, c1, sub_ii, cl, askM, pure_bind]
  rw [add_ss (by rw [List.length_take]; simp; omega)]
  simp only [askM, pure_bind]
  rw [add_ss (by rw [List.length_append, List.length_take, List.length_drop]; simp; omega)]
  simp only [askM, pure_bind]
  exact ok_pure ⟨_, rfl, it_star (fun x m => c x (List.mem_of_mem_take m)) (fun x m => c x (List.mem_of_mem_drop m)) (by rw [List.length_take, List.length_drop]; omega)⟩
end FN
namespace FN
open DL PySem PySem.W
theorem all2_P {P : List Nat → Prop} : ∀ {ds rs : List D}, All2 (fun _ r => ∃ z, r = D.str z ∧ P z) ds rs → ∃ A : List (List Nat), rs = A.map .str ∧ A.length = ds.length ∧ ∀ z ∈ A, P z
  | [], [], _ => ⟨[], rfl, rfl, by simp⟩
  | [], _ :: _, h => by cases h
  | _ :: _, [], h => by cases h
  | d :: ds, r :: rs, h => by
    cases h with
    | cons h1 h2 =>
      obtain ⟨z, rfl, hz⟩ := h1
      obtain ⟨A, rfl, hl, hA⟩ := all2_P h2
      exact ⟨z :: A, rfl, by simp [hl], fun x m => by
        rcases List.mem_cons.mp m with rfl | m
        · exact hz
        · exact hA x m⟩
theorem some_draw {zs : List (List Nat)} (h : Lab8 zs) {n : Int} (h0 : 0 ≤ n) (h1 : n ≤ 10) : Ok (m__law_some_353f [.lst (zs.map .str), .int n]) fun d => ∃ I : List (List Nat), d = .lst (I.map .str) ∧ (I.length : Int) ≤ n ∧ ∀ z ∈ I, isIt z = true := by
  refine ok_runM ?_
  simp only [e__law_some_353f, add_ii, askM, pure_bind]
  refine ok_then (take_ok2 (n := n + 1) (by omega) (by omega)) ?_
  rintro d ⟨k, rfl, k0, k1⟩
  rw [rng1_ok (by omega) (by omega)]
  simp only [askM, pure_bind]
  refine ok_then (ok_lc (P := fun _ r => ∃ z, r = .str z ∧ isIt z = true) _ fun d _ => ⟨d, rfl, item_draw h⟩) ?_
  intro rs hrs
  obtain ⟨I, rfl, hl, hI⟩ := all2_P hrs
  rw [range_len] at hl
  exact ok_pure ⟨I, rfl, by omega, hI⟩
theorem pat_free {l0 l1 mh mt : Nat} {I : List (List Nat)} (h : ∀ z ∈ I, isIt z = true) (h0 : l0 ≤ I.length) (h1 : I.length ≤ l1) : PatI l0 l1 mh mt I I [] false := ⟨fun z m => h z (by simpa using m), .inl ⟨rfl, rfl, rfl, h0, h1⟩⟩
theorem pat_gap {l0 l1 mh mt : Nat} {A B : List (List Nat)} (hA : ∀ z ∈ A, isIt z = true) (hB : ∀ z ∈ B, isIt z = true) (h0 : A.length ≤ mh) (h1 : B.length ≤ mt) : PatI l0 l1 mh mt (A ++ gp :: B) A B true := ⟨fun z m => by
  rcases List.mem_append.mp m with m | m
  · exact hA z m
  · exact hB z m, .inr ⟨rfl, rfl, h0, h1⟩⟩
/-- what is drawn of hosts -/
inductive HpD : D → List Nat → D → D → Prop
  | near {A : List (List Nat)} (h0 : A ≠ []) (hl : A.length ≤ 4) (hA : ∀ z ∈ A, isLab 8 z = true) : HpD (.tup [.str [126], .tup (A.map .str)]) (126 :: joinN [46] A) (.tup (A.map .str)) .non
  | host {I h t : List (List Nat)} {g : Bool} (p : PatI 1 4 3 2 I.reverse h t g) (h0 : I ≠ []) (hl : I.length ≤ 10) : HpD (.tup [.str [], .lst (I.map .str)]) (joinN [46] I) .non (.ins "HostPattern" PNs (ptF (joinN [46] I) c_HOST h t g))
theorem HpD.nm {d : D} {nm : List Nat} {n h : D} (k : HpD d nm n h) : NmK nm n h := by
  cases k with
  | near h0 hl hA => exact .near h0 hl fun z m => isLab_up (hA z m) (by omega)
  | host p h0 hl => exact .host p h0 hl
theorem host_draw {zs : List (List Nat)} (h : Lab8 zs) : Ok (m__law_host_part_4860 [.lst (zs.map .str)]) fun d => ∃ nm n hh, HpD d nm n hh := by
  have sz1 : ∀ a : D, szL [a] = some [a] := fun a => sz_ok (by simp)
  refine ok_runM ?_
  simp only [e__law_host_part_4860]
  refine ok_then (take_ok2 (n := 5) (by omega) (by omega)) ?_
  rintro d ⟨m, rfl, m0, m1⟩
  refine ok_bind (ok_ask eqi ?_)
  refine ok_seq ?_
  refine ok_ite (fun _ => ?_) (fun _ => ok_pure ?_)
  · refine ok_then (take_ok2 (n := 4) (by omega) (by omega)) ?_
    rintro d ⟨k, rfl, k0, k1⟩
    simp only [add_ii, askM, pure_bind]
    rw [rng1_ok (by omega) (by omega)]
    simp only [askM, pure_bind]
    refine ok_then (ok_lc (P := fun _ r => ∃ z, r = .str z ∧ isLab 8 z = true) _ fun d _ => ⟨d, rfl, of_lab h⟩) ?_
    intro rs hrs
    obtain ⟨A, rfl, hl, hA⟩ := all2_P hrs
    rw [range_len] at hl
    simp only [tup_lst, sz2, askM, pure_bind]
    exact ok_pure ⟨_, _, _, .near (fun e => by rw [e] at hl; simp at hl; omega) (by omega) hA⟩
  refine ok_bind (ok_ask lti ?_)
  refine ok_seq ?_
  refine ok_ite (fun _ => ?_) (fun _ => ok_pure ?_)
  · refine ok_then (item_draw h) ?_
    rintro d ⟨z, rfl, hz⟩
    simp only [sz1, askM, pure_bind]
    refine ok_then (some_draw h (n := 3) (by omega) (by omega)) ?_
    rintro d ⟨I, rfl, hl, hI⟩
    rw [add_ll (by simp; omega)]
    simp only [sz2, askM, pure_bind]
    have hh : ∀ x ∈ (z :: I).reverse, isIt x = true := fun x m => by
      rcases List.mem_cons.mp (List.mem_reverse.mp m) with rfl | m
      · exact hz
      · exact hI x m
    exact ok_pure ⟨_, _, _, HpD.host (I := z :: I) (pat_free hh (by simp) (by simp; omega)) (by simp) (by simp; omega)⟩
  refine ok_then (some_draw h (n := 2) (by omega) (by omega)) ?_
  rintro d ⟨T, rfl, tl, hT⟩
  simp only [sz1, askM, pure_bind]
  rw [add_ll (by simp; omega)]
  simp only [askM, pure_bind]
  refine ok_then (some_draw h (n := 3) (by omega) (by omega)) ?_
  rintro d ⟨H, rfl, hl, hH⟩
  rw [add_ll (by simp; omega)]
  simp only [sz2, askM, pure_bind]
  have e : T.map D.str ++ [D.str [42, 42]] ++ H.map D.str = (T ++ gp :: H).map D.str := by simp [gp]
  rw [e]
  have er : (T ++ gp :: H).reverse = H.reverse ++ gp :: T.reverse := by simp
  refine ok_pure ⟨_, _, _, HpD.host (I := T ++ gp :: H) (h := H.reverse) (t := T.reverse) (g := true) ?_ (by simp) (by simp; omega)⟩
  rw [er]
  exact pat_gap (fun z m => hH z (List.mem_reverse.mp m)) (fun z m => hT z (List.mem_reverse.mp m)) (by simp; omega) (by simp; omega)
inductive PjD : D → List Nat → D → Prop
  | mk {J h t : List (List Nat)} {g : Bool} (p : PatI 0 3 2 2 J h t g) (hl : J.length ≤ 10) : PjD (.lst (J.map .str)) (joinN [47] J) (.ins "PathPattern" PNs (ptF (47 :: joinN [47] J) c_PATH h t g))
theorem PjD.pj {d : D} {pj : List Nat} {h : D} (k : PjD d pj h) : PjK pj h := by
  cases k with
  | mk p hl => exact .mk p hl
theorem path_draw {zs : List (List Nat)} (h : Lab8 zs) : Ok (m__law_path_items_69f5 [.lst (zs.map .str)]) fun d => ∃ pj hh, PjD d pj hh := by
  have sz1 : ∀ a : D, szL [a] = some [a] := fun a => sz_ok (by simp)
  refine ok_runM ?_
  simp only [e__law_path_items_69f5]
  refine ok_then (take_ok2 (n := 3) (by omega) (by omega)) ?_
  rintro d ⟨m, rfl, m0, m1⟩
  refine ok_bind (ok_ask eqi ?_)
  refine ok_seq ?_
  refine ok_ite (fun _ => ?_) (fun _ => ok_pure ?_)
  · refine ok_then (some_draw h (n := 3) (by omega) (by omega)) ?_
    rintro d ⟨I, rfl, hl, hI⟩
    exact ok_pure ⟨_, _, .mk (pat_free hI (by omega) (by omega)) (by omega)⟩
  refine ok_then (some_draw h (n := 2) (by omega) (by omega)) ?_
  rintro d ⟨A, rfl, al, hA⟩
  simp only [sz1, askM, pure_bind]
  rw [add_ll (by simp; omega)]
  simp only [askM, pure_bind]
  refine ok_then (some_draw h (n := 2) (by omega) (by omega)) ?_
  rintro d ⟨B, rfl, bl, hB⟩
  rw [add_ll (by simp; omega)]
  simp only [askM, pure_bind]
  have e : A.map D.str ++ [D.str [42, 42]] ++ B.map D.str = (A ++ gp :: B).map D.str := by simp [gp]
  rw [e]
  exact ok_pure ⟨_, _, .mk (pat_gap hA hB (by omega) (by omega)) (by simp; omega)⟩
theorem sum_le8 {I : List (List Nat)} {k : Nat} (h : ∀ z ∈ I, z.length ≤ k) (hl : I.length ≤ 1000) (hk : k ≤ 100) : (I.map (·.length)).sum + I.length * 1 ≤ 16777216 := by
  have := sum_le h
  have : I.length * k ≤ 1000 * 100 := Nat.mul_le_mul hl hk
  omega
theorem HpD.join {d : D} {nm : List Nat} {n h : D} (k : HpD d nm n h) : ∃ p x r j, d = .tup [.str p, x] ∧ listD [x] = some r ∧ szL r = some r ∧ joinD (.str [46]) (.lst r) = some (.str j) ∧ nm = p ++ j ∧ p.length ≤ 1 ∧ j.length ≤ 1000 := by
  have hn := nm_len k.nm
  cases k with
  | @near A h0 hl hA =>
    refine ⟨[126], .tup (A.map .str), A.map .str, joinN [46] A, rfl, rfl, sz_ok (by rw [List.length_map]; omega), join_ok (sum_le8 (k := 8) (fun z m => (isLab_iff.mp (hA z m)).2.1) (by omega) (by omega)), rfl, by simp, ?_⟩
    simp only [List.length_cons] at hn
    omega
  | @host I h t g p h0 hl =>
    exact ⟨[], .lst (I.map .str), I.map .str, joinN [46] I, rfl, rfl, sz_ok (by rw [List.length_map]; omega), join_ok (sum_le8 (k := 8) (fun z m => it_len (pat_mem p z (by simpa using m))) (by omega) (by omega)), rfl, by simp, hn⟩
/-- what is drawn of rules -/
inductive RuD : D → List Nat → List D → Prop
  | mk {s w nm t pj : List Nat} {part pd near host path J : D} (hs : Sg s) (hw : Wd w) (ht : Dr t pd) (hn : HpD part nm near host) (hp : PjD J pj path) : RuD (.tup [.str s, .str w, part, pd, J]) (ruT s w nm t pj) (ruF s w nm t pj pd near host path)
theorem rule_draw {zs : List (List Nat)} (h : Lab8 zs) : Ok (m__law_rule_88fc [.lst (zs.map .str)]) fun d => ∃ x T F, d = .tup [x, .str T] ∧ RuD x T F := by
  have esz : ∀ a b c d e : D, szL [a, b, c, d, e] = some [a, b, c, d, e] := fun a b c d e => sz_ok (by simp)
  refine ok_runM ?_
  simp only [e__law_rule_88fc, sz3, askM, pure_bind]
  refine ok_then (of_ok3 (by simp) (by simp)) fun v32 h32 => ?_
  obtain ⟨s, rfl, hs⟩ : ∃ s, v32 = .str s ∧ Sg s := by
    simp only [List.mem_cons, List.not_mem_nil, or_false] at h32
    rcases h32 with rfl | rfl | rfl
    · exact ⟨_, rfl, .inl rfl⟩
    · exact ⟨_, rfl, .inl rfl⟩
    · exact ⟨_, rfl, .inr rfl⟩
  refine ok_then (of_ok3 (by simp) (by simp)) fun v33 h33 => ?_
  obtain ⟨w, rfl, hw⟩ : ∃ w, v33 = .str w ∧ Wd w := by
    simp only [List.mem_cons, List.not_mem_nil, or_false] at h33
    rcases h33 with rfl | rfl | rfl
    · exact ⟨_, rfl, .inl rfl⟩
    · exact ⟨_, rfl, .inr (.inl rfl)⟩
    · exact ⟨_, rfl, .inr (.inr rfl)⟩
  refine ok_then (host_draw h) ?_
  rintro part ⟨nm, near, host, hn⟩
  refine ok_then (path_draw h) ?_
  rintro J ⟨pj, path, hp⟩
  refine ok_then ports_ok ?_
  rintro d ⟨t, pd, rfl, ht⟩
  have u2 : un2 (.tup [.str t, pd]) = some (.str t, pd) := rfl
  obtain ⟨_, _, tl, _⟩ := dr_facts ht
  obtain ⟨p, x, r, j, rfl, e1, e2, e3, e4, pl, jl⟩ := hn.join
  have pjl := pj_len hp.pj
  have hsl : s.length = 1 := by rcases hs with rfl | rfl <;> rfl
  have hwl : w.length ≤ 5 := by rcases hw with rfl | rfl | rfl <;> decide
  have i0 : ixD (.tup [.str p, x]) (.int 0) = some (.str p) := rfl
  have i1 : ixD (.tup [.str p, x]) (.int 1) = some x := rfl
  have ej : joinD (.str [47]) J = some (.str pj) := by
    cases hp with
    | mk q hl => exact join_ok (sum_le8 (k := 8) (fun z m => it_len (pat_mem q z m)) (by omega) (by omega))
  simp only [u2, askM, pure_bind, i0, i1, e1, e2, e3, ej, str_of]
  rw [add_ss (by simp; omega)]
  simp only [askM, pure_bind]
  rw [add_ss (by simp; omega)]
  simp only [askM, pure_bind]
  rw [add_ss (by simp; omega)]
  simp only [askM, pure_bind]
  rw [add_ss (by simp; omega)]
  simp only [askM, pure_bind]
  rw [add_ss (by simp; omega)]
  simp only [askM, pure_bind]
  rw [add_ss (by simp; omega)]
  simp only [askM, pure_bind]
  rw [add_ss (by simp; omega)]
  simp only [askM, pure_bind]
  rw [add_ss (by simp; omega)]
  simp only [askM, pure_bind, esz, sz2]
  refine ok_pure ⟨_, ruT s w nm t pj, _, ?_, RuD.mk hs hw ht hn hp⟩
  rw [e4]
  simp [ruT]
end FN
namespace FN
open DL PySem PySem.W
def fx (I : List (List Nat)) : Nat := (I.filter fun z => !decide (42 ∈ z)).length
theorem fx_rev (I : List (List Nat)) : fx I.reverse = fx I := by
  unfold fx
  rw [List.filter_reverse, List.length_reverse]
theorem fx_gap (A B : List (List Nat)) : fx (A ++ gp :: B) = fx (A ++ B) := by
  unfold fx
  rw [List.filter_append, List.filter_append, List.filter_cons_of_neg (by decide)]
theorem pat_fx {l0 l1 mh mt : Nat} {I h t : List (List Nat)} {g : Bool} (p : PatI l0 l1 mh mt I h t g) : fx (h ++ t) = fx I := by
  obtain ⟨hz, ⟨rfl, rfl, rfl, h0, h1⟩ | ⟨rfl, rfl, h0, h1⟩⟩ := p
  · rw [List.append_nil]
  · rw [fx_gap]
theorem filt_map {p : D → Bool} {q : List Nat → Bool} (h : ∀ z, p (.str z) = q z) : ∀ I : List (List Nat), (I.map D.str).filter p = (I.filter q).map D.str
  | [] => rfl
  | z :: r => by
    rw [List.map_cons]
    by_cases c : q z = true
    · rw [List.filter_cons_of_pos (by rw [h]; exact c), List.filter_cons_of_pos c, filt_map h r]
      rfl
    · rw [List.filter_cons_of_neg (by rw [h]; exact c), List.filter_cons_of_neg c, filt_map h r]
def noStar : D → Bool
  | .str z => !decide (42 ∈ z)
  | _ => false
theorem law_fixed38 (I : List (List Nat)) {d : D} (hd : itD d = some (I.map .str)) : m__law_fixed_a772 [d] = .ok (.int (fx I : Int)) := by
  have e : (lcF (fun d => some d) (fun (c3 : D) => (DL.ask ((notInD (.str [42]) c3).bind bOf))) (fun (c3 : D) => (pure c3)) (I.map D.str) : R (List D)) = .ok ((I.filter fun z => !decide (42 ∈ z)).map D.str) := by
    refine (lcR (u := fun d => some d) (xe := fun c19 : D => (pure c19 : R D)) (c := fun d => d) (p := noStar) (f := fun d => d) (I.map D.str) (fun _ _ => rfl) (fun d m => ?_) (fun _ _ _ => rfl)).trans ?_
    · obtain ⟨z, hz, rfl⟩ := List.mem_map.mp m
      show (DL.ask ((notInD (.str [42]) (.str z)).bind bOf) : R Bool) = _
      rw [notin_sign]
      rfl
    · rw [List.map_id', filt_map (fun _ => rfl)]
      rfl
  have ll : ∀ xs : List D, lenD [.lst xs] = some (.int (xs.length : Int)) := fun _ => rfl
  unfold m__law_fixed_a772 apR1
  simp only [e__law_fixed_a772, hd, askR, pure_bind, e, okpR, ll]
  show R.ok (D.int _) = R.ok (D.int _)
  rw [List.length_map]
  rfl
theorem fixed_walk (I : List (List Nat)) : (lcF (fun d => some d) (fun (c7 : D) => (do let _ ← DL.ask (strOf c7); let x10 ← (DL.ask (strM (fun a b => .int (PySem.Txt.find ⟨a.toArray⟩ ⟨b.toArray⟩)) c7 (.str [42]))); DL.ask ((ltD x10 (.int 0)).bind bOf))) (fun (c7 : D) => (pure c7)) (I.map D.str) : R (List D)) = .ok ((I.filter fun z => !decide (42 ∈ z)).map D.str) := by
  refine (lcR (u := fun d => some d) (xe := fun c19 : D => (pure c19 : R D)) (c := fun d => d) (p := noStar) (f := fun d => d) (I.map D.str) (fun _ _ => rfl) (fun d m => ?_) (fun _ _ _ => rfl)).trans ?_
  · obtain ⟨z, hz, rfl⟩ := List.mem_map.mp m
    have e : strM (fun a b => .int (PySem.Txt.find ⟨a.toArray⟩ ⟨b.toArray⟩)) (.str z) (.str [42]) = some (.int (PySem.Txt.find ⟨z.toArray⟩ ⟨[42].toArray⟩)) := rfl
    simp only [str_of, askR, pure_bind, e, lti, find_one]
    rfl
  · rw [List.map_id', filt_map (fun _ => rfl)]
    rfl
theorem host_fixed38 {x : List Nat} {lv : D} {h t : List (List Nat)} {g : Bool} (hl : h.length + t.length ≤ 1000) : m_HostPattern_fixed_fb96 [.ins "HostPattern" PNs (ptF x lv h t g)] = .ok (.int (fx (h ++ t) : Int)) := by
  have f1 : fldD ["HostPattern", "PathPattern"] "head" (.ins "HostPattern" PNs (ptF x lv h t g)) = some (.tup (h.map .str)) := rfl
  have f2 : fldD ["HostPattern", "PathPattern"] "tail" (.ins "HostPattern" PNs (ptF x lv h t g)) = some (.tup (t.map .str)) := rfl
  have ea : addD (.tup (h.map D.str)) (.tup (t.map D.str)) = some (.tup ((h ++ t).map D.str)) := app_row (by omega)
  have it : ∀ xs : List D, itD (.tup xs) = some xs := fun _ => rfl
  have ll : ∀ xs : List D, lenD [.lst xs] = some (.int (xs.length : Int)) := fun _ => rfl
  unfold m_HostPattern_fixed_fb96 apR1
  simp only [e_HostPattern_fixed_fb96, f1, f2, ea, it, askR, pure_bind]
  rw [fixed_walk]
  simp only [okpR, pure_bind, ll, askR]
  show R.ok (D.int _) = R.ok (D.int _)
  rw [List.length_map]
  rfl
theorem path_fixed38 {x : List Nat} {lv : D} {h t : List (List Nat)} {g : Bool} (hl : h.length + t.length ≤ 1000) : m_PathPattern_fixed_fb96 [.ins "PathPattern" PNs (ptF x lv h t g)] = .ok (.int (fx (h ++ t) : Int)) := by
  have f1 : fldD ["HostPattern", "PathPattern"] "head" (.ins "PathPattern" PNs (ptF x lv h t g)) = some (.tup (h.map .str)) := rfl
  have f2 : fldD ["HostPattern", "PathPattern"] "tail" (.ins "PathPattern" PNs (ptF x lv h t g)) = some (.tup (t.map .str)) := rfl
  have ea : addD (.tup (h.map D.str)) (.tup (t.map D.str)) = some (.tup ((h ++ t).map D.str)) := app_row (by omega)
  have it : ∀ xs : List D, itD (.tup xs) = some xs := fun _ => rfl
  have ll : ∀ xs : List D, lenD [.lst xs] = some (.int (xs.length : Int)) := fun _ => rfl
  unfold m_PathPattern_fixed_fb96 apR1
  simp only [e_PathPattern_fixed_fb96, f1, f2, ea, it, askR, pure_bind]
  rw [fixed_walk]
  simp only [okpR, pure_bind, ll, askR]
  show R.ok (D.int _) = R.ok (D.int _)
  rw [List.length_map]
  rfl
abbrev eqL : List (Str × (List D → R D)) := [("Page", m_Page_eq_ca54), ("HostPattern", m_HostPattern_eq_ad46), ("PathPattern", m_PathPattern_eq_f7cd), ("Rule", m_Rule_eq_ea23)]
theorem eq_ru {T U : List Nat} {F G : List D} : eqO eqL (.ins "Rule" RNs (.str T :: F)) (.ins "Rule" RNs (.str U :: G)) = some (.bl (decide (T = U))) := by
  have e : m_Rule_eq_ea23 [.ins "Rule" RNs (.str T :: F), .ins "Rule" RNs (.str U :: G)] = .ok (.bl (decide (T = U))) := by
    have i1 : isiT [("Page", false), ("HostPattern", false), ("PathPattern", false), ("Rule", true)] noneOfB (.ins "Rule" RNs (.str U :: G)) = some (.bl true) := rfl
    have f1 : ∀ (V : List Nat) (H : List D), fldD ["Page", "HostPattern", "PathPattern", "Rule"] "text" (.ins "Rule" RNs (.str V :: H)) = some (.str V) := fun _ _ => rfl
    unfold m_Rule_eq_ea23 apR2
    simp only [e_Rule_eq_ea23, andV, i1, f1, askR, pure_bind, tru_bl, if_true, eq_ss]
    rfl
  show toO (m_Rule_eq_ea23 [.ins "Rule" RNs (.str T :: F), .ins "Rule" RNs (.str U :: G)]) = _
  rw [e]
  rfl
theorem eq_ho {T U : List Nat} {F G : List D} : eqO eqL (.ins "HostPattern" PNs (.str T :: F)) (.ins "HostPattern" PNs (.str U :: G)) = some (.bl (decide (T = U))) := by
  have e : m_HostPattern_eq_ad46 [.ins "HostPattern" PNs (.str T :: F), .ins "HostPattern" PNs (.str U :: G)] = .ok (.bl (decide (T = U))) := by
    have i1 : isiT [("Page", false), ("HostPattern", true), ("PathPattern", false), ("Rule", false)] noneOfB (.ins "HostPattern" PNs (.str U :: G)) = some (.bl true) := rfl
    have f1 : ∀ (V : List Nat) (H : List D), fldD ["Page", "HostPattern", "PathPattern", "Rule"] "text" (.ins "HostPattern" PNs (.str V :: H)) = some (.str V) := fun _ _ => rfl
    unfold m_HostPattern_eq_ad46 apR2
    simp only [e_HostPattern_eq_ad46, andV, i1, f1, askR, pure_bind, tru_bl, if_true, eq_ss]
    rfl
  show toO (m_HostPattern_eq_ad46 [.ins "HostPattern" PNs (.str T :: F), .ins "HostPattern" PNs (.str U :: G)]) = _
  rw [e]
  rfl
theorem eq_pa {T U : List Nat} {F G : List D} : eqO eqL (.ins "PathPattern" PNs (.str T :: F)) (.ins "PathPattern" PNs (.str U :: G)) = some (.bl (decide (T = U))) := by
  have e : m_PathPattern_eq_f7cd [.ins "PathPattern" PNs (.str T :: F), .ins "PathPattern" PNs (.str U :: G)] = .ok (.bl (decide (T = U))) := by
    have i1 : isiT [("Page", false), ("HostPattern", false), ("PathPattern", true), ("Rule", false)] noneOfB (.ins "PathPattern" PNs (.str U :: G)) = some (.bl true) := rfl
    have f1 : ∀ (V : List Nat) (H : List D), fldD ["Page", "HostPattern", "PathPattern", "Rule"] "text" (.ins "PathPattern" PNs (.str V :: H)) = some (.str V) := fun _ _ => rfl
    unfold m_PathPattern_eq_f7cd apR2
    simp only [e_PathPattern_eq_f7cd, andV, i1, f1, askR, pure_bind, tru_bl, if_true, eq_ss]
    rfl
  show toO (m_PathPattern_eq_f7cd [.ins "PathPattern" PNs (.str T :: F), .ins "PathPattern" PNs (.str U :: G)]) = _
  rw [e]
  rfl
theorem eq_ru_s {T : List Nat} {F : List D} {x : D} (h : isiT [("Page", false), ("HostPattern", false), ("PathPattern", false), ("Rule", true)] noneOfB x = some (.bl false)) (hk : okR (eqL.map Prod.fst) x = true) : eqO eqL (.ins "Rule" RNs (.str T :: F)) x = some (.bl false) := by
  have e : m_Rule_eq_ea23 [.ins "Rule" RNs (.str T :: F), x] = .ok (.bl false) := by
    unfold m_Rule_eq_ea23 apR2
    simp only [e_Rule_eq_ea23, andV, h, askR, pure_bind, tru_bl, Bool.false_eq_true, if_false]
    rfl
  show (if okR (eqL.map Prod.fst) x = true then toO (m_Rule_eq_ea23 [.ins "Rule" RNs (.str T :: F), x]) else none) = _
  rw [if_pos hk, e]
  rfl
end FN
namespace FN
open DL PySem PySem.W
theorem its_freeU {s u : Nat} (hs : s ∉ CH) (h1 : s ≠ 42) (h2 : s ≠ u) : ∀ {I : List (List Nat)}, (∀ z ∈ I, z = gp ∨ isIt z = true) → s ∉ joinN [u] I
  | [], _, m => by cases m
  | [z], h, m => it_free (h z (.head _)) hs h1 m
  | z :: q :: r, h, m => by
    have m' : s ∈ z ++ ([u] ++ joinN [u] (q :: r)) := m
    rcases List.mem_append.mp m' with m' | m'
    · exact it_free (h z (.head _)) hs h1 m'
    · rcases List.mem_append.mp m' with m' | m'
      · exact h2 (by simpa using m')
      · exact its_freeU hs h1 h2 (fun z m => h z (.tail _ m)) m'
theorem ch_small : ∀ c ∈ CH, c < 1114112 := by decide
theorem nm_tx {nm : List Nat} {n h : D} (k : NmK nm n h) : Tx 1000 nm := ⟨nm_len k, fun c m => Nat.lt_of_not_le fun q => nm_free k (s := c) (fun x => by have := ch_small c x; omega) (by omega) (by omega) (by omega) m⟩
theorem pj_tx {pj : List Nat} {d : D} (k : PjK pj d) : Tx 1000 pj := ⟨pj_len k, fun c m => Nat.lt_of_not_le fun q => by
  cases k with
  | mk p hl => exact its_freeU (s := c) (fun x => by have := ch_small c x; omega) (by omega) (by omega) (fun z m => pat_mem p z m) m⟩
theorem tx_app {n m : Nat} {a b : List Nat} (h : Tx n a) (k : Tx m b) : Tx (n + m) (a ++ b) := ⟨by rw [List.length_append]; exact Nat.add_le_add h.1 k.1, fun c q => by
  rcases List.mem_append.mp q with q | q
  · exact h.2 c q
  · exact k.2 c q⟩
theorem ru_tx {s w nm t pj : List Nat} {pd near host path : D} (hs : Sg s) (hw : Wd w) (ht : Dr t pd) (hn : NmK nm near host) (hp : PjK pj path) : Tx 3000 (ruT s w nm t pj) := by
  obtain ⟨_, _, tl, _, tc, _⟩ := dr_facts ht
  have e1 : Tx 1 s := by rcases hs with rfl | rfl <;> exact ⟨by decide, by decide⟩
  have e2 : Tx 5 w := by rcases hw with rfl | rfl | rfl <;> exact ⟨by decide, by decide⟩
  have e3 : Tx 101 t := ⟨tl, tc⟩
  have h := tx_app (tx_app (tx_app (tx_app (tx_app (tx_app (tx_app e1 (tx1 (c := 32) (by decide))) e2) (show Tx 3 [58, 47, 47] from ⟨by decide, by decide⟩)) (nm_tx hn)) e3) (tx1 (c := 47) (by decide))) (pj_tx hp)
  exact ⟨Nat.le_trans h.1 (by omega), h.2⟩
def sgB : D → Bool
  | .tup [.int lo, .int hi] => decide (lo = hi)
  | _ => true
theorem sg38 {t : List Nat} {pd : D} (ht : Dr t pd) : (orV (DL.ask (isD pd .non)) (do let x144 ← (DL.ask (ixD pd (.int 0))); let y145 ← (DL.ask (ixD pd (.int 1))); DL.ask (eqD x144 y145)) : R D) = pure (.bl (sgB pd)) := by
  rcases ht with ⟨rfl, rfl⟩ | ⟨u, lo, hi, rfl, rfl, h1, h2, h3, _⟩
  · rfl
  · have isn : isD (iPd lo hi) .non = some (.bl false) := rfl
    have x0 : ixD (iPd lo hi) (.int 0) = some (.int lo) := rfl
    have x1 : ixD (iPd lo hi) (.int 1) = some (.int hi) := rfl
    simp only [orV, askR, pure_bind, isn, tru_bl, Bool.false_eq_true, if_false, x0, x1, eq_i]
    rfl
theorem pd_sm {t : List Nat} {pd : D} (ht : Dr t pd) : Sm 3 6000 pd := by
  rcases ht with ⟨rfl, rfl⟩ | ⟨u, lo, hi, rfl, rfl, h1, h2, h3, _⟩
  · exact sm_non (by omega)
  · refine (sm_tup (n := 2) (W := 100) (k := 2) (fun d m => ?_) (by simp)).mono (by omega) (by omega)
    simp only [List.mem_cons, List.not_mem_nil, or_false] at m
    rcases m with rfl | rfl <;> exact sm_int (by omega) (by omega)
def one (b : Bool) : Int := if b = true then 1 else 0
theorem one_ok (b : Bool) : one b = 0 ∨ one b = 1 := by cases b <;> simp [one]
theorem close38 {F : List D} {t : List Nat} {pd host path : D} {a b : Nat} (ht : Dr t pd) (g1 : fldD ["Page", "Rule"] "host" (.ins "Rule" RNs F) = some host) (g2 : fldD ["Page", "Rule"] "path" (.ins "Rule" RNs F) = some path) (g3 : fldD ["Rule"] "ports" (.ins "Rule" RNs F) = some pd)
    (k1 : (iteM (DL.ask ((isD host .non).bind bOf)) (pure (.int 1)) (Mo.lift (attrD [] [("HostPattern", m_HostPattern_fixed_fb96), ("PathPattern", m_PathPattern_fixed_fb96)] "fixed" host)) : R D) = .ok (.int (a : Int)))
    (k2 : attrD [] [("HostPattern", m_HostPattern_fixed_fb96), ("PathPattern", m_PathPattern_fixed_fb96)] "fixed" path = .ok (.int (b : Int))) :
    attrD [] [("Rule", m_Rule_closeness_3470)] "closeness" (.ins "Rule" RNs F) = .ok (.tup [.int (a : Int), .int (b : Int), .int (one (sgB pd))]) := by
  show R.nx (m_Rule_closeness_3470 [.ins "Rule" RNs F]) = _
  unfold m_Rule_closeness_3470 apR1
  simp only [e_Rule_closeness_3470, g1, g2, g3, askR, pure_bind]
  rw [k1]
  simp only [okpR, pure_bind]
  rw [sg38 ht]
  simp only [pure_bind, k2, lift_pR, okpR, tru_bl, askR, iteM]
  unfold one
  cases sgB pd
  · simp only [Bool.false_eq_true, if_false, pure_bind, sz3, askR]
    rfl
  · simp only [if_true, pure_bind, sz3, askR]
    rfl
theorem fx_le (I : List (List Nat)) : fx I ≤ I.length := List.length_filter_le _ _
theorem is38 {x : D} {T : List Nat} {F : List D} (r : RuD x T F) : m__law_is_9abc [.ins "Rule" RNs F, x, .str T] = .ok (.bl true) := by
  cases r with
  | @mk s w nm t pj part pd near host path J hs hw ht hn hp =>
    have tT := ru_tx hs hw ht hn.nm hp.pj
    have pjl := pj_tx hp.pj
    have hsT : Tx 1 s := by rcases hs with rfl | rfl <;> exact ⟨by decide, by decide⟩
    have hwT : Tx 5 w := by rcases hw with rfl | rfl | rfl <;> exact ⟨by decide, by decide⟩
    have un5 : ∀ a b c d e : D, unN 5 (.tup [a, b, c, d, e]) = some [a, b, c, d, e] := fun _ _ _ _ _ => rfl
    have esz : ∀ a b c d e f g h : D, szL [a, b, c, d, e, f, g, h] = some [a, b, c, d, e, f, g, h] := fun a b c d e f g h => sz_ok (by simp)
    have f1 : fldD ["Page", "HostPattern", "PathPattern", "Rule"] "text" (.ins "Rule" RNs (ruF s w nm t pj pd near host path)) = some (.str (ruT s w nm t pj)) := rfl
    have f2 : fldD ["Rule"] "sign" (.ins "Rule" RNs (ruF s w nm t pj pd near host path)) = some (.str s) := rfl
    have f3 : fldD ["Page", "Rule"] "scheme" (.ins "Rule" RNs (ruF s w nm t pj pd near host path)) = some (.str w) := rfl
    have f4 : fldD ["Rule"] "near" (.ins "Rule" RNs (ruF s w nm t pj pd near host path)) = some near := rfl
    have f5 : fldD ["Rule"] "ports" (.ins "Rule" RNs (ruF s w nm t pj pd near host path)) = some pd := rfl
    have f6 : fldD ["Page", "Rule"] "path" (.ins "Rule" RNs (ruF s w nm t pj pd near host path)) = some path := rfl
    have f7 : fldD ["Page", "Rule"] "host" (.ins "Rule" RNs (ruF s w nm t pj pd near host path)) = some host := rfl
    have io : attrD [] [("Rule", m_Rule_is_offer_6fe5)] "is_offer" (.ins "Rule" RNs (ruF s w nm t pj pd near host path)) = .ok (.bl (decide (s = [43]))) := by
      show R.nx (m_Rule_is_offer_6fe5 [.ins "Rule" RNs (ruF s w nm t pj pd near host path)]) = _
      unfold m_Rule_is_offer_6fe5 apR1
      simp only [e_Rule_is_offer_6fe5, f2, askR, pure_bind, eq_ss]
      rfl
    have ei : ∀ b : Bool, intD [.bl b] = some (.int (one b)) := fun _ => rfl
    have eadd : addD (.str [47]) (.str pj) = some (.str (47 :: pj)) := add_ss (by have := pjl.1; simp; omega)
    have one20 : ∀ b : Bool, (one b).natAbs < 10 ^ 20 := fun b => by rcases one_ok b with h | h <;> rw [h] <;> decide
    have hc1 : (.str [43] : D) = .str [43] := rfl
    cases hp with
    | @mk J h t' g q ql =>
      have ej : joinD (.str [47]) (.lst (J.map D.str)) = some (.str (joinN [47] J)) := join_ok (sum_le8 (k := 8) (fun z m => it_len (pat_mem q z m)) (by omega) (by omega))
      have fp : fldD ["Page", "HostPattern", "PathPattern", "Rule"] "text" (.ins "PathPattern" PNs (ptF (47 :: joinN [47] J) c_PATH h t' g)) = some (.str (47 :: joinN [47] J)) := rfl
      have fl : fldD ["HostPattern", "PathPattern"] "level" (.ins "PathPattern" PNs (ptF (47 :: joinN [47] J) c_PATH h t' g)) = some (.str [112, 97, 116, 104]) := rfl
      have hpl : h.length + t'.length ≤ 20 := by
        obtain ⟨_, ⟨_, rfl, rfl, _, _⟩ | ⟨_, rfl, _, _⟩⟩ := q
        · simp; omega
        · simp at ql; omega
      have kp : attrD [] [("HostPattern", m_HostPattern_fixed_fb96), ("PathPattern", m_PathPattern_fixed_fb96)] "fixed" (.ins "PathPattern" PNs (ptF (47 :: joinN [47] J) c_PATH h t' g)) = .ok (.int (fx J : Int)) := by
        show R.nx (m_PathPattern_fixed_fb96 [.ins "PathPattern" PNs (ptF (47 :: joinN [47] J) c_PATH h t' g)]) = _
        rw [path_fixed38 (by omega), pat_fx q]
        rfl
      have lf := law_fixed38 J (d := .lst (J.map .str)) rfl
      have fxJ := fx_le J
      have ipath := path_init38 q (by omega)
      have ep : eqO eqL (.ins "PathPattern" PNs (ptF (47 :: joinN [47] J) c_PATH h t' g)) (.ins "PathPattern" ["text", "level", "head", "tail", "gap"] (ptF (47 :: joinN [47] J) c_PATH h t' g)) = some (.bl true) := by
        show eqO eqL (.ins "PathPattern" PNs (ptF (47 :: joinN [47] J) c_PATH h t' g)) (.ins "PathPattern" PNs (ptF (47 :: joinN [47] J) c_PATH h t' g)) = _
        rw [show ptF (47 :: joinN [47] J) c_PATH h t' g = .str (47 :: joinN [47] J) :: [c_PATH, .tup (h.map .str), .tup (t'.map .str), .bl g] from rfl, eq_pa, decide_eq_true rfl]
      have rl : ∀ {nr : D} {a : Nat}, a ≤ 100 → Sm 3 6000 nr → ∃ z, reprD [.lst [.str (ruT s w nm t (joinN [47] J)), .str s, .str w, nr, pd, .tup [.int (a : Int), .int (fx J : Int), .int (one (sgB pd))], .bl (decide (s = [43])), .str (47 :: joinN [47] J)]] = some (.str z) := by
        intro nr a ha hnr
        have hq : Sm 4 (8 * (6000 + 1) + 1) (.lst [.str (ruT s w nm t (joinN [47] J)), .str s, .str w, nr, pd, .tup [.int (a : Int), .int (fx J : Int), .int (one (sgB pd))], .bl (decide (s = [43])), .str (47 :: joinN [47] J)]) := by
          refine sm_lst (n := 3) (fun d m => ?_) (by simp)
          simp only [List.mem_cons, List.not_mem_nil, or_false] at m
          rcases m with rfl | rfl | rfl | rfl | rfl | rfl | rfl | rfl
          · exact sm_tx tT (by omega)
          · exact sm_tx hsT (by omega)
          · exact sm_tx hwT (by omega)
          · exact hnr
          · exact pd_sm ht
          · refine (sm_tup (n := 2) (W := 100) (k := 3) (fun d m => ?_) (by simp)).mono (by omega) (by omega)
            simp only [List.mem_cons, List.not_mem_nil, or_false] at m
            rcases m with rfl | rfl | rfl
            · exact sm_int (by omega) (by omega)
            · exact sm_int (by omega) (by omega)
            · exact sm_int (one20 _) (by omega)
          · exact sm_bl (by omega)
          · exact sm_tx (show Tx 1001 _ from ⟨by have := pjl.1; simp; omega, fun c m => by
              rcases List.mem_cons.mp m with m | m
              · omega
              · exact pjl.2 c m⟩) (by omega)
        exact repr_nic hq.1 (by omega) (Nat.le_trans hq.2 (by omega))
      have nlv : (neD (.str [112, 97, 116, 104]) (.str [112, 97, 116, 104])).bind bOf = some false := by rw [ne_ss]; rfl
      cases hn with
      | @near A h0 hl hA =>
        have cl := close38 (F := ruF s w (126 :: joinN [46] A) t (joinN [47] J) pd (.tup (A.map .str)) .non (.ins "PathPattern" PNs (ptF (47 :: joinN [47] J) c_PATH h t' g))) (a := 1) ht f7 f6 f5 rfl kp
        have i0 : ixD (.tup [.str [126], .tup (A.map D.str)]) (.int 0) = some (.str [126]) := rfl
        have i1 : ixD (.tup [.str [126], .tup (A.map D.str)]) (.int 1) = some (.tup (A.map .str)) := rfl
        obtain ⟨z, hz⟩ := rl (nr := .tup (A.map .str)) (a := 1) (by omega) ((row_sm (by omega) fun z m => isLab_up (hA z m) (by omega)).mono (by omega) (by omega))
        unfold m__law_is_9abc apR3
        simp only [e__law_is_9abc, un5, askR, pure_bind, str_of, List.getD_cons_zero, List.getD_cons_succ, ej, eadd, sg38 ht, ei, i0, i1, eq_ss, decide_true, Option.bind_some, bOf_bl, iteM, if_true]
        have one1 : ((1 : Nat) : Int) = 1 := rfl
        rw [one1] at cl hz
        simp only [f1, f2, f3, f4, f5, f6, f7, fp, fl, askR, pure_bind, cl, io, lift_pR, okpR, esz, hz, lf, sz3, eq_ss, ne_ss, decide_true, Bool.not_true, Option.bind_some, bOf_bl, Bool.false_eq_true, if_false, ipath, DL.orM, DL.notM]
        rw [ep]
        rfl
      | @host I hh tt gg pp h0 hl =>
        have hhl : hh.length + tt.length ≤ 20 := by
          have e := congrArg List.length (show I.reverse.reverse = I from List.reverse_reverse I)
          obtain ⟨_, ⟨_, e1, rfl, _, _⟩ | ⟨_, e1, _, _⟩⟩ := pp
          · have := congrArg List.length e1
            rw [List.length_reverse] at this
            simp; omega
          · have := congrArg List.length e1
            rw [List.length_reverse] at this
            simp at this
            omega
        have isn : isD (.ins "HostPattern" PNs (ptF (joinN [46] I) c_HOST hh tt gg)) .non = some (.bl false) := rfl
        have fxI := fx_le I
        have kh : (iteM (DL.ask ((isD (.ins "HostPattern" PNs (ptF (joinN [46] I) c_HOST hh tt gg)) .non).bind bOf)) (pure (.int 1)) (Mo.lift (attrD [] [("HostPattern", m_HostPattern_fixed_fb96), ("PathPattern", m_PathPattern_fixed_fb96)] "fixed" (.ins "HostPattern" PNs (ptF (joinN [46] I) c_HOST hh tt gg)))) : R D) = .ok (.int (fx I : Int)) := by
          show R.nx (m_HostPattern_fixed_fb96 [.ins "HostPattern" PNs (ptF (joinN [46] I) c_HOST hh tt gg)]) = _
          rw [host_fixed38 (by omega), pat_fx pp, fx_rev]
          rfl
        have cl := close38 (F := ruF s w (joinN [46] I) t (joinN [47] J) pd .non (.ins "HostPattern" PNs (ptF (joinN [46] I) c_HOST hh tt gg)) (.ins "PathPattern" PNs (ptF (47 :: joinN [47] J) c_PATH h t' g))) (a := fx I) ht f7 f6 f5 kh kp
        have i0 : ixD (.tup [.str [], .lst (I.map D.str)]) (.int 0) = some (.str []) := rfl
        have i1 : ixD (.tup [.str [], .lst (I.map D.str)]) (.int 1) = some (.lst (I.map .str)) := rfl
        obtain ⟨z, hz⟩ := rl (nr := .non) (a := fx I) (by omega) (sm_non (by omega))
        have dn : decide (([] : List Nat) = [126]) = false := by decide
        have lfI := law_fixed38 I (d := .lst (I.map .str)) rfl
        have ejI : joinD (.str [46]) (.lst (I.map D.str)) = some (.str (joinN [46] I)) := join_ok (sum_le8 (k := 8) (fun z m => it_len (pat_mem pp z (by simpa using m))) (by omega) (by omega))
        have ihost := host_init38 pp h0 (by omega)
        have fh : fldD ["Page", "HostPattern", "PathPattern", "Rule"] "text" (.ins "HostPattern" PNs (ptF (joinN [46] I) c_HOST hh tt gg)) = some (.str (joinN [46] I)) := rfl
        have eh : eqO eqL (.ins "HostPattern" PNs (ptF (joinN [46] I) c_HOST hh tt gg)) (.ins "HostPattern" ["text", "level", "head", "tail", "gap"] (ptF (joinN [46] I) c_HOST hh tt gg)) = some (.bl true) := by
          show eqO eqL (.ins "HostPattern" PNs (ptF (joinN [46] I) c_HOST hh tt gg)) (.ins "HostPattern" PNs (ptF (joinN [46] I) c_HOST hh tt gg)) = _
          rw [show ptF (joinN [46] I) c_HOST hh tt gg = .str (joinN [46] I) :: [c_HOST, .tup (hh.map .str), .tup (tt.map .str), .bl gg] from rfl, eq_ho, decide_eq_true rfl]
        unfold m__law_is_9abc apR3
        simp only [e__law_is_9abc, un5, askR, pure_bind, str_of, List.getD_cons_zero, List.getD_cons_succ, ej, eadd, sg38 ht, ei, i0, i1, eq_ss, decide_true, dn, Option.bind_some, bOf_bl, iteM, Bool.false_eq_true, if_false]
        simp only [f1, f2, f3, f4, f5, f6, f7, fp, fl, askR, pure_bind, cl, io, lift_pR, okpR, esz, hz, lf, lfI, sz3, eq_ss, ne_ss, decide_true, Bool.not_true, Option.bind_some, bOf_bl, Bool.false_eq_true, if_false, ipath, DL.orM, DL.notM, ejI, ihost, fh]
        rw [ep, eh]
        rfl
end FN
namespace FN
open DL PySem PySem.W
theorem idx_free {c : Nat} {b : List Nat} : ∀ {a : List Nat}, c ∉ a → (a ++ c :: b).idxOf c = a.length
  | [], _ => by simp
  | x :: r, h => by
    have hx : (x == c) = false := by
      simp only [beq_eq_false_iff_ne, ne_eq]
      exact fun e => h (by rw [e]; exact .head _)
    rw [List.cons_append, List.idxOf_cons, hx, idx_free (a := r) fun m => h (.tail _ m)]
    rfl
theorem init_of {x : D} {T : List Nat} {F : List D} (r : RuD x T F) : m_Rule_init_6a3b [.str T] = .ok F := by
  cases r with
  | mk hs hw ht hn hp => exact init38 hs hw ht hn.nm hp.pj
theorem ru_head {x : D} {T : List Nat} {F : List D} (r : RuD x T F) : ∃ G, F = .str T :: G := by
  cases r with
  | mk hs hw ht hn hp => exact ⟨_, rfl⟩
def K38 (d : D) : Prop := ∃ x T F, d = .tup [.ins "Rule" RNs F, x, .str T] ∧ RuD x T F
theorem turn38 {x : D} {T : List Nat} {F : List D} (r : RuD x T F) {w' : List Nat} (hw' : Wd w') : ∃ s, Sg s ∧ cutL T none (some 2) = s ++ [32] ∧ 58 ∈ T ∧ ∃ T' G', addD (.str (s ++ [32] ++ w')) (.str (T.drop (T.idxOf 58))) = some (.str T') ∧ m_Rule_init_6a3b [.str T'] = .ok (.str T' :: G') := by
  cases r with
  | @mk s w nm t pj part pd near host path J hs hw ht hn hp =>
    have e : ruT s w nm t pj = (s ++ [32] ++ w) ++ 58 :: ([47, 47] ++ nm ++ t ++ [47] ++ pj) := by simp [ruT]
    have hf : 58 ∉ s ++ [32] ++ w := by
      rcases hs with rfl | rfl <;> rcases hw with rfl | rfl | rfl <;> decide
    have tT := (ru_tx hs hw ht hn.nm hp.pj).1
    have hwl : w'.length ≤ 5 := by rcases hw' with rfl | rfl | rfl <;> decide
    have hsl : s.length = 1 := by rcases hs with rfl | rfl <;> rfl
    refine ⟨s, hs, ?_, ?_, ruT s w' nm t pj, _, ?_, init38 hs hw' ht hn.nm hp.pj⟩
    · rw [show (2 : Int) = ((2 : Nat) : Int) from rfl, cut_to]
      rcases hs with rfl | rfl <;> rfl
    · rw [e]
      simp
    · rw [e] at tT ⊢
      rw [idx_free hf, List.drop_left, add_ss (by simp at tT ⊢; omega)]
      simp [ruT]
theorem law_ok38 {ns : List Int} (hn : ns.length ≤ 63) : OkR (m_law_1303 [.scr ns]) fun d => d = .bl true := by
  unfold m_law_1303 apR1
  refine okr_runR ?_
  simp only [e_law_1303, len_scr, minD, maxD, askR, pure_bind]
  rw [rng1_ok (by split <;> split <;> omega) (by split <;> split <;> omega)]
  simp only [askR, pure_bind]
  refine okr_seq (okr_forU _ (fun d hd => ⟨d, rfl, ?_⟩) (okr_p rfl))
  obtain ⟨k, hk, rfl⟩ := range_mem hd
  have hk6 : k < 6 := by revert hk; split <;> split <;> omega
  refine okr_then (bag_ok2 ns (i := 0 + (k : Int)) (by omega) (by omega)) ?_
  rintro d ⟨x, y, rfl, hy0, hy1⟩
  have s0 : szL [] = some [] := sz_ok (by simp)
  simp only [lstOf, s0, askR, pure_bind]
  refine okr_bag hy0 hy1 ?_
  refine ok_then labels38_ok ?_
  rintro d ⟨zs, rfl, hzl, hzs⟩
  have hL : Lab8 zs := ⟨fun e => by rw [e] at hzl; simp at hzl, by omega, hzs⟩
  rw [rng1_ok (j := 8) (by omega) (by omega)]
  simp only [askM, pure_bind]
  refine ok_seqP (fun q => q.length ≤ 8 ∧ ∀ d ∈ q, K38 d) (ok_for (fun n q => q.length ≤ n ∧ ∀ d ∈ q, K38 d) _ _ ⟨by simp, by simp⟩ (fun n d q hd hq => ⟨d, rfl, ?_⟩) ?_) ?_
  · obtain ⟨hq1, hq2⟩ := hq
    have hn8 : n < 8 := (range_get hd).1
    refine ok_then (rule_draw hL) ?_
    rintro d ⟨x, T, F, rfl, r⟩
    have u2 : un2 (.tup [x, .str T]) = some (x, .str T) := rfl
    simp only [u2, askM, pure_bind, init_of r, lift_M, sz3]
    rw [apd_ok (by omega)]
    simp only [askM, pure_bind]
    refine ok_pure ⟨by simp; omega, fun d hd => ?_⟩
    rcases List.mem_append.mp hd with hd | hd
    · exact hq2 d hd
    · rw [List.mem_singleton.mp hd]
      exact ⟨x, T, F, rfl, r⟩
  · rintro q ⟨hq1, hq2⟩
    rw [range_len] at hq1
    exact ⟨hq1, hq2⟩
  rintro q ⟨hq1, hq2⟩
  simp only [it_lst, askM, pure_bind]
  refine ok_seq (ok_forU _ (fun d hd => ?_) (ok_pure trivial))
  obtain ⟨x, T, F, rfl, r⟩ := hq2 d hd
  refine ⟨(.ins "Rule" RNs F, x, .str T), rfl, ?_⟩
  have hi := is38 r
  have hr := init_of r
  obtain ⟨G, rfl⟩ := ru_head r
  have kw : kwR 1 (kwI [0] [] (0 + 1) m_Rule_init_6a3b) [] [.str T] = .ok (.str T :: G) := hr
  have q1 : (eqO [("Page", m_Page_eq_ca54), ("HostPattern", m_HostPattern_eq_ad46), ("PathPattern", m_PathPattern_eq_f7cd), ("Rule", m_Rule_eq_ea23)] (.ins "Rule" RNs (.str T :: G)) (.ins "Rule" ["text", "sign", "scheme", "written_ports", "ports", "near", "host", "path"] (.str T :: G))).bind bOf = some true := by
    have h : eqO eqL (.ins "Rule" RNs (.str T :: G)) (.ins "Rule" RNs (.str T :: G)) = some (.bl true) := by rw [eq_ru, decide_eq_true rfl]
    show (eqO eqL (.ins "Rule" RNs (.str T :: G)) (.ins "Rule" RNs (.str T :: G))).bind bOf = _
    rw [h]
    rfl
  have q2 : (eqO [("Page", m_Page_eq_ca54), ("HostPattern", m_HostPattern_eq_ad46), ("PathPattern", m_PathPattern_eq_f7cd), ("Rule", m_Rule_eq_ea23)] (.ins "Rule" RNs (.str T :: G)) (.str T)).bind bOf = some false := by
    have h : eqO eqL (.ins "Rule" RNs (.str T :: G)) (.str T) = some (.bl false) := eq_ru_s rfl rfl
    show (eqO eqL (.ins "Rule" RNs (.str T :: G)) (.str T)).bind bOf = _
    rw [h]
    rfl
  have q3 : (eqO [("Page", m_Page_eq_ca54), ("HostPattern", m_HostPattern_eq_ad46), ("PathPattern", m_PathPattern_eq_f7cd), ("Rule", m_Rule_eq_ea23)] (.ins "Rule" RNs (.str T :: G)) (.int 0)).bind bOf = some false := by
    have h : eqO eqL (.ins "Rule" RNs (.str T :: G)) (.int 0) = some (.bl false) := eq_ru_s rfl rfl
    show (eqO eqL (.ins "Rule" RNs (.str T :: G)) (.int 0)).bind bOf = _
    rw [h]
    rfl
  simp only [hi, lift_M, pure_bind, tru_bl, askM, DL.notM, DL.orM, Bool.not_true, Bool.false_eq_true, if_false, kw, q1, q2, q3]
  refine ok_seq (ok_pure ?_)
  simp only [int_of, sz3, askM, pure_bind]
  obtain ⟨s1, hs1, ec1, _⟩ := turn38 r (w' := kHttp) (.inr (.inl rfl))
  simp only [slice_s, ec1, askM, pure_bind]
  refine ok_then (of_ok3 (by simp) (by simp)) fun v33 h33 => ?_
  obtain ⟨w', rfl, hw'⟩ : ∃ w, v33 = .str w ∧ Wd w := by
    simp only [List.mem_cons, List.not_mem_nil, or_false] at h33
    rcases h33 with rfl | rfl | rfl
    · exact ⟨_, rfl, .inl rfl⟩
    · exact ⟨_, rfl, .inr (.inl rfl)⟩
    · exact ⟨_, rfl, .inr (.inr rfl)⟩
  obtain ⟨s, hs, ec, h58, T', G', ea, ei⟩ := turn38 r hw'
  have hss : s1 ++ [32] = s ++ [32] := ec1.symm.trans ec
  rw [hss]
  have hsl : s.length = 1 := by rcases hs with rfl | rfl <;> rfl
  have hwl : w'.length ≤ 5 := by rcases hw' with rfl | rfl | rfl <;> decide
  have a1 : addD (.str (s ++ [32])) (.str w') = some (.str (s ++ [32] ++ w')) := add_ss (by simp; omega)
  have cd : cutL T (some ((T.idxOf 58 : Nat) : Int)) none = T.drop (T.idxOf 58) := by rw [cut_lo (by omega)]; rfl
  simp only [a1, askM, pure_bind, str_of, index_ok h58, int_of, slice_s, cd, ea, ei, lift_M]
  have e1 : eqO [("Page", m_Page_eq_ca54), ("HostPattern", m_HostPattern_eq_ad46), ("PathPattern", m_PathPattern_eq_f7cd), ("Rule", m_Rule_eq_ea23)] (.ins "Rule" ["text", "sign", "scheme", "written_ports", "ports", "near", "host", "path"] (.str T' :: G')) (.ins "Rule" RNs (.str T :: G)) = some (.bl (decide (T' = T))) := by
    show eqO eqL (.ins "Rule" RNs (.str T' :: G')) (.ins "Rule" RNs (.str T :: G)) = _
    rw [eq_ru]
  have e2 : ∀ A B : List Nat, eqO [("Page", m_Page_eq_ca54), ("HostPattern", m_HostPattern_eq_ad46), ("PathPattern", m_PathPattern_eq_f7cd), ("Rule", m_Rule_eq_ea23)] (.str A) (.str B) = some (.bl (decide (A = B))) := fun A B => by
    show eqD (.str A) (.str B) = _
    rw [eq_ss]
  obtain ⟨z, hz⟩ := rep37 (a := decide (T' = T))
  simp only [e1, e2, hz, askM, pure_bind, ne_ss, decide_true, Bool.not_true, Option.bind_some, bOf_bl, Bool.false_eq_true, if_false]
  refine ok_seq (ok_pure ?_)
  refine ok_seq (ok_forU _ (fun d hd => ?_) (ok_pure trivial))
  obtain ⟨x2, T2, F2, rfl, r2⟩ := hq2 d hd
  obtain ⟨G2, rfl⟩ := ru_head r2
  refine ⟨(.ins "Rule" RNs (.str T2 :: G2), x2, .str T2), rfl, ?_⟩
  have e3 : eqO [("Page", m_Page_eq_ca54), ("HostPattern", m_HostPattern_eq_ad46), ("PathPattern", m_PathPattern_eq_f7cd), ("Rule", m_Rule_eq_ea23)] (.ins "Rule" RNs (.str T :: G)) (.ins "Rule" RNs (.str T2 :: G2)) = some (.bl (decide (T = T2))) := eq_ru
  obtain ⟨z2, hz2⟩ := rep37 (a := decide (T = T2))
  simp only [e3, e2, hz2, askM, pure_bind, ne_ss, decide_true, Bool.not_true, Option.bind_some, bOf_bl, Bool.false_eq_true, if_false]
  exact ok_seq (ok_pure (ok_pure trivial))
theorem law_1303_true (ns : List Int) (hn : ns.length ≤ 63) : m_law_1303 [.scr ns] = .ok (.bl true) := by
  obtain ⟨d, e, rfl⟩ := law_ok38 hn
  exact e
end FN
/-! ### offeredentry_k38_rules_read: the program in the data layer (printed) -/
namespace K38
open PySem L2 DL FN
def top (i : Nat) : Stmt := PySem.Challenge.pw_offeredentry_k38_rules_read.main.body.getD i (.Pass ⟨0, 0, 0, 0⟩)
def topC (i j : Nat) : Stmt := match top i with
  | .ClassDef _ _ _ body _ _ _ _ _ _ _ => body.getD j (.Pass ⟨0, 0, 0, 0⟩)
  | _ => .Pass ⟨0, 0, 0, 0⟩
abbrev s_is_label : Stmt := top 13
abbrev N_is_label : List Str := ["thing", "sign"]
theorem sc_is_label : FnScope N_is_label ["thing"] (defScope s_is_label) := ⟨rfl, rfl, rfl, by decide +kernel, rfl, by decide +kernel, by decide +kernel⟩
abbrev s_port_of : Stmt := top 37
abbrev N_port_of : List Str := ["text", "sign", "port"]
theorem sc_port_of : FnScope N_port_of ["text"] (defScope s_port_of) := ⟨rfl, rfl, rfl, by decide +kernel, rfl, by decide +kernel, by decide +kernel⟩
abbrev s_is_label_text : Stmt := top 48
abbrev N_is_label_text : List Str := ["thing", "sign"]
theorem sc_is_label_text : FnScope N_is_label_text ["thing"] (defScope s_is_label_text) := ⟨rfl, rfl, rfl, by decide +kernel, rfl, by decide +kernel, by decide +kernel⟩
abbrev s__law_bag : Stmt := top 66
abbrev N__law_bag : List Str := ["_law_script", "_law_at", "_law_cell", "_law_mixed", "_law_k", "_law_each"]
theorem sc__law_bag : FnScope N__law_bag ["_law_script", "_law_at"] (defScope s__law_bag) := ⟨rfl, rfl, rfl, by decide +kernel, rfl, by decide +kernel, by decide +kernel⟩
abbrev s__law_take : Stmt := top 67
abbrev N__law_take : List Str := ["_law_bag_here", "_law_many", "_law_digit"]
theorem sc__law_take : FnScope N__law_take ["_law_bag_here", "_law_many"] (defScope s__law_take) := ⟨rfl, rfl, rfl, by decide +kernel, rfl, by decide +kernel, by decide +kernel⟩
abbrev s__law_fixed : Stmt := top 76
abbrev N__law_fixed : List Str := ["_law_items", "_law_item_here"]
theorem sc__law_fixed : FnScope N__law_fixed ["_law_items"] (defScope s__law_fixed) := ⟨rfl, rfl, rfl, by decide +kernel, rfl, by decide +kernel, by decide +kernel⟩
abbrev s_Page_eq : Stmt := topC 42 2
abbrev N_Page_eq : List Str := ["self", "other"]
theorem sc_Page_eq : FnScope N_Page_eq ["self", "other"] (defScope s_Page_eq) := ⟨rfl, rfl, rfl, by decide +kernel, rfl, by decide +kernel, by decide +kernel⟩
abbrev s_Pattern_init : Stmt := topC 52 0
abbrev N_Pattern_init : List Str := ["self", "text", "level", "shape"]
theorem sc_Pattern_init : FnScope N_Pattern_init ["self", "text", "level", "shape"] (defScope s_Pattern_init) := ⟨rfl, rfl, rfl, by decide +kernel, rfl, by decide +kernel, by decide +kernel⟩
abbrev s_HostPattern_eq : Stmt := topC 53 2
abbrev N_HostPattern_eq : List Str := ["self", "other"]
theorem sc_HostPattern_eq : FnScope N_HostPattern_eq ["self", "other"] (defScope s_HostPattern_eq) := ⟨rfl, rfl, rfl, by decide +kernel, rfl, by decide +kernel, by decide +kernel⟩
abbrev s_HostPattern_fixed : Stmt := topC 53 5
abbrev N_HostPattern_fixed : List Str := ["self", "item"]
theorem sc_HostPattern_fixed : FnScope N_HostPattern_fixed ["self"] (defScope s_HostPattern_fixed) := ⟨rfl, rfl, rfl, by decide +kernel, rfl, by decide +kernel, by decide +kernel⟩
abbrev s_PathPattern_eq : Stmt := topC 54 2
abbrev N_PathPattern_eq : List Str := ["self", "other"]
theorem sc_PathPattern_eq : FnScope N_PathPattern_eq ["self", "other"] (defScope s_PathPattern_eq) := ⟨rfl, rfl, rfl, by decide +kernel, rfl, by decide +kernel, by decide +kernel⟩
abbrev s_PathPattern_fixed : Stmt := topC 54 5
abbrev N_PathPattern_fixed : List Str := ["self", "item"]
theorem sc_PathPattern_fixed : FnScope N_PathPattern_fixed ["self"] (defScope s_PathPattern_fixed) := ⟨rfl, rfl, rfl, by decide +kernel, rfl, by decide +kernel, by decide +kernel⟩
abbrev s_Rule_is_offer : Stmt := topC 61 2
abbrev N_Rule_is_offer : List Str := ["self"]
theorem sc_Rule_is_offer : FnScope N_Rule_is_offer ["self"] (defScope s_Rule_is_offer) := ⟨rfl, rfl, rfl, by decide +kernel, rfl, by decide +kernel, by decide +kernel⟩
abbrev s_Rule_eq : Stmt := topC 61 3
abbrev N_Rule_eq : List Str := ["self", "other"]
theorem sc_Rule_eq : FnScope N_Rule_eq ["self", "other"] (defScope s_Rule_eq) := ⟨rfl, rfl, rfl, by decide +kernel, rfl, by decide +kernel, by decide +kernel⟩
abbrev s_is_path : Stmt := top 14
abbrev N_is_path : List Str := ["thing", "label"]
theorem sc_is_path : FnScope N_is_path ["thing"] (defScope s_is_path) := ⟨rfl, rfl, rfl, by decide +kernel, rfl, by decide +kernel, by decide +kernel⟩
abbrev s_shape_of_items : Stmt := top 49
abbrev N_shape_of_items : List Str := ["items", "limits", "gaps", "least", "most", "most_head", "most_tail", "head", "tail", "at", "item"]
theorem sc_shape_of_items : FnScope N_shape_of_items ["items", "limits"] (defScope s_shape_of_items) := ⟨rfl, rfl, rfl, by decide +kernel, rfl, by decide +kernel, by decide +kernel⟩
abbrev s_ports_of : Stmt := top 58
abbrev N_ports_of : List Str := ["text", "low", "high", "first", "dash", "second"]
theorem sc_ports_of : FnScope N_ports_of ["text"] (defScope s_ports_of) := ⟨rfl, rfl, rfl, by decide +kernel, rfl, by decide +kernel, by decide +kernel⟩
abbrev s__law_of : Stmt := top 68
abbrev N__law_of : List Str := ["_law_bag_here", "_law_some_here"]
theorem sc__law_of : FnScope N__law_of ["_law_bag_here", "_law_some_here"] (defScope s__law_of) := ⟨rfl, rfl, rfl, by decide +kernel, rfl, by decide +kernel, by decide +kernel⟩
abbrev s_is_host : Stmt := top 15
abbrev N_is_host : List Str := ["thing"]
theorem sc_is_host : FnScope N_is_host ["thing"] (defScope s_is_host) := ⟨rfl, rfl, rfl, by decide +kernel, rfl, by decide +kernel, by decide +kernel⟩
abbrev s_host_shape : Stmt := top 50
abbrev N_host_shape : List Str := ["thing"]
theorem sc_host_shape : FnScope N_host_shape ["thing"] (defScope s_host_shape) := ⟨rfl, rfl, rfl, by decide +kernel, rfl, by decide +kernel, by decide +kernel⟩
abbrev s_path_shape : Stmt := top 51
abbrev N_path_shape : List Str := ["thing"]
theorem sc_path_shape : FnScope N_path_shape ["thing"] (defScope s_path_shape) := ⟨rfl, rfl, rfl, by decide +kernel, rfl, by decide +kernel, by decide +kernel⟩
abbrev s_rule_parts : Stmt := top 60
abbrev N_rule_parts : List Str := ["text", "scheme", "mark", "rest", "place", "slash", "path", "name", "colon", "written"]
theorem sc_rule_parts : FnScope N_rule_parts ["text"] (defScope s_rule_parts) := ⟨rfl, rfl, rfl, by decide +kernel, rfl, by decide +kernel, by decide +kernel⟩
abbrev s__law_labels : Stmt := top 69
abbrev N__law_labels : List Str := ["_law_bag_here", "_law_many", "_law_signs", "_law_turn", "_law_place", "_law_left", "_law_found", "_law_stem", "_law_sign"]
theorem sc__law_labels : FnScope N__law_labels ["_law_bag_here", "_law_many"] (defScope s__law_labels) := ⟨rfl, rfl, rfl, by decide +kernel, rfl, by decide +kernel, by decide +kernel⟩
abbrev s__law_item : Stmt := top 70
abbrev N__law_item : List Str := ["_law_bag_here", "_law_pool", "_law_cut", "_law_label", "_law_way"]
theorem sc__law_item : FnScope N__law_item ["_law_bag_here", "_law_pool"] (defScope s__law_item) := ⟨rfl, rfl, rfl, by decide +kernel, rfl, by decide +kernel, by decide +kernel⟩
abbrev s__law_ports : Stmt := top 74
abbrev N__law_ports : List Str := ["_law_bag_here", "_law_high", "_law_way", "_law_low"]
theorem sc__law_ports : FnScope N__law_ports ["_law_bag_here"] (defScope s__law_ports) := ⟨rfl, rfl, rfl, by decide +kernel, rfl, by decide +kernel, by decide +kernel⟩
abbrev s_Rule_closeness : Stmt := topC 61 1
abbrev N_Rule_closeness : List Str := ["self", "hosts", "single"]
theorem sc_Rule_closeness : FnScope N_Rule_closeness ["self"] (defScope s_Rule_closeness) := ⟨rfl, rfl, rfl, by decide +kernel, rfl, by decide +kernel, by decide +kernel⟩
abbrev s_near_of : Stmt := top 59
abbrev N_near_of : List Str := ["text", "host"]
theorem sc_near_of : FnScope N_near_of ["text"] (defScope s_near_of) := ⟨rfl, rfl, rfl, by decide +kernel, rfl, by decide +kernel, by decide +kernel⟩
abbrev s__law_some : Stmt := top 71
abbrev N__law_some : List Str := ["_law_bag_here", "_law_pool", "_law_most", "_law_turn"]
theorem sc__law_some : FnScope N__law_some ["_law_bag_here", "_law_pool", "_law_most"] (defScope s__law_some) := ⟨rfl, rfl, rfl, by decide +kernel, rfl, by decide +kernel, by decide +kernel⟩
abbrev s_HostPattern_init : Stmt := topC 53 0
abbrev N_HostPattern_init : List Str := ["self", "text", "__class__"]
theorem sc_HostPattern_init : NdefX.NScope N_HostPattern_init ["self", "text"] ["__class__"] (defScope s_HostPattern_init) := NdefX.nscope_by (by decide +kernel)
abbrev s_PathPattern_init : Stmt := topC 54 0
abbrev N_PathPattern_init : List Str := ["self", "text", "__class__"]
theorem sc_PathPattern_init : NdefX.NScope N_PathPattern_init ["self", "text"] ["__class__"] (defScope s_PathPattern_init) := NdefX.nscope_by (by decide +kernel)
abbrev s__law_host_part : Stmt := top 72
abbrev N__law_host_part : List Str := ["_law_bag_here", "_law_pool", "_law_way", "_law_tail", "_law_turn"]
theorem sc__law_host_part : FnScope N__law_host_part ["_law_bag_here", "_law_pool"] (defScope s__law_host_part) := ⟨rfl, rfl, rfl, by decide +kernel, rfl, by decide +kernel, by decide +kernel⟩
abbrev s__law_path_items : Stmt := top 73
abbrev N__law_path_items : List Str := ["_law_bag_here", "_law_pool", "_law_head"]
theorem sc__law_path_items : FnScope N__law_path_items ["_law_bag_here", "_law_pool"] (defScope s__law_path_items) := ⟨rfl, rfl, rfl, by decide +kernel, rfl, by decide +kernel, by decide +kernel⟩
abbrev s__law_rule : Stmt := top 75
abbrev N__law_rule : List Str := ["_law_bag_here", "_law_pool", "_law_phrase", "_law_sign", "_law_word", "_law_part", "_law_items", "_law_ports_here"]
theorem sc__law_rule : FnScope N__law_rule ["_law_bag_here", "_law_pool"] (defScope s__law_rule) := ⟨rfl, rfl, rfl, by decide +kernel, rfl, by decide +kernel, by decide +kernel⟩
abbrev s__law_is : Stmt := top 77
abbrev N__law_is : List Str := ["_law_rule_here", "_law_plain", "_law_phrase", "_law_path", "_law_single", "_law_hosts", "_law_told", "_law_near", "_law_sign", "_law_word", "_law_part", "_law_ports_here", "_law_items"]
theorem sc__law_is : FnScope N__law_is ["_law_rule_here", "_law_plain", "_law_phrase"] (defScope s__law_is) := ⟨rfl, rfl, rfl, by decide +kernel, rfl, by decide +kernel, by decide +kernel⟩
abbrev s_Rule_init : Stmt := topC 61 0
abbrev N_Rule_init : List Str := ["self", "text", "parts", "e", "name", "path"]
theorem sc_Rule_init : FnScope N_Rule_init ["self", "text"] (defScope s_Rule_init) := ⟨rfl, rfl, rfl, by decide +kernel, rfl, by decide +kernel, by decide +kernel⟩
abbrev s_law : Stmt := top 78
abbrev N_law : List Str := ["_law_script", "_law_at", "_law_pool", "_law_turn", "_law_bag_here", "_law_kept", "_law_rule_here", "_law_plain", "_law_phrase", "_law_near", "_law_other", "_law_pieces", "_law_digits"]
theorem sc_law : FnScope N_law ["_law_script"] (defScope s_law) := ⟨rfl, rfl, rfl, by decide +kernel, rfl, by decide +kernel, by decide +kernel⟩
structure Ad where
  a_is_label : Addr
  f_is_label : FuncData
  a_port_of : Addr
  f_port_of : FuncData
  a_is_label_text : Addr
  f_is_label_text : FuncData
  a__law_bag : Addr
  f__law_bag : FuncData
  a__law_take : Addr
  f__law_take : FuncData
  a__law_fixed : Addr
  f__law_fixed : FuncData
  a_Page_eq : Addr
  f_Page_eq : FuncData
  a_Pattern_init : Addr
  f_Pattern_init : FuncData
  a_HostPattern_eq : Addr
  f_HostPattern_eq : FuncData
  a_HostPattern_fixed : Addr
  f_HostPattern_fixed : FuncData
  a_PathPattern_eq : Addr
  f_PathPattern_eq : FuncData
  a_PathPattern_fixed : Addr
  f_PathPattern_fixed : FuncData
  a_Rule_is_offer : Addr
  f_Rule_is_offer : FuncData
  a_Rule_eq : Addr
  f_Rule_eq : FuncData
  a_is_path : Addr
  f_is_path : FuncData
  a_shape_of_items : Addr
  f_shape_of_items : FuncData
  a_ports_of : Addr
  f_ports_of : FuncData
  a__law_of : Addr
  f__law_of : FuncData
  a_is_host : Addr
  f_is_host : FuncData
  a_host_shape : Addr
  f_host_shape : FuncData
  a_path_shape : Addr
  f_path_shape : FuncData
  a_rule_parts : Addr
  f_rule_parts : FuncData
  a__law_labels : Addr
  f__law_labels : FuncData
  a__law_item : Addr
  f__law_item : FuncData
  a__law_ports : Addr
  f__law_ports : FuncData
  a_Rule_closeness : Addr
  f_Rule_closeness : FuncData
  a_near_of : Addr
  f_near_of : FuncData
  a__law_some : Addr
  f__law_some : FuncData
  a_HostPattern_init : Addr
  f_HostPattern_init : FuncData
  a_PathPattern_init : Addr
  f_PathPattern_init : FuncData
  a__law_host_part : Addr
  f__law_host_part : FuncData
  a__law_path_items : Addr
  f__law_path_items : FuncData
  a__law_rule : Addr
  f__law_rule : FuncData
  a__law_is : Addr
  f__law_is : FuncData
  a_Rule_init : Addr
  f_Rule_init : FuncData
  a_law : Addr
  f_law : FuncData
  C_HostPattern : Addr
  C_Page : Addr
  C_PathPattern : Addr
  C_Rule : Addr
  x_BadHost : Addr
  i_BadHost : Addr
  x_BadPage : Addr
  i_BadPage : Addr
  x_BadPath : Addr
  i_BadPath : Addr
  x_BadPattern : Addr
  i_BadPattern : Addr
  x_BadPort : Addr
  i_BadPort : Addr
  x_BadRule : Addr
  i_BadRule : Addr
  x_BadScheme : Addr
  i_BadScheme : Addr
structure Txt (P : Program) (K : PySem.W.Frag) (mg : Str → Option Value) (A : Ad) : Prop where
  m_is_label : mg "is_label" = some (.ref A.a_is_label)
  F_is_label : Fun K "is_label" "is_label" s_is_label A.a_is_label A.f_is_label
  b_is_label : Binds K A.f_is_label ["thing"] []
  m_port_of : mg "port_of" = some (.ref A.a_port_of)
  F_port_of : Fun K "port_of" "port_of" s_port_of A.a_port_of A.f_port_of
  b_port_of : Binds K A.f_port_of ["text"] []
  m_is_label_text : mg "is_label_text" = some (.ref A.a_is_label_text)
  F_is_label_text : Fun K "is_label_text" "is_label_text" s_is_label_text A.a_is_label_text A.f_is_label_text
  b_is_label_text : Binds K A.f_is_label_text ["thing"] []
  m__law_bag : mg "_law_bag" = some (.ref A.a__law_bag)
  F__law_bag : Fun K "_law_bag" "_law_bag" s__law_bag A.a__law_bag A.f__law_bag
  b__law_bag : Binds K A.f__law_bag ["_law_script", "_law_at"] []
  m__law_take : mg "_law_take" = some (.ref A.a__law_take)
  F__law_take : Fun K "_law_take" "_law_take" s__law_take A.a__law_take A.f__law_take
  b__law_take : Binds K A.f__law_take ["_law_bag_here", "_law_many"] []
  m__law_fixed : mg "_law_fixed" = some (.ref A.a__law_fixed)
  F__law_fixed : Fun K "_law_fixed" "_law_fixed" s__law_fixed A.a__law_fixed A.f__law_fixed
  b__law_fixed : Binds K A.f__law_fixed ["_law_items"] []
  F_Page_eq : Fun K "__eq__" "Page.__eq__" s_Page_eq A.a_Page_eq A.f_Page_eq
  b_Page_eq : Binds K A.f_Page_eq ["self", "other"] []
  F_Pattern_init : Fun K "__init__" "Pattern.__init__" s_Pattern_init A.a_Pattern_init A.f_Pattern_init
  b_Pattern_init : Binds K A.f_Pattern_init ["self", "text", "level", "shape"] []
  F_HostPattern_eq : Fun K "__eq__" "HostPattern.__eq__" s_HostPattern_eq A.a_HostPattern_eq A.f_HostPattern_eq
  b_HostPattern_eq : Binds K A.f_HostPattern_eq ["self", "other"] []
  F_HostPattern_fixed : Fun K "fixed" "HostPattern.fixed" s_HostPattern_fixed A.a_HostPattern_fixed A.f_HostPattern_fixed
  b_HostPattern_fixed : Binds K A.f_HostPattern_fixed ["self"] []
  F_PathPattern_eq : Fun K "__eq__" "PathPattern.__eq__" s_PathPattern_eq A.a_PathPattern_eq A.f_PathPattern_eq
  b_PathPattern_eq : Binds K A.f_PathPattern_eq ["self", "other"] []
  F_PathPattern_fixed : Fun K "fixed" "PathPattern.fixed" s_PathPattern_fixed A.a_PathPattern_fixed A.f_PathPattern_fixed
  b_PathPattern_fixed : Binds K A.f_PathPattern_fixed ["self"] []
  F_Rule_is_offer : Fun K "is_offer" "Rule.is_offer" s_Rule_is_offer A.a_Rule_is_offer A.f_Rule_is_offer
  b_Rule_is_offer : Binds K A.f_Rule_is_offer ["self"] []
  F_Rule_eq : Fun K "__eq__" "Rule.__eq__" s_Rule_eq A.a_Rule_eq A.f_Rule_eq
  b_Rule_eq : Binds K A.f_Rule_eq ["self", "other"] []
  m_is_path : mg "is_path" = some (.ref A.a_is_path)
  F_is_path : Fun K "is_path" "is_path" s_is_path A.a_is_path A.f_is_path
  b_is_path : Binds K A.f_is_path ["thing"] []
  m_shape_of_items : mg "shape_of_items" = some (.ref A.a_shape_of_items)
  F_shape_of_items : Fun K "shape_of_items" "shape_of_items" s_shape_of_items A.a_shape_of_items A.f_shape_of_items
  b_shape_of_items : Binds K A.f_shape_of_items ["items", "limits"] []
  m_ports_of : mg "ports_of" = some (.ref A.a_ports_of)
  F_ports_of : Fun K "ports_of" "ports_of" s_ports_of A.a_ports_of A.f_ports_of
  b_ports_of : Binds K A.f_ports_of ["text"] []
  m__law_of : mg "_law_of" = some (.ref A.a__law_of)
  F__law_of : Fun K "_law_of" "_law_of" s__law_of A.a__law_of A.f__law_of
  b__law_of : Binds K A.f__law_of ["_law_bag_here", "_law_some_here"] []
  m_is_host : mg "is_host" = some (.ref A.a_is_host)
  F_is_host : Fun K "is_host" "is_host" s_is_host A.a_is_host A.f_is_host
  b_is_host : Binds K A.f_is_host ["thing"] []
  m_host_shape : mg "host_shape" = some (.ref A.a_host_shape)
  F_host_shape : Fun K "host_shape" "host_shape" s_host_shape A.a_host_shape A.f_host_shape
  b_host_shape : Binds K A.f_host_shape ["thing"] []
  m_path_shape : mg "path_shape" = some (.ref A.a_path_shape)
  F_path_shape : Fun K "path_shape" "path_shape" s_path_shape A.a_path_shape A.f_path_shape
  b_path_shape : Binds K A.f_path_shape ["thing"] []
  m_rule_parts : mg "rule_parts" = some (.ref A.a_rule_parts)
  F_rule_parts : Fun K "rule_parts" "rule_parts" s_rule_parts A.a_rule_parts A.f_rule_parts
  b_rule_parts : Binds K A.f_rule_parts ["text"] []
  m__law_labels : mg "_law_labels" = some (.ref A.a__law_labels)
  F__law_labels : Fun K "_law_labels" "_law_labels" s__law_labels A.a__law_labels A.f__law_labels
  b__law_labels : Binds K A.f__law_labels ["_law_bag_here", "_law_many"] []
  m__law_item : mg "_law_item" = some (.ref A.a__law_item)
  F__law_item : Fun K "_law_item" "_law_item" s__law_item A.a__law_item A.f__law_item
  b__law_item : Binds K A.f__law_item ["_law_bag_here", "_law_pool"] []
  m__law_ports : mg "_law_ports" = some (.ref A.a__law_ports)
  F__law_ports : Fun K "_law_ports" "_law_ports" s__law_ports A.a__law_ports A.f__law_ports
  b__law_ports : Binds K A.f__law_ports ["_law_bag_here"] []
  F_Rule_closeness : Fun K "closeness" "Rule.closeness" s_Rule_closeness A.a_Rule_closeness A.f_Rule_closeness
  b_Rule_closeness : Binds K A.f_Rule_closeness ["self"] []
  m_near_of : mg "near_of" = some (.ref A.a_near_of)
  F_near_of : Fun K "near_of" "near_of" s_near_of A.a_near_of A.f_near_of
  b_near_of : Binds K A.f_near_of ["text"] []
  m__law_some : mg "_law_some" = some (.ref A.a__law_some)
  F__law_some : Fun K "_law_some" "_law_some" s__law_some A.a__law_some A.f__law_some
  b__law_some : Binds K A.f__law_some ["_law_bag_here", "_law_pool", "_law_most"] []
  F_HostPattern_init : SupFun P K mg "__init__" "HostPattern.__init__" s_HostPattern_init A.a_HostPattern_init A.a_Pattern_init A.C_HostPattern A.f_HostPattern_init
  b_HostPattern_init : Binds K A.f_HostPattern_init ["self", "text"] []
  F_PathPattern_init : SupFun P K mg "__init__" "PathPattern.__init__" s_PathPattern_init A.a_PathPattern_init A.a_Pattern_init A.C_PathPattern A.f_PathPattern_init
  b_PathPattern_init : Binds K A.f_PathPattern_init ["self", "text"] []
  m__law_host_part : mg "_law_host_part" = some (.ref A.a__law_host_part)
  F__law_host_part : Fun K "_law_host_part" "_law_host_part" s__law_host_part A.a__law_host_part A.f__law_host_part
  b__law_host_part : Binds K A.f__law_host_part ["_law_bag_here", "_law_pool"] []
  m__law_path_items : mg "_law_path_items" = some (.ref A.a__law_path_items)
  F__law_path_items : Fun K "_law_path_items" "_law_path_items" s__law_path_items A.a__law_path_items A.f__law_path_items
  b__law_path_items : Binds K A.f__law_path_items ["_law_bag_here", "_law_pool"] []
  m__law_rule : mg "_law_rule" = some (.ref A.a__law_rule)
  F__law_rule : Fun K "_law_rule" "_law_rule" s__law_rule A.a__law_rule A.f__law_rule
  b__law_rule : Binds K A.f__law_rule ["_law_bag_here", "_law_pool"] []
  m__law_is : mg "_law_is" = some (.ref A.a__law_is)
  F__law_is : Fun K "_law_is" "_law_is" s__law_is A.a__law_is A.f__law_is
  b__law_is : Binds K A.f__law_is ["_law_rule_here", "_law_plain", "_law_phrase"] []
  F_Rule_init : Fun K "__init__" "Rule.__init__" s_Rule_init A.a_Rule_init A.f_Rule_init
  b_Rule_init : Binds K A.f_Rule_init ["self", "text"] []
  m_law : mg "law" = some (.ref A.a_law)
  F_law : Fun K "law" "law" s_law A.a_law A.f_law
  b_law : Binds K A.f_law ["_law_script"] []
  C_HostPattern : ClsN K mg "HostPattern" A.C_HostPattern
  na_HostPattern : ∀ f ∈ (["text", "level", "head", "tail", "gap"] : List Str), NoAttr K A.C_HostPattern f
  M_HostPattern : Mk K A.C_HostPattern A.a_HostPattern_init
  C_Page : ClsN K mg "Page" A.C_Page
  na_Page : ∀ f ∈ (["scheme", "host", "port", "path", "text"] : List Str), NoAttr K A.C_Page f
  C_PathPattern : ClsN K mg "PathPattern" A.C_PathPattern
  na_PathPattern : ∀ f ∈ (["text", "level", "head", "tail", "gap"] : List Str), NoAttr K A.C_PathPattern f
  M_PathPattern : Mk K A.C_PathPattern A.a_PathPattern_init
  C_Rule : ClsN K mg "Rule" A.C_Rule
  na_Rule : ∀ f ∈ (["text", "sign", "scheme", "written_ports", "ports", "near", "host", "path"] : List Str), NoAttr K A.C_Rule f
  M_Rule : Mk K A.C_Rule A.a_Rule_init
  kb_0 : ∀ us ws : List Value, us.length = 0 + 1 → ws.length = 1 → bindArgs A.f_Rule_init ⟨us, (["text"] : List Str).zip ws⟩ = pure ((["self", "text"] : List Str).zip (pickL (0 :: ([0] : List Nat).map (· + 1)) (us ++ ws)))
  pr_Rule_closeness : ∃ p, PropOf K A.C_Rule "closeness" p A.a_Rule_closeness
  pr_HostPattern_fixed : ∃ p, PropOf K A.C_HostPattern "fixed" p A.a_HostPattern_fixed
  pr_PathPattern_fixed : ∃ p, PropOf K A.C_PathPattern "fixed" p A.a_PathPattern_fixed
  pr_Rule_is_offer : ∃ p, PropOf K A.C_Rule "is_offer" p A.a_Rule_is_offer
  eq_HostPattern : PySem.W.findIn K (.ref A.C_HostPattern) "__eq__" = some (some (.ref A.a_HostPattern_eq)) ∧ PySem.W.isFn K (.ref A.a_HostPattern_eq) = true ∧ (∀ T ∈ baseTys, PySem.W.notFirst K A.C_HostPattern (.type T) = true) ∧ (∀ c' ∈ (["Page", "HostPattern", "PathPattern", "Rule"] : List Str), ∀ C', mg c' = some (.ref C') → PySem.W.notFirst K A.C_HostPattern (.ref C') = true) ∧ PySem.W.findIn K (.ref A.C_HostPattern) "__ne__" = some (some (.builtin "object.__ne__"))
  eq_Page : PySem.W.findIn K (.ref A.C_Page) "__eq__" = some (some (.ref A.a_Page_eq)) ∧ PySem.W.isFn K (.ref A.a_Page_eq) = true ∧ (∀ T ∈ baseTys, PySem.W.notFirst K A.C_Page (.type T) = true) ∧ (∀ c' ∈ (["Page", "HostPattern", "PathPattern", "Rule"] : List Str), ∀ C', mg c' = some (.ref C') → PySem.W.notFirst K A.C_Page (.ref C') = true) ∧ PySem.W.findIn K (.ref A.C_Page) "__ne__" = some (some (.builtin "object.__ne__"))
  eq_PathPattern : PySem.W.findIn K (.ref A.C_PathPattern) "__eq__" = some (some (.ref A.a_PathPattern_eq)) ∧ PySem.W.isFn K (.ref A.a_PathPattern_eq) = true ∧ (∀ T ∈ baseTys, PySem.W.notFirst K A.C_PathPattern (.type T) = true) ∧ (∀ c' ∈ (["Page", "HostPattern", "PathPattern", "Rule"] : List Str), ∀ C', mg c' = some (.ref C') → PySem.W.notFirst K A.C_PathPattern (.ref C') = true) ∧ PySem.W.findIn K (.ref A.C_PathPattern) "__ne__" = some (some (.builtin "object.__ne__"))
  eq_Rule : PySem.W.findIn K (.ref A.C_Rule) "__eq__" = some (some (.ref A.a_Rule_eq)) ∧ PySem.W.isFn K (.ref A.a_Rule_eq) = true ∧ (∀ T ∈ baseTys, PySem.W.notFirst K A.C_Rule (.type T) = true) ∧ (∀ c' ∈ (["Page", "HostPattern", "PathPattern", "Rule"] : List Str), ∀ C', mg c' = some (.ref C') → PySem.W.notFirst K A.C_Rule (.ref C') = true) ∧ PySem.W.findIn K (.ref A.C_Rule) "__ne__" = some (some (.builtin "object.__ne__"))
  is_HostPattern : IsT K mg (.ref A.C_HostPattern) [("Page", false), ("HostPattern", true), ("PathPattern", false), ("Rule", false)] noneOfB
  is_Page : IsT K mg (.ref A.C_Page) [("Page", true), ("HostPattern", false), ("PathPattern", false), ("Rule", false)] noneOfB
  is_PathPattern : IsT K mg (.ref A.C_PathPattern) [("Page", false), ("HostPattern", false), ("PathPattern", true), ("Rule", false)] noneOfB
  is_Rule : IsT K mg (.ref A.C_Rule) [("Page", false), ("HostPattern", false), ("PathPattern", false), ("Rule", true)] noneOfB
  x_BadHost : PySem.OwnX.OwnTxt K mg "BadHost" "host" "BadHost.__init__" A.x_BadHost A.i_BadHost
  x_BadPage : PySem.OwnX.OwnTxt K mg "BadPage" "page" "BadPage.__init__" A.x_BadPage A.i_BadPage
  x_BadPath : PySem.OwnX.OwnTxt K mg "BadPath" "path" "BadPath.__init__" A.x_BadPath A.i_BadPath
  x_BadPattern : PySem.OwnX.OwnTxt K mg "BadPattern" "pattern" "BadPattern.__init__" A.x_BadPattern A.i_BadPattern
  x_BadPort : PySem.OwnX.OwnTxt K mg "BadPort" "port" "BadPort.__init__" A.x_BadPort A.i_BadPort
  x_BadRule : PySem.OwnX.OwnTxt K mg "BadRule" "rule" "BadRule.__init__" A.x_BadRule A.i_BadRule
  x_BadScheme : PySem.OwnX.OwnTxt K mg "BadScheme" "scheme" "BadScheme.__init__" A.x_BadScheme A.i_BadScheme
  k_BadHost : Known K mg [("BadHost", "host"), ("BadPage", "page"), ("BadPath", "path"), ("BadPattern", "pattern"), ("BadPort", "port"), ("BadRule", "rule"), ("BadScheme", "scheme")] "BadHost" A.x_BadHost
  k_BadPage : Known K mg [("BadHost", "host"), ("BadPage", "page"), ("BadPath", "path"), ("BadPattern", "pattern"), ("BadPort", "port"), ("BadRule", "rule"), ("BadScheme", "scheme")] "BadPage" A.x_BadPage
  k_BadPath : Known K mg [("BadHost", "host"), ("BadPage", "page"), ("BadPath", "path"), ("BadPattern", "pattern"), ("BadPort", "port"), ("BadRule", "rule"), ("BadScheme", "scheme")] "BadPath" A.x_BadPath
  k_BadPattern : Known K mg [("BadHost", "host"), ("BadPage", "page"), ("BadPath", "path"), ("BadPattern", "pattern"), ("BadPort", "port"), ("BadRule", "rule"), ("BadScheme", "scheme")] "BadPattern" A.x_BadPattern
  k_BadPort : Known K mg [("BadHost", "host"), ("BadPage", "page"), ("BadPath", "path"), ("BadPattern", "pattern"), ("BadPort", "port"), ("BadRule", "rule"), ("BadScheme", "scheme")] "BadPort" A.x_BadPort
  k_BadRule : Known K mg [("BadHost", "host"), ("BadPage", "page"), ("BadPath", "path"), ("BadPattern", "pattern"), ("BadPort", "port"), ("BadRule", "rule"), ("BadScheme", "scheme")] "BadRule" A.x_BadRule
  k_BadScheme : Known K mg [("BadHost", "host"), ("BadPage", "page"), ("BadPath", "path"), ("BadPattern", "pattern"), ("BadPort", "port"), ("BadRule", "rule"), ("BadScheme", "scheme")] "BadScheme" A.x_BadScheme
  z_abs : mg "abs" = none
  z_enumerate : mg "enumerate" = none
  z_int : mg "int" = none
  z_isinstance : mg "isinstance" = none
  z_len : mg "len" = none
  z_list : mg "list" = none
  z_max : mg "max" = none
  z_min : mg "min" = none
  z_range : mg "range" = none
  z_repr : mg "repr" = none
  z_str : mg "str" = none
  z_tuple : mg "tuple" = none
  c_ALL_PORTS : GlobIs K mg "ALL_PORTS" c_ALL_PORTS
  c_CHARACTERS : GlobIs K mg "CHARACTERS" c_CHARACTERS
  c_GAP : GlobIs K mg "GAP" c_GAP
  c_HOST : GlobIs K mg "HOST" c_HOST
  c_HOST_LIMITS : GlobIs K mg "HOST_LIMITS" c_HOST_LIMITS
  c_LONGEST_LABEL : GlobIs K mg "LONGEST_LABEL" c_LONGEST_LABEL
  c_LONGEST_TEXT : GlobIs K mg "LONGEST_TEXT" c_LONGEST_TEXT
  c_MOST_LABELS : GlobIs K mg "MOST_LABELS" c_MOST_LABELS
  c_MOST_NEAR : GlobIs K mg "MOST_NEAR" c_MOST_NEAR
  c_MOST_PORT : GlobIs K mg "MOST_PORT" c_MOST_PORT
  c_PATH : GlobIs K mg "PATH" c_PATH
  c_PATH_LIMITS : GlobIs K mg "PATH_LIMITS" c_PATH_LIMITS
section
variable {P : Program} {w : World} {K : PySem.W.Frag} {mg : Str → Option Value} {base : Heap} {A : Ad}
theorem fo_head (T : Txt P K mg A) : FldOk K mg "head" ["HostPattern", "PathPattern"] := fun c hc => by
  simp only [List.mem_cons, List.not_mem_nil, or_false] at hc
  rcases hc with rfl | rfl
  · exact ⟨_, T.C_HostPattern.mg, T.C_HostPattern.cl, T.na_HostPattern _ (by decide +kernel)⟩
  · exact ⟨_, T.C_PathPattern.mg, T.C_PathPattern.cl, T.na_PathPattern _ (by decide +kernel)⟩
theorem fo_host (T : Txt P K mg A) : FldOk K mg "host" ["Page", "Rule"] := fun c hc => by
  simp only [List.mem_cons, List.not_mem_nil, or_false] at hc
  rcases hc with rfl | rfl
  · exact ⟨_, T.C_Page.mg, T.C_Page.cl, T.na_Page _ (by decide +kernel)⟩
  · exact ⟨_, T.C_Rule.mg, T.C_Rule.cl, T.na_Rule _ (by decide +kernel)⟩
theorem fo_level (T : Txt P K mg A) : FldOk K mg "level" ["HostPattern", "PathPattern"] := fun c hc => by
  simp only [List.mem_cons, List.not_mem_nil, or_false] at hc
  rcases hc with rfl | rfl
  · exact ⟨_, T.C_HostPattern.mg, T.C_HostPattern.cl, T.na_HostPattern _ (by decide +kernel)⟩
  · exact ⟨_, T.C_PathPattern.mg, T.C_PathPattern.cl, T.na_PathPattern _ (by decide +kernel)⟩
theorem fo_near (T : Txt P K mg A) : FldOk K mg "near" ["Rule"] := fun c hc => by
  simp only [List.mem_cons, List.not_mem_nil, or_false] at hc
  rcases hc with rfl
  · exact ⟨_, T.C_Rule.mg, T.C_Rule.cl, T.na_Rule _ (by decide +kernel)⟩
theorem fo_path (T : Txt P K mg A) : FldOk K mg "path" ["Page", "Rule"] := fun c hc => by
  simp only [List.mem_cons, List.not_mem_nil, or_false] at hc
  rcases hc with rfl | rfl
  · exact ⟨_, T.C_Page.mg, T.C_Page.cl, T.na_Page _ (by decide +kernel)⟩
  · exact ⟨_, T.C_Rule.mg, T.C_Rule.cl, T.na_Rule _ (by decide +kernel)⟩
theorem fo_ports (T : Txt P K mg A) : FldOk K mg "ports" ["Rule"] := fun c hc => by
  simp only [List.mem_cons, List.not_mem_nil, or_false] at hc
  rcases hc with rfl
  · exact ⟨_, T.C_Rule.mg, T.C_Rule.cl, T.na_Rule _ (by decide +kernel)⟩
theorem fo_scheme (T : Txt P K mg A) : FldOk K mg "scheme" ["Page", "Rule"] := fun c hc => by
  simp only [List.mem_cons, List.not_mem_nil, or_false] at hc
  rcases hc with rfl | rfl
  · exact ⟨_, T.C_Page.mg, T.C_Page.cl, T.na_Page _ (by decide +kernel)⟩
  · exact ⟨_, T.C_Rule.mg, T.C_Rule.cl, T.na_Rule _ (by decide +kernel)⟩
theorem fo_sign (T : Txt P K mg A) : FldOk K mg "sign" ["Rule"] := fun c hc => by
  simp only [List.mem_cons, List.not_mem_nil, or_false] at hc
  rcases hc with rfl
  · exact ⟨_, T.C_Rule.mg, T.C_Rule.cl, T.na_Rule _ (by decide +kernel)⟩
theorem fo_tail (T : Txt P K mg A) : FldOk K mg "tail" ["HostPattern", "PathPattern"] := fun c hc => by
  simp only [List.mem_cons, List.not_mem_nil, or_false] at hc
  rcases hc with rfl | rfl
  · exact ⟨_, T.C_HostPattern.mg, T.C_HostPattern.cl, T.na_HostPattern _ (by decide +kernel)⟩
  · exact ⟨_, T.C_PathPattern.mg, T.C_PathPattern.cl, T.na_PathPattern _ (by decide +kernel)⟩
theorem fo_text (T : Txt P K mg A) : FldOk K mg "text" ["Page", "HostPattern", "PathPattern", "Rule"] := fun c hc => by
  simp only [List.mem_cons, List.not_mem_nil, or_false] at hc
  rcases hc with rfl | rfl | rfl | rfl
  · exact ⟨_, T.C_Page.mg, T.C_Page.cl, T.na_Page _ (by decide +kernel)⟩
  · exact ⟨_, T.C_HostPattern.mg, T.C_HostPattern.cl, T.na_HostPattern _ (by decide +kernel)⟩
  · exact ⟨_, T.C_PathPattern.mg, T.C_PathPattern.cl, T.na_PathPattern _ (by decide +kernel)⟩
  · exact ⟨_, T.C_Rule.mg, T.C_Rule.cl, T.na_Rule _ (by decide +kernel)⟩
theorem g_is_label (T : Txt P K mg A) : FnG P w K mg base 1 A.a_is_label A.f_is_label ["thing"] (spR K mg false 1 m_is_label_344b) := by
  refine fnR (nr := false) (k := 0) T.F_is_label sc_is_label rfl (by decide) (fun cdv Ar outer s H Hf E ds C hl => ?_)
  match ds, hl with
  | [a0], _ => exact ⟨b_is_label_344b a0, (dss_if (exA := fun (q7 : Unit) => [.im a0, .un]) (dw_or (dt_not (dt_tru (de_isi "str" (de_var 0) (by rfl) T.z_isinstance (by rfl) T.z_str rfl))) (dw_or1 (dt_not (dt_chain (od_le C.rm.units) (od_le C.rm.units) de_int (de_callB oc_len (by rfl) T.z_len rfl (da_cons (de_var 0) da_nil)) (de_globI (by rfl) T.c_LONGEST_LABEL))))).pt (dss_ret de_bl) (dss_nil (a := ()) (And.intro (Or.inl rfl) (And.intro (Or.inr rfl) (trivial)))) fun q7 => (dss_ret (de_not (de_frz (df_lc [("sign", 1)] C (di_any (de_var 0)) (blkOk_by (N := N_is_label) (sc := defScope s_is_label) (by decide +kernel)) (fun s H A cl fp => (pgd_name (C.blk _ _ _ _ _) 1)) (fun s H A cl fp C10 c11 => (pts_test (dt_cmp (od_notIn (hu65 C10.rm)) (de_var 1) (de_globI (by rfl) T.c_CHARACTERS) (by rfl)))) (fun s H A cl fp C10 c11 => (de_var 1)) (by decide)))))), rfl⟩
theorem g_port_of (T : Txt P K mg A) : FnG P w K mg base 1 A.a_port_of A.f_port_of ["text"] (spR K mg false 1 m_port_of_e04e) := by
  refine fnR (nr := false) (k := 0) T.F_port_of sc_port_of rfl (by decide) (fun cdv Ar outer s H Hf E ds C hl => ?_)
  match ds, hl with
  | [a0], _ => exact ⟨b_port_of_e04e a0, (dss_if (exA := fun (q12 : Unit) => [.im a0, .un, .un]) (dw_or (dt_cmp (od_eq C.rm.units) (de_var 0) (de_str []) (by rfl)) (dw_or (dt_cmp (od_gt C.rm.units) (de_callB oc_len (by rfl) T.z_len rfl (da_cons (de_var 0) da_nil)) de_int (by rfl)) (dw_or1 (dt_cmp (od_eq C.rm.units) (de_ix (de_var 0) de_int) (de_str [48]) (by rfl))))).pt (dss_ret de_non) (dss_nil (a := ()) (And.intro (Or.inl rfl) (And.intro (Or.inr rfl) (And.intro (Or.inr rfl) (trivial))))) fun q12 => (dss_for (exl := fun (q15 : Unit) => [.im a0, .un, .un]) () C (di_any (de_var 0)) (pgd_name C 1) (And.intro (Or.inl rfl) (And.intro (Or.inr rfl) (And.intro (Or.inr rfl) (trivial)))) (fun q15 c16 => (dss_if (exA := fun (q19 : Unit) => [.im a0, .im c16, .un]) (dt_cmp (od_notIn (hu65 C.rm)) (de_var 1) (de_str [48, 49, 50, 51, 52, 53, 54, 55, 56, 57]) (by rfl)) (dss_ret de_non) (dss_nil (a := ()) (And.intro (Or.inl rfl) (And.intro (Or.inl rfl) (And.intro (Or.inr rfl) (trivial))))) fun q19 => (dss_nil (a := ()) (And.intro (Or.inl rfl) (And.intro (Or.inr rfl) (And.intro (Or.inr rfl) (trivial))))))) fun q22 => (dss_asg C 2 (de_callTy oc_intX (by rfl) T.z_int rfl (da_cons (de_var 0) da_nil)) fun v23 => (dss_ret (de_ifExp (dt_cmp (od_le C.rm.units) (de_var 2) (de_globI (by rfl) T.c_MOST_PORT) (by rfl)) (de_var 2) de_non))))), rfl⟩
theorem g_is_label_text (T : Txt P K mg A) : FnG P w K mg base 1 A.a_is_label_text A.f_is_label_text ["thing"] (spR K mg false 1 m_is_label_text_206f) := by
  refine fnR (nr := false) (k := 0) T.F_is_label_text sc_is_label_text rfl (by decide) (fun cdv Ar outer s H Hf E ds C hl => ?_)
  match ds, hl with
  | [a0], _ => exact ⟨b_is_label_text_206f a0, (dss_if (exA := fun (q11 : Unit) => [.im a0, .un]) (dw_or (dt_not (dt_tru (de_isi "str" (de_var 0) (by rfl) T.z_isinstance (by rfl) T.z_str rfl))) (dw_or (dt_not (dt_chain (od_le C.rm.units) (od_le C.rm.units) de_int (de_callB oc_len (by rfl) T.z_len rfl (da_cons (de_var 0) da_nil)) (de_globI (by rfl) T.c_LONGEST_TEXT))) (dw_or1 (dt_cmp (od_gt C.rm.units) (de_count (de_var 0) (de_str [42])) de_int (by rfl))))).pt (dss_ret de_bl) (dss_nil (a := ()) (And.intro (Or.inl rfl) (And.intro (Or.inr rfl) (trivial)))) fun q11 => (dss_ret (de_not (de_frz (df_lc [("sign", 1)] C (di_any (de_var 0)) (blkOk_by (N := N_is_label_text) (sc := defScope s_is_label_text) (by decide +kernel)) (fun s H A cl fp => (pgd_name (C.blk _ _ _ _ _) 1)) (fun s H A cl fp C14 c15 => (pts_test (dw_and (dt_cmp (od_ne C14.rm.units) (de_var 1) (de_str [42]) (by rfl)) (dw_and1 (dt_cmp (od_notIn (hu65 C14.rm)) (de_var 1) (de_globI (by rfl) T.c_CHARACTERS) (by rfl)))).pt)) (fun s H A cl fp C14 c15 => (de_var 1)) (by decide)))))), rfl⟩
theorem g__law_bag (T : Txt P K mg A) : FnG P w K mg base 1 A.a__law_bag A.f__law_bag ["_law_script", "_law_at"] (spR K mg true 2 m__law_bag_b4c5) := by
  refine fnR (nr := true) (k := 0) T.F__law_bag sc__law_bag rfl (by decide) (fun cdv Ar outer s H Hf E ds C hl => ?_)
  match ds, hl with
  | [a0, a1], _ => exact ⟨b__law_bag_b4c5 a0 a1, (dss_asg C 2 (de_ifExp (dt_cmp (od_lt C.rm.units) (de_var 1) (de_callB oc_len (by rfl) T.z_len rfl (da_cons (de_var 0) da_nil)) (by rfl)) (de_ix (de_var 0) (de_var 1)) de_int) fun v1 => (dss_asg C 3 (de_op od_add (de_op od_mul de_int (de_var 1)) de_int) fun v9 => (dss_for (exl := fun (q22 : D) => [.im a0, .im a1, .im v1, .im q22, .un, .un]) v9 C (di_enumL (by rfl) T.z_enumerate (da_cons (de_sl (de_var 0) do_none (do_some de_int)) da_nil)) (pgd_tup2 C 4 5) (And.intro (Or.inl rfl) (And.intro (Or.inl rfl) (And.intro (Or.inl rfl) (And.intro (Or.inl rfl) (And.intro (Or.inr rfl) (And.intro (Or.inr rfl) (trivial))))))) (fun q22 c23 => (dss_asg C 3 (de_op od_mod (de_callTy oc_int (by rfl) T.z_int rfl (da_cons (de_op od_add (de_op od_add (de_op od_mul (de_var 3) de_int) (de_op od_mod (de_callTy oc_int (by rfl) T.z_int rfl (da_cons (de_var 5) da_nil)) de_int)) (de_op od_mul de_int (de_var 4))) da_nil)) de_int) fun v24 => (dss_nil (a := v24) (And.intro (Or.inl rfl) (And.intro (Or.inl rfl) (And.intro (Or.inl rfl) (And.intro (Or.inl rfl) (And.intro (Or.inr rfl) (And.intro (Or.inr rfl) (trivial)))))))))) fun q43 => (dss_retF (df_list (da_cons (de_ifExp (dt_cmp (od_ge C.rm.units) (de_callB oc_abs (by rfl) T.z_abs rfl (da_cons (de_var 2) da_nil)) (de_op od_powC de_int de_int) (by rfl)) (de_callB oc_abs (by rfl) T.z_abs rfl (da_cons (de_var 2) da_nil)) de_int) (da_cons (de_var 3) da_nil))))))), rfl⟩
theorem g__law_take (T : Txt P K mg A) : FnG P w K mg base 1 A.a__law_take A.f__law_take ["_law_bag_here", "_law_many"] (spM K mg false (1 + 1) m__law_take_4983) := by
  refine fnM (nr := false) (k := 0) T.F__law_take sc__law_take rfl (by decide) (fun cdv Ar outer s H Hf bag E ds C hl => ?_)
  match ds, hl with
  | [a1], _ => exact ⟨b__law_take_4983 a1, (dss_if (exA := fun (q3 : Unit) => [.bg, .im a1, .un]) (dt_cmp (od_gt C.rm.units) (de_bagX 0) de_int (by rfl)) (dss_asg C 2 (de_op od_mod (de_callTy oc_int (by rfl) T.z_int rfl (da_cons (de_bagX 0) da_nil)) (de_var 1)) fun v4 => (dss_bagSetX 0 (de_op od_fdiv (de_bagX 0) (de_var 1)) (dss_ret (de_var 2)))) (dss_nil (a := ()) (And.intro (Or.inl rfl) (And.intro (Or.inl rfl) (And.intro (Or.inr rfl) (trivial))))) fun q3 => (dss_bagSetY 0 (de_op od_mod (de_callTy oc_int (by rfl) T.z_int rfl (da_cons (de_op od_add (de_op od_mul (de_bagY 0) de_int) de_int) da_nil)) de_int) (dss_ret (de_op od_mod (de_op od_fdiv (de_op od_mod (de_callTy oc_int (by rfl) T.z_int rfl (da_cons (de_op od_mul (de_op od_fdiv (de_bagY 0) de_int) de_int) da_nil)) de_int) de_int) (de_var 1))))), rfl⟩
theorem g__law_fixed (T : Txt P K mg A) : FnG P w K mg base 1 A.a__law_fixed A.f__law_fixed ["_law_items"] (spR K mg false 1 m__law_fixed_a772) := by
  refine fnR (nr := false) (k := 0) T.F__law_fixed sc__law_fixed rfl (by decide) (fun cdv Ar outer s H Hf E ds C hl => ?_)
  match ds, hl with
  | [a0], _ => exact ⟨b__law_fixed_a772 a0, (dss_ret (de_callB oc_len (by rfl) T.z_len rfl (da_cons (de_frz (df_lc [("_law_item_here", 1)] C (di_any (de_var 0)) (blkOk_by (N := N__law_fixed) (sc := defScope s__law_fixed) (by decide +kernel)) (fun s H A cl fp => (pgd_name (C.blk _ _ _ _ _) 1)) (fun s H A cl fp C2 c3 => (pts_test (dt_cmp (od_notIn (hu65 C2.rm)) (de_str [42]) (de_var 1) (by rfl)))) (fun s H A cl fp C2 c3 => (de_var 1)) (by decide))) da_nil))), rfl⟩
theorem g_Page_eq (T : Txt P K mg A) : FnG P w K mg base 1 A.a_Page_eq A.f_Page_eq ["self", "other"] (spR K mg false 2 m_Page_eq_ca54) := by
  refine fnR (nr := false) (k := 0) T.F_Page_eq sc_Page_eq rfl (by decide) (fun cdv Ar outer s H Hf E ds C hl => ?_)
  match ds, hl with
  | [a0, a1], _ => exact ⟨b_Page_eq_ca54 a0 a1, (dss_ret (de_and (de_isT (.own _) T.is_Page (de_var 1) (pe_own T.C_Page.mg) (by rfl) T.z_isinstance) (de_one (de_cmp (od_eq C.rm.units) (de_fld ["Page", "HostPattern", "PathPattern", "Rule"] (de_var 0) (fo_text T)) (de_fld ["Page", "HostPattern", "PathPattern", "Rule"] (de_var 1) (fo_text T)) (by rfl))))), rfl⟩
theorem g_Pattern_init (T : Txt P K mg A) : FnG P w K mg base 1 A.a_Pattern_init A.f_Pattern_init ["self", "text", "level", "shape"] (spI K mg ["text", "level", "head", "tail", "gap"] (fun l => l = 3 + 1) m_Pattern_init_4a0d) := by
  refine fnI (k := 0) (n := 3) T.F_Pattern_init sc_Pattern_init rfl (by decide) (fun cdv Ar outer s H Hf E o ds C hl => ?_)
  match ds, hl with
  | [a1, a2, a3], _ => exact ⟨b_Pattern_init_4a0d a1 a2 a3, (dss_if (exA := fun (q3 : Unit) => [.ob [] [], .im a1, .im a2, .im a3]) (dt_cmp od_is (de_var 3) de_non (by rfl)) (dss_raise C T.x_BadPattern (de_var 1)) (dss_nil (a := ()) (And.intro (Or.inl rfl) (And.intro (Or.inl rfl) (And.intro (Or.inl rfl) (And.intro (Or.inl rfl) (trivial)))))) fun q3 => (dss_fld (ns := []) (ds := []) (f := "text") 0 (de_var 1) (fun v5 => (dss_fld (ns := ["text"]) (ds := [v5]) (f := "level") 0 (de_var 2) (fun v6 => (dss_unpF (self := "self") (ns := ["text", "level"]) (es0 := [v5, v6]) C 0 3 [.fl "head", .fl "tail", .fl "gap"] (.fl (.fl (.fl .nil (hm := (by decide +kernel : ("gap" : Str) ∈ (["text", "level", "head", "tail", "gap"] : List Str)))) (hm := (by decide +kernel : ("tail" : Str) ∈ (["text", "level", "head", "tail", "gap"] : List Str)))) (hm := (by decide +kernel : ("head" : Str) ∈ (["text", "level", "head", "tail", "gap"] : List Str)))) (de_var 3) (fun c8 => (dss_nil (a := [v5, v6, (c8.getD 0 .non), (c8.getD 1 .non), (c8.getD 2 .non)]) (And.intro (Or.inl rfl) (And.intro (Or.inr rfl) (And.intro (Or.inr rfl) (And.intro (Or.inr rfl) (trivial))))))))) (hm := (by decide +kernel : ("level" : Str) ∈ (["text", "level", "head", "tail", "gap"] : List Str))))) (hm := (by decide +kernel : ("text" : Str) ∈ (["text", "level", "head", "tail", "gap"] : List Str))))), rfl⟩
theorem g_HostPattern_eq (T : Txt P K mg A) : FnG P w K mg base 1 A.a_HostPattern_eq A.f_HostPattern_eq ["self", "other"] (spR K mg false 2 m_HostPattern_eq_ad46) := by
  refine fnR (nr := false) (k := 0) T.F_HostPattern_eq sc_HostPattern_eq rfl (by decide) (fun cdv Ar outer s H Hf E ds C hl => ?_)
  match ds, hl with
  | [a0, a1], _ => exact ⟨b_HostPattern_eq_ad46 a0 a1, (dss_ret (de_and (de_isT (.own _) T.is_HostPattern (de_var 1) (pe_own T.C_HostPattern.mg) (by rfl) T.z_isinstance) (de_one (de_cmp (od_eq C.rm.units) (de_fld ["Page", "HostPattern", "PathPattern", "Rule"] (de_var 0) (fo_text T)) (de_fld ["Page", "HostPattern", "PathPattern", "Rule"] (de_var 1) (fo_text T)) (by rfl))))), rfl⟩
theorem g_HostPattern_fixed (T : Txt P K mg A) : FnG P w K mg base 1 A.a_HostPattern_fixed A.f_HostPattern_fixed ["self"] (spR K mg false 1 m_HostPattern_fixed_fb96) := by
  refine fnR (nr := false) (k := 0) T.F_HostPattern_fixed sc_HostPattern_fixed rfl (by decide) (fun cdv Ar outer s H Hf E ds C hl => ?_)
  match ds, hl with
  | [a0], _ => exact ⟨b_HostPattern_fixed_fb96 a0, (dss_ret (de_callB oc_len (by rfl) T.z_len rfl (da_cons (de_frz (df_lc [("item", 1)] C (di_any (de_op od_add (de_fld ["HostPattern", "PathPattern"] (de_var 0) (fo_head T)) (de_fld ["HostPattern", "PathPattern"] (de_var 0) (fo_tail T)))) (blkOk_by (N := N_HostPattern_fixed) (sc := defScope s_HostPattern_fixed) (by decide +kernel)) (fun s H A cl fp => (pgd_name (C.blk _ _ _ _ _) 1)) (fun s H A cl fp C6 c7 => (pts_test (dt_cmp (od_lt C6.rm.units) (de_find (de_var 1) (de_str [42])) de_int (by rfl)))) (fun s H A cl fp C6 c7 => (de_var 1)) (by decide))) da_nil))), rfl⟩
theorem g_PathPattern_eq (T : Txt P K mg A) : FnG P w K mg base 1 A.a_PathPattern_eq A.f_PathPattern_eq ["self", "other"] (spR K mg false 2 m_PathPattern_eq_f7cd) := by
  refine fnR (nr := false) (k := 0) T.F_PathPattern_eq sc_PathPattern_eq rfl (by decide) (fun cdv Ar outer s H Hf E ds C hl => ?_)
  match ds, hl with
  | [a0, a1], _ => exact ⟨b_PathPattern_eq_f7cd a0 a1, (dss_ret (de_and (de_isT (.own _) T.is_PathPattern (de_var 1) (pe_own T.C_PathPattern.mg) (by rfl) T.z_isinstance) (de_one (de_cmp (od_eq C.rm.units) (de_fld ["Page", "HostPattern", "PathPattern", "Rule"] (de_var 0) (fo_text T)) (de_fld ["Page", "HostPattern", "PathPattern", "Rule"] (de_var 1) (fo_text T)) (by rfl))))), rfl⟩
theorem g_PathPattern_fixed (T : Txt P K mg A) : FnG P w K mg base 1 A.a_PathPattern_fixed A.f_PathPattern_fixed ["self"] (spR K mg false 1 m_PathPattern_fixed_fb96) := by
  refine fnR (nr := false) (k := 0) T.F_PathPattern_fixed sc_PathPattern_fixed rfl (by decide) (fun cdv Ar outer s H Hf E ds C hl => ?_)
  match ds, hl with
  | [a0], _ => exact ⟨b_PathPattern_fixed_fb96 a0, (dss_ret (de_callB oc_len (by rfl) T.z_len rfl (da_cons (de_frz (df_lc [("item", 1)] C (di_any (de_op od_add (de_fld ["HostPattern", "PathPattern"] (de_var 0) (fo_head T)) (de_fld ["HostPattern", "PathPattern"] (de_var 0) (fo_tail T)))) (blkOk_by (N := N_PathPattern_fixed) (sc := defScope s_PathPattern_fixed) (by decide +kernel)) (fun s H A cl fp => (pgd_name (C.blk _ _ _ _ _) 1)) (fun s H A cl fp C6 c7 => (pts_test (dt_cmp (od_lt C6.rm.units) (de_find (de_var 1) (de_str [42])) de_int (by rfl)))) (fun s H A cl fp C6 c7 => (de_var 1)) (by decide))) da_nil))), rfl⟩
theorem pr_fixed (T : Txt P K mg A) : ∀ q ∈ ([("HostPattern", m_HostPattern_fixed_fb96), ("PathPattern", m_PathPattern_fixed_fb96)] : List (Str × (List D → R D))), PropG P w K mg base 1 "fixed" q.1 q.2 := fun q hq => by
  simp only [List.mem_cons, List.not_mem_nil, or_false] at hq
  rcases hq with rfl | rfl
  · obtain ⟨p, hp⟩ := T.pr_HostPattern_fixed
    exact ⟨_, p, _, T.C_HostPattern.mg, T.C_HostPattern.cl, hp, ((g_HostPattern_fixed T).pos T.b_HostPattern_fixed).mono (by decide)⟩
  · obtain ⟨p, hp⟩ := T.pr_PathPattern_fixed
    exact ⟨_, p, _, T.C_PathPattern.mg, T.C_PathPattern.cl, hp, ((g_PathPattern_fixed T).pos T.b_PathPattern_fixed).mono (by decide)⟩
theorem g_Rule_is_offer (T : Txt P K mg A) : FnG P w K mg base 1 A.a_Rule_is_offer A.f_Rule_is_offer ["self"] (spR K mg false 1 m_Rule_is_offer_6fe5) := by
  refine fnR (nr := false) (k := 0) T.F_Rule_is_offer sc_Rule_is_offer rfl (by decide) (fun cdv Ar outer s H Hf E ds C hl => ?_)
  match ds, hl with
  | [a0], _ => exact ⟨b_Rule_is_offer_6fe5 a0, (dss_ret (de_cmp (od_eq C.rm.units) (de_fld ["Rule"] (de_var 0) (fo_sign T)) (de_str [43]) (by rfl))), rfl⟩
theorem pr_is_offer (T : Txt P K mg A) : ∀ q ∈ ([("Rule", m_Rule_is_offer_6fe5)] : List (Str × (List D → R D))), PropG P w K mg base 1 "is_offer" q.1 q.2 := fun q hq => by
  simp only [List.mem_cons, List.not_mem_nil, or_false] at hq
  rcases hq with rfl
  · obtain ⟨p, hp⟩ := T.pr_Rule_is_offer
    exact ⟨_, p, _, T.C_Rule.mg, T.C_Rule.cl, hp, ((g_Rule_is_offer T).pos T.b_Rule_is_offer).mono (by decide)⟩
theorem g_Rule_eq (T : Txt P K mg A) : FnG P w K mg base 1 A.a_Rule_eq A.f_Rule_eq ["self", "other"] (spR K mg false 2 m_Rule_eq_ea23) := by
  refine fnR (nr := false) (k := 0) T.F_Rule_eq sc_Rule_eq rfl (by decide) (fun cdv Ar outer s H Hf E ds C hl => ?_)
  match ds, hl with
  | [a0, a1], _ => exact ⟨b_Rule_eq_ea23 a0 a1, (dss_ret (de_and (de_isT (.own _) T.is_Rule (de_var 1) (pe_own T.C_Rule.mg) (by rfl) T.z_isinstance) (de_one (de_cmp (od_eq C.rm.units) (de_fld ["Page", "HostPattern", "PathPattern", "Rule"] (de_var 0) (fo_text T)) (de_fld ["Page", "HostPattern", "PathPattern", "Rule"] (de_var 1) (fo_text T)) (by rfl))))), rfl⟩
theorem eq_all (T : Txt P K mg A) : ∀ q ∈ ([("Page", m_Page_eq_ca54), ("HostPattern", m_HostPattern_eq_ad46), ("PathPattern", m_PathPattern_eq_f7cd), ("Rule", m_Rule_eq_ea23)] : List (Str × (List D → R D))), EqC P w K mg base 1 (([("Page", m_Page_eq_ca54), ("HostPattern", m_HostPattern_eq_ad46), ("PathPattern", m_PathPattern_eq_f7cd), ("Rule", m_Rule_eq_ea23)] : List (Str × (List D → R D))).map Prod.fst) q.1 q.2 := fun q hq => by
  simp only [List.mem_cons, List.not_mem_nil, or_false] at hq
  rcases hq with rfl | rfl | rfl | rfl
  · exact ⟨_, _, T.C_Page, T.eq_Page.1, T.eq_Page.2.1, ((g_Page_eq T).pos T.b_Page_eq).mono (by decide), T.eq_Page.2.2.1, T.eq_Page.2.2.2.1, T.eq_Page.2.2.2.2⟩
  · exact ⟨_, _, T.C_HostPattern, T.eq_HostPattern.1, T.eq_HostPattern.2.1, ((g_HostPattern_eq T).pos T.b_HostPattern_eq).mono (by decide), T.eq_HostPattern.2.2.1, T.eq_HostPattern.2.2.2.1, T.eq_HostPattern.2.2.2.2⟩
  · exact ⟨_, _, T.C_PathPattern, T.eq_PathPattern.1, T.eq_PathPattern.2.1, ((g_PathPattern_eq T).pos T.b_PathPattern_eq).mono (by decide), T.eq_PathPattern.2.2.1, T.eq_PathPattern.2.2.2.1, T.eq_PathPattern.2.2.2.2⟩
  · exact ⟨_, _, T.C_Rule, T.eq_Rule.1, T.eq_Rule.2.1, ((g_Rule_eq T).pos T.b_Rule_eq).mono (by decide), T.eq_Rule.2.2.1, T.eq_Rule.2.2.2.1, T.eq_Rule.2.2.2.2⟩
theorem g_is_path (T : Txt P K mg A) : FnG P w K mg base 2 A.a_is_path A.f_is_path ["thing"] (spR K mg false 1 m_is_path_08e1) := by
  refine fnR (nr := false) (k := 1) T.F_is_path sc_is_path rfl (by decide) (fun cdv Ar outer s H Hf E ds C hl => ?_)
  match ds, hl with
  | [a0], _ => exact ⟨b_is_path_08e1 a0, (dss_if (exA := fun (q8 : Unit) => [.im a0, .un]) (dw_or (dt_not (dt_tru (de_isi "tuple" (de_var 0) (by rfl) T.z_isinstance (by rfl) T.z_tuple rfl))) (dw_or1 (dt_cmp (od_gt C.rm.units) (de_callB oc_len (by rfl) T.z_len rfl (da_cons (de_var 0) da_nil)) (de_globI (by rfl) T.c_MOST_LABELS) (by rfl)))).pt (dss_ret de_bl) (dss_nil (a := ()) (And.intro (Or.inl rfl) (And.intro (Or.inr rfl) (trivial)))) fun q8 => (dss_ret (de_not (de_frz (df_lc [("label", 1)] C (di_any (de_var 0)) (blkOk_by (N := N_is_path) (sc := defScope s_is_path) (by decide +kernel)) (fun s H A cl fp => (pgd_name (C.blk _ _ _ _ _) 1)) (fun s H A cl fp C11 c12 => (pts_test (dt_not (dt_tru (de_fn C11 (g_is_label T) T.m_is_label T.F_is_label.kp T.b_is_label (da_cons (de_var 1) da_nil) n_is_label_344b))))) (fun s H A cl fp C11 c12 => (de_var 1)) (by decide)))))), rfl⟩
theorem g_shape_of_items (T : Txt P K mg A) : FnG P w K mg base 2 A.a_shape_of_items A.f_shape_of_items ["items", "limits"] (spR K mg false 2 m_shape_of_items_2081) := by
  refine fnR (nr := false) (k := 1) T.F_shape_of_items sc_shape_of_items rfl (by decide) (fun cdv Ar outer s H Hf E ds C hl => ?_)
  match ds, hl with
  | [a0, a1], _ => exact ⟨b_shape_of_items_2081 a0 a1, (dss_unp (pgd_tupN C 4 (.cons 3 (.cons 4 (.cons 5 (.cons 6 .nil))))) (de_var 1) fun c2 => (dss_setF (ps_setLcF (st := fun G d => ((G.set 9 (.im d.1)).set 10 (.im d.2))) (g := gTup K 2 (gCons (gName 9) (gCons (gName 10) gNil))) (is := [9, 10]) [("at", 9), ("item", 10)] C 2 (di_enumL (by rfl) T.z_enumerate (da_cons (de_var 0) da_nil)) (blkOk_by (N := N_shape_of_items) (sc := defScope s_shape_of_items) (by decide +kernel)) (fun s H A cl fp => (pgd_tup2 (C.blk _ _ _ _ _) 9 10)) (fun s H A cl fp C7 c8 => (pts_test (dt_cmp (od_eq C7.rm.units) (de_var 10) (de_globI (by rfl) T.c_GAP) (by rfl)))) (fun s H A cl fp C7 c8 => (de_var 9)) (by decide)) fun v3 => (dss_if (exA := fun (q28 : Unit) => [.im a0, .im a1, .im v3, .im (c2.getD 0 .non), .im (c2.getD 1 .non), .im (c2.getD 2 .non), .im (c2.getD 3 .non), .un, .un, .un, .un]) (dw_or (dt_cmp (od_gt C.rm.units) (de_callB oc_len (by rfl) T.z_len rfl (da_cons (de_var 2) da_nil)) de_int (by rfl)) (dw_or1 (dt_tru (de_frz (df_lc [("item", 10)] C (di_any (de_var 0)) (blkOk_by (N := N_shape_of_items) (sc := defScope s_shape_of_items) (by decide +kernel)) (fun s H A cl fp => (pgd_name (C.blk _ _ _ _ _) 10)) (fun s H A cl fp C18 c19 => (pts_test (dw_and (dt_cmp (od_ne C18.rm.units) (de_var 10) (de_globI (by rfl) T.c_GAP) (by rfl)) (dw_and1 (dt_not (dt_tru (de_fn C18 (g_is_label_text T) T.m_is_label_text T.F_is_label_text.kp T.b_is_label_text (da_cons (de_var 10) da_nil) n_is_label_text_206f))))).pt)) (fun s H A cl fp C18 c19 => (de_var 10)) (by decide)))))).pt (dss_ret de_non) (dss_nil (a := ()) (And.intro (Or.inl rfl) (And.intro (Or.inl rfl) (And.intro (Or.inl rfl) (And.intro (Or.inl rfl) (And.intro (Or.inl rfl) (And.intro (Or.inl rfl) (And.intro (Or.inl rfl) (And.intro (Or.inr rfl) (And.intro (Or.inr rfl) (And.intro (Or.inr rfl) (And.intro (Or.inr rfl) (trivial))))))))))))) fun q28 => (dss_if (exA := fun (q31 : Unit) => [.im a0, .im a1, .im v3, .im (c2.getD 0 .non), .im (c2.getD 1 .non), .im (c2.getD 2 .non), .im (c2.getD 3 .non), .un, .un, .un, .un]) (dt_not (dt_tru (de_var 2))) (dss_ret (de_ifExp (dt_chain (od_le C.rm.units) (od_le C.rm.units) (de_var 3) (de_callB oc_len (by rfl) T.z_len rfl (da_cons (de_var 0) da_nil)) (de_var 4)) (de_tup (da_cons (de_callTy oc_tuple (by rfl) T.z_tuple rfl (da_cons (de_var 0) da_nil)) (da_cons (de_tup da_nil) (da_cons de_bl da_nil)))) de_non)) (dss_nil (a := ()) (And.intro (Or.inl rfl) (And.intro (Or.inl rfl) (And.intro (Or.inl rfl) (And.intro (Or.inl rfl) (And.intro (Or.inl rfl) (And.intro (Or.inl rfl) (And.intro (Or.inl rfl) (And.intro (Or.inr rfl) (And.intro (Or.inr rfl) (And.intro (Or.inr rfl) (And.intro (Or.inr rfl) (trivial))))))))))))) fun q31 => (dss_parEE C 7 8 (de_callTy oc_tuple (by rfl) T.z_tuple rfl (da_cons (de_sl (de_var 0) do_none (do_some (de_ix (de_var 2) de_int))) da_nil)) (de_callTy oc_tuple (by rfl) T.z_tuple rfl (da_cons (de_sl (de_var 0) (do_some (de_op od_add (de_ix (de_var 2) de_int) de_int)) do_none) da_nil)) fun v50 v51 => (dss_ret (de_ifExp (dw_and (dt_cmp (od_le C.rm.units) (de_callB oc_len (by rfl) T.z_len rfl (da_cons (de_var 7) da_nil)) (de_var 5) (by rfl)) (dw_and1 (dt_cmp (od_le C.rm.units) (de_callB oc_len (by rfl) T.z_len rfl (da_cons (de_var 8) da_nil)) (de_var 6) (by rfl)))).pt (de_tup (da_cons (de_var 7) (da_cons (de_var 8) (da_cons de_bl da_nil)))) de_non))))))), rfl⟩
theorem g_ports_of (T : Txt P K mg A) : FnG P w K mg base 2 A.a_ports_of A.f_ports_of ["text"] (spR K mg false 1 m_ports_of_0eba) := by
  refine fnR (nr := false) (k := 1) T.F_ports_of sc_ports_of rfl (by decide) (fun cdv Ar outer s H Hf E ds C hl => ?_)
  match ds, hl with
  | [a0], _ => exact ⟨b_ports_of_0eba a0, (dss_if (exA := fun (q3 : Unit) => [.im a0, .un, .un, .un, .un, .un]) (dt_cmp (od_eq C.rm.units) (de_var 0) (de_str [42]) (by rfl)) (dss_ret (de_globI (by rfl) T.c_ALL_PORTS)) (dss_nil (a := ()) (And.intro (Or.inl rfl) (And.intro (Or.inr rfl) (And.intro (Or.inr rfl) (And.intro (Or.inr rfl) (And.intro (Or.inr rfl) (And.intro (Or.inr rfl) (trivial)))))))) fun q3 => (dss_unp (pgd_tup3 C 3 4 5) (de_part (de_var 0) (de_str [45])) fun c6 => (dss_asg C 1 (de_fn C (g_port_of T) T.m_port_of T.F_port_of.kp T.b_port_of (da_cons (de_var 3) da_nil) n_port_of_e04e) fun v9 => (dss_asg C 2 (de_ifExp (dt_cmp (od_eq C.rm.units) (de_var 4) (de_str []) (by rfl)) (de_var 1) (de_fn C (g_port_of T) T.m_port_of T.F_port_of.kp T.b_port_of (da_cons (de_var 5) da_nil) n_port_of_e04e)) fun v13 => (dss_if (exA := fun (q23 : Unit) => [.im a0, .im v9, .im v13, .im c6.1, .im c6.2.1, .im c6.2.2]) (dw_or (dt_cmp od_is (de_var 1) de_non (by rfl)) (dw_or1 (dt_cmp od_is (de_var 2) de_non (by rfl)))).pt (dss_ret de_non) (dss_nil (a := ()) (And.intro (Or.inl rfl) (And.intro (Or.inl rfl) (And.intro (Or.inl rfl) (And.intro (Or.inl rfl) (And.intro (Or.inl rfl) (And.intro (Or.inl rfl) (trivial)))))))) fun q23 => (dss_if (exA := fun (q29 : Unit) => [.im a0, .im v9, .im v13, .im c6.1, .im c6.2.1, .im c6.2.2]) (dw_and (dt_cmp (od_eq C.rm.units) (de_var 4) (de_str [45]) (by rfl)) (dw_and1 (dt_cmp (od_ge C.rm.units) (de_var 1) (de_var 2) (by rfl)))).pt (dss_ret de_non) (dss_nil (a := ()) (And.intro (Or.inl rfl) (And.intro (Or.inl rfl) (And.intro (Or.inl rfl) (And.intro (Or.inl rfl) (And.intro (Or.inl rfl) (And.intro (Or.inl rfl) (trivial)))))))) fun q29 => (dss_ret (de_tup (da_cons (de_var 1) (da_cons (de_var 2) da_nil)))))))))), rfl⟩
theorem g__law_of (T : Txt P K mg A) : FnG P w K mg base 2 A.a__law_of A.f__law_of ["_law_bag_here", "_law_some_here"] (spM K mg false (1 + 1) m__law_of_68b0) := by
  refine fnM (nr := false) (k := 1) T.F__law_of sc__law_of rfl (by decide) (fun cdv Ar outer s H Hf bag E ds C hl => ?_)
  match ds, hl with
  | [a1], _ => exact ⟨b__law_of_68b0 a1, (dss_ret (de_ix (de_var 1) (de_fnM C 0 (g__law_take T) T.m__law_take T.F__law_take.kp T.b__law_take (da_cons (de_callB oc_len (by rfl) T.z_len rfl (da_cons (de_var 1) da_nil)) da_nil) n__law_take_4983))), rfl⟩
theorem g_is_host (T : Txt P K mg A) : FnG P w K mg base 3 A.a_is_host A.f_is_host ["thing"] (spR K mg false 1 m_is_host_45ba) := by
  refine fnR (nr := false) (k := 2) T.F_is_host sc_is_host rfl (by decide) (fun cdv Ar outer s H Hf E ds C hl => ?_)
  match ds, hl with
  | [a0], _ => exact ⟨b_is_host_45ba a0, (dss_ret (de_and (de_fn C (g_is_path T) T.m_is_path T.F_is_path.kp T.b_is_path (da_cons (de_var 0) da_nil) n_is_path_08e1) (de_one (de_cmp (od_gt C.rm.units) (de_callB oc_len (by rfl) T.z_len rfl (da_cons (de_var 0) da_nil)) de_int (by rfl))))), rfl⟩
theorem g_host_shape (T : Txt P K mg A) : FnG P w K mg base 3 A.a_host_shape A.f_host_shape ["thing"] (spR K mg false 1 m_host_shape_b82b) := by
  refine fnR (nr := false) (k := 2) T.F_host_shape sc_host_shape rfl (by decide) (fun cdv Ar outer s H Hf E ds C hl => ?_)
  match ds, hl with
  | [a0], _ => exact ⟨b_host_shape_b82b a0, (dss_if (exA := fun (q3 : Unit) => [.im a0]) (dt_not (dt_tru (de_isi "str" (de_var 0) (by rfl) T.z_isinstance (by rfl) T.z_str rfl))) (dss_ret de_non) (dss_nil (a := ()) (And.intro (Or.inl rfl) (trivial))) fun q3 => (dss_ret (de_fn C (g_shape_of_items T) T.m_shape_of_items T.F_shape_of_items.kp T.b_shape_of_items (da_cons (de_rev (de_frz (df_split (de_var 0) (de_str [46])))) (da_cons (de_globI (by rfl) T.c_HOST_LIMITS) da_nil)) n_shape_of_items_2081))), rfl⟩
theorem g_path_shape (T : Txt P K mg A) : FnG P w K mg base 3 A.a_path_shape A.f_path_shape ["thing"] (spR K mg false 1 m_path_shape_25b3) := by
  refine fnR (nr := false) (k := 2) T.F_path_shape sc_path_shape rfl (by decide) (fun cdv Ar outer s H Hf E ds C hl => ?_)
  match ds, hl with
  | [a0], _ => exact ⟨b_path_shape_25b3 a0, (dss_if (exA := fun (q6 : Unit) => [.im a0]) (dw_or (dt_not (dt_tru (de_isi "str" (de_var 0) (by rfl) T.z_isinstance (by rfl) T.z_str rfl))) (dw_or1 (dt_not (dt_tru (de_starts (de_var 0) (de_str [47])))))).pt (dss_ret de_non) (dss_nil (a := ()) (And.intro (Or.inl rfl) (trivial))) fun q6 => (dss_ret (de_fn C (g_shape_of_items T) T.m_shape_of_items T.F_shape_of_items.kp T.b_shape_of_items (da_cons (de_ifExp (dt_cmp (od_ne C.rm.units) (de_var 0) (de_str [47]) (by rfl)) (de_frz (df_split (de_sl (de_var 0) (do_some de_int) do_none) (de_str [47]))) (de_frz (df_list da_nil))) (da_cons (de_globI (by rfl) T.c_PATH_LIMITS) da_nil)) n_shape_of_items_2081))), rfl⟩
theorem g_rule_parts (T : Txt P K mg A) : FnG P w K mg base 3 A.a_rule_parts A.f_rule_parts ["text"] (spR K mg false 1 m_rule_parts_d2df) := by
  refine fnR (nr := false) (k := 2) T.F_rule_parts sc_rule_parts rfl (by decide) (fun cdv Ar outer s H Hf E ds C hl => ?_)
  match ds, hl with
  | [a0], _ => exact ⟨b_rule_parts_d2df a0, (dss_if (exA := fun (q16 : Unit) => [.im a0, .un, .un, .un, .un, .un, .un, .un, .un, .un]) (dw_or (dt_not (dt_tru (de_isi "str" (de_var 0) (by rfl) T.z_isinstance (by rfl) T.z_str rfl))) (dw_or1 (dt_cmp (od_notIn (hu65 C.rm)) (de_sl (de_var 0) do_none (do_some de_int)) (de_tup (da_cons (de_str [43, 32]) (da_cons (de_str [45, 32]) da_nil))) (by rfl)))).pt (dss_ret de_non) (dss_nil (a := ()) (And.intro (Or.inl rfl) (And.intro (Or.inr rfl) (And.intro (Or.inr rfl) (And.intro (Or.inr rfl) (And.intro (Or.inr rfl) (And.intro (Or.inr rfl) (And.intro (Or.inr rfl) (And.intro (Or.inr rfl) (And.intro (Or.inr rfl) (And.intro (Or.inr rfl) (trivial)))))))))))) fun q16 => (dss_unp (pgd_tup3 C 1 2 3) (de_part (de_sl (de_var 0) (do_some de_int) do_none) (de_str [58, 47, 47])) fun c19 => (dss_if (exA := fun (q39 : Unit) => [.im a0, .im c19.1, .im c19.2.1, .im c19.2.2, .un, .un, .un, .un, .un, .un]) (dw_or (dt_cmp (od_eq C.rm.units) (de_var 2) (de_str []) (by rfl)) (dw_or1 (dt_cmp (od_notIn (hu65 C.rm)) (de_var 1) (de_tup (da_cons (de_str [104, 116, 116, 112]) (da_cons (de_str [104, 116, 116, 112, 115]) (da_cons (de_str [97, 110, 121]) da_nil)))) (by rfl)))).pt (dss_ret de_non) (dss_nil (a := ()) (And.intro (Or.inl rfl) (And.intro (Or.inl rfl) (And.intro (Or.inl rfl) (And.intro (Or.inl rfl) (And.intro (Or.inr rfl) (And.intro (Or.inr rfl) (And.intro (Or.inr rfl) (And.intro (Or.inr rfl) (And.intro (Or.inr rfl) (And.intro (Or.inr rfl) (trivial)))))))))))) fun q39 => (dss_unp (pgd_tup3 C 4 5 6) (de_part (de_var 3) (de_str [47])) fun c42 => (dss_unp (pgd_tup3 C 7 8 9) (de_part (de_var 4) (de_str [58])) fun c46 => (dss_if (exA := fun (q58 : Unit) => [.im a0, .im c19.1, .im c19.2.1, .im c19.2.2, .im c42.1, .im c42.2.1, .im c42.2.2, .im c46.1, .im c46.2.1, .im c46.2.2]) (dw_or (dt_cmp (od_eq C.rm.units) (de_var 5) (de_str []) (by rfl)) (dw_or1 (dw_and (dt_cmp (od_eq C.rm.units) (de_var 8) (de_str [58]) (by rfl)) (dw_and1 (dt_cmp od_is (de_fn C (g_ports_of T) T.m_ports_of T.F_ports_of.kp T.b_ports_of (da_cons (de_var 9) da_nil) n_ports_of_0eba) de_non (by rfl)))).pt)).pt (dss_ret de_non) (dss_nil (a := ()) (And.intro (Or.inl rfl) (And.intro (Or.inl rfl) (And.intro (Or.inl rfl) (And.intro (Or.inl rfl) (And.intro (Or.inl rfl) (And.intro (Or.inl rfl) (And.intro (Or.inl rfl) (And.intro (Or.inl rfl) (And.intro (Or.inl rfl) (And.intro (Or.inl rfl) (trivial)))))))))))) fun q58 => (dss_ret (de_tup (da_cons (de_ix (de_var 0) de_int) (da_cons (de_var 1) (da_cons (de_var 7) (da_cons (de_var 9) (da_cons (de_op od_add (de_str [47]) (de_var 6)) da_nil))))))))))))), rfl⟩
theorem g__law_labels (T : Txt P K mg A) : FnG P w K mg base 3 A.a__law_labels A.f__law_labels ["_law_bag_here", "_law_many"] (spM K mg false (1 + 1) m__law_labels_5296) := by
  refine fnM (nr := false) (k := 2) T.F__law_labels sc__law_labels rfl (by decide) (fun cdv Ar outer s H Hf bag E ds C hl => ?_)
  match ds, hl with
  | [a1], _ => exact ⟨b__law_labels_5296 a1, (dss_asg C 2 (de_str [48, 49, 50, 51, 52, 53, 54, 55, 56, 57, 97, 98, 99, 100, 101, 102, 103, 104, 105, 106, 107, 108, 109, 110, 111, 112, 113, 114, 115, 116, 117, 118, 119, 120, 121, 122]) fun v1 => (dss_par3FFS (tz := []) C 5 6 7 (df_callTy (oc_list C.calm) (by rfl) T.z_list rfl (da_cons (de_var 2) da_nil)) (df_list da_nil) rfl (by decide) fun v2 v3 => (dss_for (exl := fun (q28 : D) => [.bg, .im a1, .im v1, .un, .un, .ow v2, .ow v3, .im q28, .un]) (.str []) C (di_range1 (by rfl) T.z_range (da_cons (de_fnM C 0 (g__law_of T) T.m__law_of T.F__law_of.kp T.b__law_of (da_cons (de_frz (df_list (da_cons de_int (da_cons de_int (da_cons de_int (da_cons de_int (da_cons de_int (da_cons de_int da_nil)))))))) da_nil) n__law_of_68b0) da_nil)) (pgd_name C 3) (And.intro (Or.inl rfl) (And.intro (Or.inl rfl) (And.intro (Or.inl rfl) (And.intro (Or.inr rfl) (And.intro (Or.inr rfl) (And.intro (Or.inl rfl) (And.intro (Or.inl rfl) (And.intro (Or.inl rfl) (And.intro (Or.inr rfl) (trivial)))))))))) (fun q28 c29 => (dss_asg C 7 (de_op od_add (de_var 7) (de_fnM C 0 (g__law_of T) T.m__law_of T.F__law_of.kp T.b__law_of (da_cons (de_var 2) da_nil) n__law_of_68b0)) fun v30 => (dss_nil (a := v30) (And.intro (Or.inl rfl) (And.intro (Or.inl rfl) (And.intro (Or.inl rfl) (And.intro (Or.inr rfl) (And.intro (Or.inr rfl) (And.intro (Or.inl rfl) (And.intro (Or.inl rfl) (And.intro (Or.inl rfl) (And.intro (Or.inr rfl) (trivial))))))))))))) fun q36 => (dss_asg C 4 (de_fnM C 0 (g__law_take T) T.m__law_take T.F__law_take.kp T.b__law_take (da_cons (de_op od_add (de_callB oc_len (by rfl) T.z_len rfl (da_cons (de_var 7) da_nil)) de_int) da_nil) n__law_take_4983) fun v37 => (dss_for (exl := fun (q49 : List D × List D) => [.bg, .im a1, .im v1, .un, .im v37, .ow q49.1, .ow q49.2, .im q36, .un]) (v2, v3) C (di_range1 (by rfl) T.z_range (da_cons (de_var 1) da_nil)) (pgd_name C 3) (And.intro (Or.inl rfl) (And.intro (Or.inl rfl) (And.intro (Or.inl rfl) (And.intro (Or.inr rfl) (And.intro (Or.inl rfl) (And.intro (Or.inl rfl) (And.intro (Or.inl rfl) (And.intro (Or.inl rfl) (And.intro (Or.inr rfl) (trivial)))))))))) (fun q49 c50 => (dss_asgP C 5 8 (dp_pop 5 (de_fnM C 0 (g__law_take T) T.m__law_take T.F__law_take.kp T.b__law_take (da_cons (de_thaw 5 (de_callB oc_len (by rfl) T.z_len rfl (da_cons (de_var 5) da_nil))) da_nil) n__law_take_4983)) fun r60 => (dss_append 6 (de_op od_add (de_op od_add (de_sl (de_var 7) do_none (do_some (de_var 4))) (de_var 8)) (de_sl (de_var 7) (do_some (de_var 4)) do_none)) fun v62 => (dss_nil (a := (r60.2, v62)) (And.intro (Or.inl rfl) (And.intro (Or.inl rfl) (And.intro (Or.inl rfl) (And.intro (Or.inr rfl) (And.intro (Or.inl rfl) (And.intro (Or.inl rfl) (And.intro (Or.inl rfl) (And.intro (Or.inl rfl) (And.intro (Or.inr rfl) (trivial)))))))))))))) fun q77 => (dss_frz 6 rfl (dss_ret (de_var 6)))))))), rfl⟩
theorem g__law_item (T : Txt P K mg A) : FnG P w K mg base 3 A.a__law_item A.f__law_item ["_law_bag_here", "_law_pool"] (spM K mg false (1 + 1) m__law_item_9905) := by
  refine fnM (nr := false) (k := 2) T.F__law_item sc__law_item rfl (by decide) (fun cdv Ar outer s H Hf bag E ds C hl => ?_)
  match ds, hl with
  | [a1], _ => exact ⟨b__law_item_9905 a1, (dss_parEE C 3 4 (de_sl (de_fnM C 0 (g__law_of T) T.m__law_of T.F__law_of.kp T.b__law_of (da_cons (de_var 1) da_nil) n__law_of_68b0) do_none (do_some de_int)) (de_fnM C 0 (g__law_take T) T.m__law_take T.F__law_take.kp T.b__law_take (da_cons de_int da_nil) n__law_take_4983) fun v1 v2 => (dss_asg C 2 (de_fnM C 0 (g__law_take T) T.m__law_take T.F__law_take.kp T.b__law_take (da_cons (de_op od_add (de_callB oc_len (by rfl) T.z_len rfl (da_cons (de_var 3) da_nil)) de_int) da_nil) n__law_take_4983) fun v14 => (dss_if (exA := fun (q25 : Unit) => [.bg, .im a1, .im v14, .im v1, .im v2]) (dt_cmp (od_lt C.rm.units) (de_var 4) de_int (by rfl)) (dss_ret (de_var 3)) (dss_nil (a := ()) (And.intro (Or.inl rfl) (And.intro (Or.inl rfl) (And.intro (Or.inl rfl) (And.intro (Or.inl rfl) (And.intro (Or.inl rfl) (trivial))))))) fun q25 => (dss_if (exA := fun (q29 : Unit) => [.bg, .im a1, .im v14, .im v1, .im v2]) (dt_cmp (od_eq C.rm.units) (de_var 4) de_int (by rfl)) (dss_ret (de_str [42])) (dss_nil (a := ()) (And.intro (Or.inl rfl) (And.intro (Or.inl rfl) (And.intro (Or.inl rfl) (And.intro (Or.inl rfl) (And.intro (Or.inl rfl) (trivial))))))) fun q29 => (dss_if (exA := fun (q33 : Unit) => [.bg, .im a1, .im v14, .im v1, .im v2]) (dt_cmp (od_eq C.rm.units) (de_var 4) de_int (by rfl)) (dss_ret (de_op od_add (de_sl (de_var 3) do_none (do_some (de_callB (oc_min C.calm) (by rfl) T.z_min rfl (da_cons (de_var 2) (da_cons de_int da_nil))))) (de_str [42]))) (dss_nil (a := ()) (And.intro (Or.inl rfl) (And.intro (Or.inl rfl) (And.intro (Or.inl rfl) (And.intro (Or.inl rfl) (And.intro (Or.inl rfl) (trivial))))))) fun q33 => (dss_if (exA := fun (q49 : Unit) => [.bg, .im a1, .im v14, .im v1, .im v2]) (dt_cmp (od_eq C.rm.units) (de_var 4) de_int (by rfl)) (dss_ret (de_op od_add (de_str [42]) (de_sl (de_var 3) (do_some (de_callB (oc_max C.calm) (by rfl) T.z_max rfl (da_cons (de_var 2) (da_cons (de_op od_sub (de_callB oc_len (by rfl) T.z_len rfl (da_cons (de_var 3) da_nil)) de_int) da_nil)))) do_none))) (dss_nil (a := ()) (And.intro (Or.inl rfl) (And.intro (Or.inl rfl) (And.intro (Or.inl rfl) (And.intro (Or.inl rfl) (And.intro (Or.inl rfl) (trivial))))))) fun q49 => (dss_ret (de_op od_add (de_op od_add (de_sl (de_var 3) do_none (do_some de_int)) (de_str [42])) (de_sl (de_var 3) (do_some (de_op od_sub (de_callB oc_len (by rfl) T.z_len rfl (da_cons (de_var 3) da_nil)) de_int)) do_none))))))))), rfl⟩
theorem g__law_ports (T : Txt P K mg A) : FnG P w K mg base 3 A.a__law_ports A.f__law_ports ["_law_bag_here"] (spM K mg false (0 + 1) m__law_ports_a185) := by
  refine fnM (nr := false) (k := 2) T.F__law_ports sc__law_ports rfl (by decide) (fun cdv Ar outer s H Hf bag E ds C hl => ?_)
  match ds, hl with
  | [], _ => exact ⟨b__law_ports_a185, (dss_parEE C 2 3 (de_fnM C 0 (g__law_take T) T.m__law_take T.F__law_take.kp T.b__law_take (da_cons de_int da_nil) n__law_take_4983) (de_fnM C 0 (g__law_of T) T.m__law_of T.F__law_of.kp T.b__law_of (da_cons (de_frz (df_list (da_cons de_int (da_cons de_int (da_cons de_int (da_cons de_int (da_cons de_int (da_cons de_int (da_cons de_int (da_cons (de_op od_add de_int (de_fnM C 0 (g__law_take T) T.m__law_take T.F__law_take.kp T.b__law_take (da_cons de_int da_nil) n__law_take_4983)) da_nil)))))))))) da_nil) n__law_of_68b0) fun v1 v2 => (dss_if (exA := fun (q33 : Unit) => [.bg, .un, .im v1, .im v2]) (dt_cmp (od_lt C.rm.units) (de_var 2) de_int (by rfl)) (dss_ret (de_tup (da_cons (de_str []) (da_cons de_non da_nil)))) (dss_nil (a := ()) (And.intro (Or.inl rfl) (And.intro (Or.inr rfl) (And.intro (Or.inl rfl) (And.intro (Or.inl rfl) (trivial)))))) fun q33 => (dss_if (exA := fun (q43 : Unit) => [.bg, .un, .im v1, .im v2]) (dt_cmp (od_eq C.rm.units) (de_var 2) de_int (by rfl)) (dss_ret (de_tup (da_cons (de_str [58, 42]) (da_cons (de_tup (da_cons de_int (da_cons de_int da_nil))) da_nil)))) (dss_nil (a := ()) (And.intro (Or.inl rfl) (And.intro (Or.inr rfl) (And.intro (Or.inl rfl) (And.intro (Or.inl rfl) (trivial)))))) fun q43 => (dss_if (exA := fun (q59 : D) => [.bg, .un, .im v1, .im q59]) (dt_cmp (od_eq C.rm.units) (de_var 2) de_int (by rfl)) (dss_asg C 3 (de_op od_add (de_var 3) (de_fnM C 0 (g__law_take T) T.m__law_take T.F__law_take.kp T.b__law_take (da_cons de_int da_nil) n__law_take_4983)) fun v60 => (dss_ret (de_tup (da_cons (de_op od_add (de_str [58]) (de_callTy oc_str (by rfl) T.z_str rfl (da_cons (de_var 3) da_nil))) (da_cons (de_tup (da_cons (de_var 3) (da_cons (de_var 3) da_nil))) da_nil))))) (dss_nil (a := v2) (And.intro (Or.inl rfl) (And.intro (Or.inr rfl) (And.intro (Or.inl rfl) (And.intro (Or.inl rfl) (trivial)))))) fun q59 => (dss_asg C 1 (de_op od_add (de_op od_add (de_var 3) de_int) (de_ifExp (dt_cmp (od_eq C.rm.units) (de_var 2) de_int (by rfl)) (de_fnM C 0 (g__law_take T) T.m__law_take T.F__law_take.kp T.b__law_take (da_cons (de_op od_sub de_int (de_var 3)) da_nil) n__law_take_4983) de_int)) fun v84 => (dss_ret (de_tup (da_cons (de_op od_add (de_op od_add (de_op od_add (de_str [58]) (de_callTy oc_str (by rfl) T.z_str rfl (da_cons (de_var 3) da_nil))) (de_str [45])) (de_callTy oc_str (by rfl) T.z_str rfl (da_cons (de_var 1) da_nil))) (da_cons (de_tup (da_cons (de_var 3) (da_cons (de_var 1) da_nil))) da_nil))))))))), rfl⟩
theorem g_Rule_closeness (T : Txt P K mg A) : FnG P w K mg base 3 A.a_Rule_closeness A.f_Rule_closeness ["self"] (spR K mg false 1 m_Rule_closeness_3470) := by
  refine fnR (nr := false) (k := 2) T.F_Rule_closeness sc_Rule_closeness rfl (by decide) (fun cdv Ar outer s H Hf E ds C hl => ?_)
  match ds, hl with
  | [a0], _ => exact ⟨b_Rule_closeness_3470 a0, (dss_asg C 1 (de_ifExp (dt_cmp od_is (de_fld ["Page", "Rule"] (de_var 0) (fo_host T)) de_non (by rfl)) de_int (de_attr (L := [("HostPattern", m_HostPattern_fixed_fb96), ("PathPattern", m_PathPattern_fixed_fb96)]) [] C (de_fld ["Page", "Rule"] (de_var 0) (fo_host T)) (fun c hc => by cases hc) (pr_fixed T))) fun v1 => (dss_asg C 2 (de_or (de_cmp od_is (de_fld ["Rule"] (de_var 0) (fo_ports T)) de_non (by rfl)) (de_one (de_cmp (od_eq C.rm.units) (de_ix (de_fld ["Rule"] (de_var 0) (fo_ports T)) de_int) (de_ix (de_fld ["Rule"] (de_var 0) (fo_ports T)) de_int) (by rfl)))) fun v7 => (dss_ret (de_tup (da_cons (de_var 1) (da_cons (de_attr (L := [("HostPattern", m_HostPattern_fixed_fb96), ("PathPattern", m_PathPattern_fixed_fb96)]) [] C (de_fld ["Page", "Rule"] (de_var 0) (fo_path T)) (fun c hc => by cases hc) (pr_fixed T)) (da_cons (de_ifExp (dt_tru (de_var 2)) de_int de_int) da_nil))))))), rfl⟩
theorem pr_closeness (T : Txt P K mg A) : ∀ q ∈ ([("Rule", m_Rule_closeness_3470)] : List (Str × (List D → R D))), PropG P w K mg base 3 "closeness" q.1 q.2 := fun q hq => by
  simp only [List.mem_cons, List.not_mem_nil, or_false] at hq
  rcases hq with rfl
  · obtain ⟨p, hp⟩ := T.pr_Rule_closeness
    exact ⟨_, p, _, T.C_Rule.mg, T.C_Rule.cl, hp, ((g_Rule_closeness T).pos T.b_Rule_closeness).mono (by decide)⟩
theorem g_near_of (T : Txt P K mg A) : FnG P w K mg base 4 A.a_near_of A.f_near_of ["text"] (spR K mg false 1 m_near_of_fb19) := by
  refine fnR (nr := false) (k := 3) T.F_near_of sc_near_of rfl (by decide) (fun cdv Ar outer s H Hf E ds C hl => ?_)
  match ds, hl with
  | [a0], _ => exact ⟨b_near_of_fb19 a0, (dss_asg C 1 (de_callTy oc_tuple (by rfl) T.z_tuple rfl (da_cons (de_frz (df_split (de_var 0) (de_str [46]))) da_nil)) fun v1 => (dss_ret (de_ifExp (dw_and (dt_tru (de_fn C (g_is_host T) T.m_is_host T.F_is_host.kp T.b_is_host (da_cons (de_var 1) da_nil) n_is_host_45ba)) (dw_and1 (dt_cmp (od_le C.rm.units) (de_callB oc_len (by rfl) T.z_len rfl (da_cons (de_var 1) da_nil)) (de_globI (by rfl) T.c_MOST_NEAR) (by rfl)))).pt (de_var 1) de_non))), rfl⟩
theorem g__law_some (T : Txt P K mg A) : FnG P w K mg base 4 A.a__law_some A.f__law_some ["_law_bag_here", "_law_pool", "_law_most"] (spM K mg false (2 + 1) m__law_some_353f) := by
  refine fnM (nr := false) (k := 3) T.F__law_some sc__law_some rfl (by decide) (fun cdv Ar outer s H Hf bag E ds C hl => ?_)
  match ds, hl with
  | [a1, a2], _ => exact ⟨b__law_some_353f a1 a2, (dss_ret (de_frz (df_lc [("_law_turn", 3)] C (di_range1 (by rfl) T.z_range (da_cons (de_fnM C 0 (g__law_take T) T.m__law_take T.F__law_take.kp T.b__law_take (da_cons (de_op od_add (de_var 2) de_int) da_nil) n__law_take_4983) da_nil)) (blkOk_by (N := N__law_some) (sc := defScope s__law_some) (by decide +kernel)) (fun s H A cl fp => (pgd_name (C.blk _ _ _ _ _) 3)) (fun s H A cl fp C9 c10 => pts_true) (fun s H A cl fp C9 c10 => (de_fnM C9 0 (g__law_item T) T.m__law_item T.F__law_item.kp T.b__law_item (da_cons (de_var 1) da_nil) n__law_item_9905)) (by decide)))), rfl⟩
theorem g_HostPattern_init (T : Txt P K mg A) : FnG P w K mg base 4 A.a_HostPattern_init A.f_HostPattern_init ["self", "text"] (spIS K mg A.C_HostPattern ["text", "level", "head", "tail", "gap"] (fun l => l = 1 + 1) m_HostPattern_init_23dd) := by
  refine fnSup (k := 3) (j := 1) (n := 1) T.F_HostPattern_init sc_HostPattern_init rfl rfl rfl rfl rfl (by rfl) (by rfl) (by rfl) ((g_Pattern_init T).pos T.b_Pattern_init) (by decide) (fun ds h => congrArg (· + 1) (n_Pattern_init_4a0d ds h)) (fun F Ar outer s H Hf E o ds hs hq C hl => ?_)
  obtain ⟨xF, qF, aF, bF, sF, cF, dF⟩ := F
  dsimp only at hs hq
  subst hs hq
  match ds, hl with
  | [a1], _ => exact ⟨(do let x8 ← (pure a1); let r9 ← (do let x6 ← (pure c_HOST); let r7 ← (do let x4 ← (do let r3 ← (do let x1 ← (pure a1); let r2 ← pure []; pure (x1 :: r2)); Mo.lift (m_host_shape_b82b r3)); let r5 ← pure []; pure (x4 :: r5)); pure (x6 :: r7)); pure (x8 :: r9)), (da_cons (de_var 1) (da_cons (de_globI (by rfl) T.c_HOST) (da_cons (de_fn C (g_host_shape T) T.m_host_shape T.F_host_shape.kp T.b_host_shape (da_cons (de_var 1) da_nil) n_host_shape_b82b) da_nil))), rfl⟩
theorem g_PathPattern_init (T : Txt P K mg A) : FnG P w K mg base 4 A.a_PathPattern_init A.f_PathPattern_init ["self", "text"] (spIS K mg A.C_PathPattern ["text", "level", "head", "tail", "gap"] (fun l => l = 1 + 1) m_PathPattern_init_28de) := by
  refine fnSup (k := 3) (j := 1) (n := 1) T.F_PathPattern_init sc_PathPattern_init rfl rfl rfl rfl rfl (by rfl) (by rfl) (by rfl) ((g_Pattern_init T).pos T.b_Pattern_init) (by decide) (fun ds h => congrArg (· + 1) (n_Pattern_init_4a0d ds h)) (fun F Ar outer s H Hf E o ds hs hq C hl => ?_)
  obtain ⟨xF, qF, aF, bF, sF, cF, dF⟩ := F
  dsimp only at hs hq
  subst hs hq
  match ds, hl with
  | [a1], _ => exact ⟨(do let x8 ← (pure a1); let r9 ← (do let x6 ← (pure c_PATH); let r7 ← (do let x4 ← (do let r3 ← (do let x1 ← (pure a1); let r2 ← pure []; pure (x1 :: r2)); Mo.lift (m_path_shape_25b3 r3)); let r5 ← pure []; pure (x4 :: r5)); pure (x6 :: r7)); pure (x8 :: r9)), (da_cons (de_var 1) (da_cons (de_globI (by rfl) T.c_PATH) (da_cons (de_fn C (g_path_shape T) T.m_path_shape T.F_path_shape.kp T.b_path_shape (da_cons (de_var 1) da_nil) n_path_shape_25b3) da_nil))), rfl⟩
theorem g__law_host_part (T : Txt P K mg A) : FnG P w K mg base 5 A.a__law_host_part A.f__law_host_part ["_law_bag_here", "_law_pool"] (spM K mg false (1 + 1) m__law_host_part_4860) := by
  refine fnM (nr := false) (k := 4) T.F__law_host_part sc__law_host_part rfl (by decide) (fun cdv Ar outer s H Hf bag E ds C hl => ?_)
  match ds, hl with
  | [a1], _ => exact ⟨b__law_host_part_4860 a1, (dss_asg C 2 (de_fnM C 0 (g__law_take T) T.m__law_take T.F__law_take.kp T.b__law_take (da_cons de_int da_nil) n__law_take_4983) fun v1 => (dss_if (exA := fun (q7 : Unit) => [.bg, .im a1, .im v1, .un, .un]) (dt_cmp (od_eq C.rm.units) (de_var 2) de_int (by rfl)) (dss_ret (de_tup (da_cons (de_str [126]) (da_cons (de_callTy oc_tuple (by rfl) T.z_tuple rfl (da_cons (de_frz (df_lc [("_law_turn", 4)] C (di_range1 (by rfl) T.z_range (da_cons (de_op od_add de_int (de_fnM C 0 (g__law_take T) T.m__law_take T.F__law_take.kp T.b__law_take (da_cons de_int da_nil) n__law_take_4983)) da_nil)) (blkOk_by (N := N__law_host_part) (sc := defScope s__law_host_part) (by decide +kernel)) (fun s H A cl fp => (pgd_name (C.blk _ _ _ _ _) 4)) (fun s H A cl fp C16 c17 => pts_true) (fun s H A cl fp C16 c17 => (de_fnM C16 0 (g__law_of T) T.m__law_of T.F__law_of.kp T.b__law_of (da_cons (de_var 1) da_nil) n__law_of_68b0)) (by decide))) da_nil)) da_nil)))) (dss_nil (a := ()) (And.intro (Or.inl rfl) (And.intro (Or.inl rfl) (And.intro (Or.inl rfl) (And.intro (Or.inr rfl) (And.intro (Or.inr rfl) (trivial))))))) fun q7 => (dss_if (exA := fun (q34 : Unit) => [.bg, .im a1, .im v1, .un, .un]) (dt_cmp (od_lt C.rm.units) (de_var 2) de_int (by rfl)) (dss_ret (de_tup (da_cons (de_str []) (da_cons (de_op od_add (de_frz (df_list (da_cons (de_fnM C 0 (g__law_item T) T.m__law_item T.F__law_item.kp T.b__law_item (da_cons (de_var 1) da_nil) n__law_item_9905) da_nil))) (de_fnM C 0 (g__law_some T) T.m__law_some T.F__law_some.kp T.b__law_some (da_cons (de_var 1) (da_cons de_int da_nil)) n__law_some_353f)) da_nil)))) (dss_nil (a := ()) (And.intro (Or.inl rfl) (And.intro (Or.inl rfl) (And.intro (Or.inl rfl) (And.intro (Or.inr rfl) (And.intro (Or.inr rfl) (trivial))))))) fun q34 => (dss_asg C 3 (de_fnM C 0 (g__law_some T) T.m__law_some T.F__law_some.kp T.b__law_some (da_cons (de_var 1) (da_cons de_int da_nil)) n__law_some_353f) fun v55 => (dss_ret (de_tup (da_cons (de_str []) (da_cons (de_op od_add (de_op od_add (de_var 3) (de_frz (df_list (da_cons (de_str [42, 42]) da_nil)))) (de_fnM C 0 (g__law_some T) T.m__law_some T.F__law_some.kp T.b__law_some (da_cons (de_var 1) (da_cons de_int da_nil)) n__law_some_353f)) da_nil)))))))), rfl⟩
theorem g__law_path_items (T : Txt P K mg A) : FnG P w K mg base 5 A.a__law_path_items A.f__law_path_items ["_law_bag_here", "_law_pool"] (spM K mg false (1 + 1) m__law_path_items_69f5) := by
  refine fnM (nr := false) (k := 4) T.F__law_path_items sc__law_path_items rfl (by decide) (fun cdv Ar outer s H Hf bag E ds C hl => ?_)
  match ds, hl with
  | [a1], _ => exact ⟨b__law_path_items_69f5 a1, (dss_if (exA := fun (q6 : Unit) => [.bg, .im a1, .un]) (dt_cmp (od_eq C.rm.units) (de_fnM C 0 (g__law_take T) T.m__law_take T.F__law_take.kp T.b__law_take (da_cons de_int da_nil) n__law_take_4983) de_int (by rfl)) (dss_ret (de_fnM C 0 (g__law_some T) T.m__law_some T.F__law_some.kp T.b__law_some (da_cons (de_var 1) (da_cons de_int da_nil)) n__law_some_353f)) (dss_nil (a := ()) (And.intro (Or.inl rfl) (And.intro (Or.inl rfl) (And.intro (Or.inr rfl) (trivial))))) fun q6 => (dss_asg C 2 (de_fnM C 0 (g__law_some T) T.m__law_some T.F__law_some.kp T.b__law_some (da_cons (de_var 1) (da_cons de_int da_nil)) n__law_some_353f) fun v13 => (dss_ret (de_op od_add (de_op od_add (de_var 2) (de_frz (df_list (da_cons (de_str [42, 42]) da_nil)))) (de_fnM C 0 (g__law_some T) T.m__law_some T.F__law_some.kp T.b__law_some (da_cons (de_var 1) (da_cons de_int da_nil)) n__law_some_353f))))), rfl⟩
theorem g__law_rule (T : Txt P K mg A) : FnG P w K mg base 6 A.a__law_rule A.f__law_rule ["_law_bag_here", "_law_pool"] (spM K mg false (1 + 1) m__law_rule_88fc) := by
  refine fnM (nr := false) (k := 5) T.F__law_rule sc__law_rule rfl (by decide) (fun cdv Ar outer s H Hf bag E ds C hl => ?_)
  match ds, hl with
  | [a1], _ => exact ⟨b__law_rule_88fc a1, (dss_parEE C 3 4 (de_fnM C 0 (g__law_of T) T.m__law_of T.F__law_of.kp T.b__law_of (da_cons (de_frz (df_list (da_cons (de_str [43]) (da_cons (de_str [43]) (da_cons (de_str [45]) da_nil))))) da_nil) n__law_of_68b0) (de_fnM C 0 (g__law_of T) T.m__law_of T.F__law_of.kp T.b__law_of (da_cons (de_frz (df_list (da_cons (de_str [97, 110, 121]) (da_cons (de_str [104, 116, 116, 112]) (da_cons (de_str [104, 116, 116, 112, 115]) da_nil))))) da_nil) n__law_of_68b0) fun v1 v2 => (dss_parEE C 5 6 (de_fnM C 0 (g__law_host_part T) T.m__law_host_part T.F__law_host_part.kp T.b__law_host_part (da_cons (de_var 1) da_nil) n__law_host_part_4860) (de_fnM C 0 (g__law_path_items T) T.m__law_path_items T.F__law_path_items.kp T.b__law_path_items (da_cons (de_var 1) da_nil) n__law_path_items_69f5) fun v23 v24 => (dss_unp (pgd_tup2 C 2 7) (de_fnM C 0 (g__law_ports T) T.m__law_ports T.F__law_ports.kp T.b__law_ports da_nil n__law_ports_a185) fun c32 => (dss_asg C 2 (de_op od_add (de_op od_add (de_op od_add (de_op od_add (de_op od_add (de_op od_add (de_op od_add (de_op od_add (de_var 3) (de_str [32])) (de_var 4)) (de_str [58, 47, 47])) (de_ix (de_var 5) de_int)) (de_join (de_str [46]) (de_frz (df_callTy (oc_list C.calm) (by rfl) T.z_list rfl (da_cons (de_ix (de_var 5) de_int) da_nil))))) (de_var 2)) (de_str [47])) (de_join (de_str [47]) (de_var 6))) fun v34 => (dss_ret (de_tup (da_cons (de_tup (da_cons (de_var 3) (da_cons (de_var 4) (da_cons (de_var 5) (da_cons (de_var 7) (da_cons (de_var 6) da_nil)))))) (da_cons (de_var 2) da_nil)))))))), rfl⟩
theorem g__law_is (T : Txt P K mg A) : FnG P w K mg base 6 A.a__law_is A.f__law_is ["_law_rule_here", "_law_plain", "_law_phrase"] (spR K mg false 3 m__law_is_9abc) := by
  refine fnR (nr := false) (k := 5) T.F__law_is sc__law_is rfl (by decide) (fun cdv Ar outer s H Hf E ds C hl => ?_)
  match ds, hl with
  | [a0, a1, a2], _ => exact ⟨b__law_is_9abc a0 a1 a2, (dss_unp (pgd_tupN C 5 (.cons 8 (.cons 9 (.cons 10 (.cons 11 (.cons 12 .nil)))))) (de_var 1) fun c2 => (dss_asg C 3 (de_op od_add (de_str [47]) (de_join (de_str [47]) (de_var 12))) fun v3 => (dss_asg C 4 (de_callTy oc_int (by rfl) T.z_int rfl (da_cons (de_or (de_cmp od_is (de_var 11) de_non (by rfl)) (de_one (de_cmp (od_eq C.rm.units) (de_ix (de_var 11) de_int) (de_ix (de_var 11) de_int) (by rfl)))) da_nil)) fun v8 => (dss_asg C 5 (de_ifExp (dt_cmp (od_eq C.rm.units) (de_ix (de_var 10) de_int) (de_str [126]) (by rfl)) de_int (de_fn C (g__law_fixed T) T.m__law_fixed T.F__law_fixed.kp T.b__law_fixed (da_cons (de_ix (de_var 10) de_int) da_nil) n__law_fixed_a772)) fun v20 => (dss_asg C 6 (de_frz (df_list (da_cons (de_fld ["Page", "HostPattern", "PathPattern", "Rule"] (de_var 0) (fo_text T)) (da_cons (de_fld ["Rule"] (de_var 0) (fo_sign T)) (da_cons (de_fld ["Page", "Rule"] (de_var 0) (fo_scheme T)) (da_cons (de_fld ["Rule"] (de_var 0) (fo_near T)) (da_cons (de_fld ["Rule"] (de_var 0) (fo_ports T)) (da_cons (de_attr (L := [("Rule", m_Rule_closeness_3470)]) [] C (de_var 0) (fun c hc => by cases hc) (pr_closeness T)) (da_cons (de_attr (L := [("Rule", m_Rule_is_offer_6fe5)]) [] C (de_var 0) (fun c hc => by cases hc) (pr_is_offer T)) (da_cons (de_fld ["Page", "HostPattern", "PathPattern", "Rule"] (de_fld ["Page", "Rule"] (de_var 0) (fo_path T)) (fo_text T)) da_nil)))))))))) fun v30 => (dss_asg C 7 (de_ifExp (dt_cmp (od_eq C.rm.units) (de_ix (de_var 10) de_int) (de_str [126]) (by rfl)) (de_ix (de_var 10) de_int) de_non) fun v57 => (dss_if (exA := fun (q102 : Unit) => [.im a0, .im a1, .im a2, .im v3, .im v8, .im v20, .im v30, .im v57, .im (c2.getD 0 .non), .im (c2.getD 1 .non), .im (c2.getD 2 .non), .im (c2.getD 3 .non), .im (c2.getD 4 .non)]) (dt_cmp (od_ne C.rm.units) (de_callB (oc_repr C.gd C.rm.units) (by rfl) T.z_repr rfl (da_cons (de_var 6) da_nil)) (de_callB (oc_repr C.gd C.rm.units) (by rfl) T.z_repr rfl (da_cons (de_frz (df_list (da_cons (de_var 2) (da_cons (de_var 8) (da_cons (de_var 9) (da_cons (de_var 7) (da_cons (de_var 11) (da_cons (de_tup (da_cons (de_var 5) (da_cons (de_fn C (g__law_fixed T) T.m__law_fixed T.F__law_fixed.kp T.b__law_fixed (da_cons (de_var 12) da_nil) n__law_fixed_a772) (da_cons (de_var 4) da_nil)))) (da_cons (de_cmp (od_eq C.rm.units) (de_var 8) (de_str [43]) (by rfl)) (da_cons (de_var 3) da_nil)))))))))) da_nil)) (by rfl)) (dss_ret de_bl) (dss_nil (a := ()) (And.intro (Or.inl rfl) (And.intro (Or.inl rfl) (And.intro (Or.inl rfl) (And.intro (Or.inl rfl) (And.intro (Or.inl rfl) (And.intro (Or.inl rfl) (And.intro (Or.inl rfl) (And.intro (Or.inl rfl) (And.intro (Or.inl rfl) (And.intro (Or.inl rfl) (And.intro (Or.inl rfl) (And.intro (Or.inl rfl) (And.intro (Or.inl rfl) (trivial))))))))))))))) fun q102 => (dss_if (exA := fun (q115 : Unit) => [.im a0, .im a1, .im a2, .im v3, .im v8, .im v20, .im v30, .im v57, .im (c2.getD 0 .non), .im (c2.getD 1 .non), .im (c2.getD 2 .non), .im (c2.getD 3 .non), .im (c2.getD 4 .non)]) (dw_or (dt_not (dt_cmp (od_eqO (L := [("Page", m_Page_eq_ca54), ("HostPattern", m_HostPattern_eq_ad46), ("PathPattern", m_PathPattern_eq_f7cd), ("Rule", m_Rule_eq_ea23)]) (eq_all T) C.gd (C.rm.mono (by decide)) (od_eq C.rm.units)) (de_fld ["Page", "Rule"] (de_var 0) (fo_path T)) (de_makeS C T.C_PathPattern T.na_PathPattern T.M_PathPattern ((g_PathPattern_init T).pos T.b_PathPattern_init) (da_cons (de_var 3) da_nil) (fun ds h => congrArg (· + 1) (n_PathPattern_init_28de ds h))) (by rfl))) (dw_or1 (dt_cmp (od_ne C.rm.units) (de_fld ["HostPattern", "PathPattern"] (de_fld ["Page", "Rule"] (de_var 0) (fo_path T)) (fo_level T)) (de_str [112, 97, 116, 104]) (by rfl)))).pt (dss_ret de_bl) (dss_nil (a := ()) (And.intro (Or.inl rfl) (And.intro (Or.inl rfl) (And.intro (Or.inl rfl) (And.intro (Or.inl rfl) (And.intro (Or.inl rfl) (And.intro (Or.inl rfl) (And.intro (Or.inl rfl) (And.intro (Or.inl rfl) (And.intro (Or.inl rfl) (And.intro (Or.inl rfl) (And.intro (Or.inl rfl) (And.intro (Or.inl rfl) (And.intro (Or.inl rfl) (trivial))))))))))))))) fun q115 => (dss_if (exA := fun (q121 : Unit) => [.im a0, .im a1, .im a2, .im v3, .im v8, .im v20, .im v30, .im v57, .im (c2.getD 0 .non), .im (c2.getD 1 .non), .im (c2.getD 2 .non), .im (c2.getD 3 .non), .im (c2.getD 4 .non)]) (dt_cmp (od_eq C.rm.units) (de_ix (de_var 10) de_int) (de_str [126]) (by rfl)) (dss_ret (de_cmp od_is (de_fld ["Page", "Rule"] (de_var 0) (fo_host T)) de_non (by rfl))) (dss_nil (a := ()) (And.intro (Or.inl rfl) (And.intro (Or.inl rfl) (And.intro (Or.inl rfl) (And.intro (Or.inl rfl) (And.intro (Or.inl rfl) (And.intro (Or.inl rfl) (And.intro (Or.inl rfl) (And.intro (Or.inl rfl) (And.intro (Or.inl rfl) (And.intro (Or.inl rfl) (And.intro (Or.inl rfl) (And.intro (Or.inl rfl) (And.intro (Or.inl rfl) (trivial))))))))))))))) fun q121 => (dss_ret (de_and (de_cmp (od_eqO (L := [("Page", m_Page_eq_ca54), ("HostPattern", m_HostPattern_eq_ad46), ("PathPattern", m_PathPattern_eq_f7cd), ("Rule", m_Rule_eq_ea23)]) (eq_all T) C.gd (C.rm.mono (by decide)) (od_eq C.rm.units)) (de_fld ["Page", "Rule"] (de_var 0) (fo_host T)) (de_makeS C T.C_HostPattern T.na_HostPattern T.M_HostPattern ((g_HostPattern_init T).pos T.b_HostPattern_init) (da_cons (de_join (de_str [46]) (de_ix (de_var 10) de_int)) da_nil) (fun ds h => congrArg (· + 1) (n_HostPattern_init_23dd ds h))) (by rfl)) (de_one (de_cmp (od_eq C.rm.units) (de_fld ["Page", "HostPattern", "PathPattern", "Rule"] (de_fld ["Page", "Rule"] (de_var 0) (fo_host T)) (fo_text T)) (de_join (de_str [46]) (de_ix (de_var 10) de_int)) (by rfl)))))))))))))), rfl⟩
theorem g_Rule_init (T : Txt P K mg A) : FnG P w K mg base 6 A.a_Rule_init A.f_Rule_init ["self", "text"] (spI K mg ["text", "sign", "scheme", "written_ports", "ports", "near", "host", "path"] (fun l => l = 1 + 1) m_Rule_init_6a3b) := by
  refine fnI (k := 5) (n := 1) T.F_Rule_init sc_Rule_init rfl (by decide) (fun cdv Ar outer s H Hf E o ds C hl => ?_)
  match ds, hl with
  | [a1], _ => exact ⟨b_Rule_init_6a3b a1, (dss_asg C 2 (de_fn C (g_rule_parts T) T.m_rule_parts T.F_rule_parts.kp T.b_rule_parts (da_cons (de_var 1) da_nil) n_rule_parts_d2df) fun v1 => (dss_if (exA := fun (q7 : Unit) => [.ob [] [], .im a1, .im v1, .un, .un, .un]) (dt_cmp od_is (de_var 2) de_non (by rfl)) (dss_raise C T.x_BadRule (de_var 1)) (dss_nil (a := ()) (And.intro (Or.inl rfl) (And.intro (Or.inl rfl) (And.intro (Or.inl rfl) (And.intro (Or.inr rfl) (And.intro (Or.inr rfl) (And.intro (Or.inr rfl) (trivial)))))))) fun q7 => (dss_fld (ns := []) (ds := []) (f := "text") 0 (de_var 1) (fun v9 => (dss_unpF (self := "self") (ns := ["text"]) (es0 := [v9]) C 0 5 [.fl "sign", .fl "scheme", .nm 4, .fl "written_ports", .nm 5] (.fl (.fl (.nm 4 (.fl (.nm 5 .nil) (hm := (by decide +kernel : ("written_ports" : Str) ∈ (["text", "sign", "scheme", "written_ports", "ports", "near", "host", "path"] : List Str))))) (hm := (by decide +kernel : ("scheme" : Str) ∈ (["text", "sign", "scheme", "written_ports", "ports", "near", "host", "path"] : List Str)))) (hm := (by decide +kernel : ("sign" : Str) ∈ (["text", "sign", "scheme", "written_ports", "ports", "near", "host", "path"] : List Str)))) (de_var 2) (fun c11 => (dss_fld (ns := ["text", "sign", "scheme", "written_ports"]) (ds := [v9, (c11.getD 0 .non), (c11.getD 1 .non), (c11.getD 3 .non)]) (f := "ports") 0 (de_fn C (g_ports_of T) T.m_ports_of T.F_ports_of.kp T.b_ports_of (da_cons (de_self (ns := ["text", "sign", "scheme", "written_ports"]) (ds := [v9, (c11.getD 0 .non), (c11.getD 1 .non), (c11.getD 3 .non)]) 0 3 (hm := (by decide +kernel : ("written_ports" : Str) ∈ (["text", "sign", "scheme", "written_ports", "ports", "near", "host", "path"] : List Str)))) da_nil) n_ports_of_0eba) (fun v12 => (dss_fld (ns := ["text", "sign", "scheme", "written_ports", "ports"]) (ds := [v9, (c11.getD 0 .non), (c11.getD 1 .non), (c11.getD 3 .non), v12]) (f := "near") 0 (de_ifExp (dt_cmp (od_eq C.rm.units) (de_sl (de_var 4) do_none (do_some de_int)) (de_str [126]) (by rfl)) (de_fn C (g_near_of T) T.m_near_of T.F_near_of.kp T.b_near_of (da_cons (de_sl (de_var 4) (do_some de_int) do_none) da_nil) n_near_of_fb19) de_non) (fun v16 => (dss_fld (ns := ["text", "sign", "scheme", "written_ports", "ports", "near"]) (ds := [v9, (c11.getD 0 .non), (c11.getD 1 .non), (c11.getD 3 .non), v12, v16]) (f := "host") 0 de_non (fun v32 => (dss_tryC (exA := fun (q33 : D × D) => [.ob ["text", "sign", "scheme", "written_ports", "ports", "near", "host", "path"] [v9, (c11.getD 0 .non), (c11.getD 1 .non), (c11.getD 3 .non), v12, v16, q33.2, q33.1], .im a1, .im v1, .un, .im (c11.getD 2 .non), .im (c11.getD 4 .non)]) (G' := [.un, .im a1, .im v1, .un, .im (c11.getD 2 .non), .im (c11.getD 4 .non)]) (L := [("BadHost", "host"), ("BadPage", "page"), ("BadPath", "path"), ("BadPattern", "pattern"), ("BadPort", "port"), ("BadRule", "rule"), ("BadScheme", "scheme")]) C rfl rfl (fun W pn xe B C34 => (dss_fld (ns := ["text", "sign", "scheme", "written_ports", "ports", "near", "host"]) (ds := [v9, (c11.getD 0 .non), (c11.getD 1 .non), (c11.getD 3 .non), v12, v16, v32]) (f := "path") 0 (de_makeS C34 T.C_PathPattern T.na_PathPattern T.M_PathPattern ((g_PathPattern_init T).pos T.b_PathPattern_init) (da_cons (de_var 5) da_nil) (fun ds h => congrArg (· + 1) (n_PathPattern_init_28de ds h))) (fun v35 => (dss_if (exA := fun (q42 : D) => [.ob ["text", "sign", "scheme", "written_ports", "ports", "near", "host", "path"] [v9, (c11.getD 0 .non), (c11.getD 1 .non), (c11.getD 3 .non), v12, v16, q42, v35], .im a1, .im v1, .un, .im (c11.getD 2 .non), .im (c11.getD 4 .non)]) (dt_cmp od_is (de_self (ns := ["text", "sign", "scheme", "written_ports", "ports", "near", "host", "path"]) (ds := [v9, (c11.getD 0 .non), (c11.getD 1 .non), (c11.getD 3 .non), v12, v16, v32, v35]) 0 5 (hm := (by decide +kernel : ("near" : Str) ∈ (["text", "sign", "scheme", "written_ports", "ports", "near", "host", "path"] : List Str)))) de_non (by rfl)) (dss_fldS (ns := ["text", "sign", "scheme", "written_ports", "ports", "near", "host", "path"]) (ds := [v9, (c11.getD 0 .non), (c11.getD 1 .non), (c11.getD 3 .non), v12, v16, v32, v35]) (f := "host") 0 6 (de_makeS C34 T.C_HostPattern T.na_HostPattern T.M_HostPattern ((g_HostPattern_init T).pos T.b_HostPattern_init) (da_cons (de_var 4) da_nil) (fun ds h => congrArg (· + 1) (n_HostPattern_init_23dd ds h))) (fun v43 => (dss_nil (a := v43) (And.intro (Or.inl rfl) (And.intro (Or.inl rfl) (And.intro (Or.inl rfl) (And.intro (Or.inr rfl) (And.intro (Or.inl rfl) (And.intro (Or.inl rfl) (trivial))))))))) (hm := (by decide +kernel : ("host" : Str) ∈ (["text", "sign", "scheme", "written_ports", "ports", "near", "host", "path"] : List Str)))) (dss_nil (a := v32) (And.intro (Or.inl rfl) (And.intro (Or.inl rfl) (And.intro (Or.inl rfl) (And.intro (Or.inr rfl) (And.intro (Or.inl rfl) (And.intro (Or.inl rfl) (trivial)))))))) fun q42 => (dss_nil (a := (v35, q42)) (And.intro (Or.inl rfl) (And.intro (Or.inl rfl) (And.intro (Or.inl rfl) (And.intro (Or.inr rfl) (And.intro (Or.inl rfl) (And.intro (Or.inl rfl) (trivial)))))))))) (hm := (by decide +kernel : ("path" : Str) ∈ (["text", "sign", "scheme", "written_ports", "ports", "near", "host", "path"] : List Str))))) (.named (f0 := "pattern") 3 T.k_BadPattern (by decide) T.x_BadPattern.gC (fun _ => rfl) (fun _ => by first | rfl | contradiction) rfl rfl rfl (by decide) (fun _ _ _ e49 _ hz hf => dss_stuck) .nil) fun q33 => (dss_nil (a := [v9, (c11.getD 0 .non), (c11.getD 1 .non), (c11.getD 3 .non), v12, v16, q33.2, q33.1]) (And.intro (Or.inl rfl) (And.intro (Or.inr rfl) (And.intro (Or.inr rfl) (And.intro (Or.inr rfl) (And.intro (Or.inr rfl) (And.intro (Or.inr rfl) (trivial)))))))))) (hm := (by decide +kernel : ("host" : Str) ∈ (["text", "sign", "scheme", "written_ports", "ports", "near", "host", "path"] : List Str))))) (hm := (by decide +kernel : ("near" : Str) ∈ (["text", "sign", "scheme", "written_ports", "ports", "near", "host", "path"] : List Str))))) (hm := (by decide +kernel : ("ports" : Str) ∈ (["text", "sign", "scheme", "written_ports", "ports", "near", "host", "path"] : List Str))))))) (hm := (by decide +kernel : ("text" : Str) ∈ (["text", "sign", "scheme", "written_ports", "ports", "near", "host", "path"] : List Str)))))), rfl⟩
theorem gk_0 (T : Txt P K mg A) : FnP P w K mg base 6 A.a_Rule_init ["text"] (spI K mg ["text", "sign", "scheme", "written_ports", "ports", "near", "host", "path"] (fun l => l = 0 + 1 + 1) (kwI [0] [] (0 + 1) m_Rule_init_6a3b)) := by
  exact (g_Rule_init T).kwJ (np := 0) T.kb_0 rfl (by decide)
theorem g_law (T : Txt P K mg A) : FnG P w K mg base 8 A.a_law A.f_law ["_law_script"] (spR K mg false 1 m_law_1303) := by
  refine fnR (nr := false) (k := 7) T.F_law sc_law rfl (by decide) (fun cdv Ar outer s H Hf E ds C hl => ?_)
  match ds, hl with
  | [a0], _ => exact ⟨b_law_1303 a0, (dss_for (exl := fun (q17 : Unit) => [.im a0, .un, .un, .un, .un, .un, .un, .un, .un, .un, .un, .un, .un]) () C (di_range1 (by rfl) T.z_range (da_cons (de_callB (oc_max C.calm) (by rfl) T.z_max rfl (da_cons de_int (da_cons (de_callB (oc_min C.calm) (by rfl) T.z_min rfl (da_cons de_int (da_cons (de_callB oc_len (by rfl) T.z_len rfl (da_cons (de_var 0) da_nil)) da_nil))) da_nil))) da_nil)) (pgd_name C 1) (And.intro (Or.inl rfl) (And.intro (Or.inr rfl) (And.intro (Or.inr rfl) (And.intro (Or.inr rfl) (And.intro (Or.inr rfl) (And.intro (Or.inr rfl) (And.intro (Or.inr rfl) (And.intro (Or.inr rfl) (And.intro (Or.inr rfl) (And.intro (Or.inr rfl) (And.intro (Or.inr rfl) (And.intro (Or.inr rfl) (And.intro (Or.inr rfl) (trivial)))))))))))))) (fun q17 c18 => (dss_parFF C 4 5 (df_fn C (g__law_bag T) T.m__law_bag T.F__law_bag.kp T.b__law_bag (da_cons (de_var 0) (da_cons (de_var 1) da_nil)) n__law_bag_b4c5) (df_list da_nil) fun v19 v20 => (dss_toBag C 4 (fun b C28 => (dss_asg C28 2 (de_fnM C28 4 (g__law_labels T) T.m__law_labels T.F__law_labels.kp T.b__law_labels (da_cons de_int da_nil) n__law_labels_5296) fun v29 => (dss_for (exl := fun (q36 : List D) => [.im a0, .im c18, .im v29, .un, .bg, .ow q36, .un, .un, .un, .un, .un, .un, .un]) v20 C28 (di_range1 (by rfl) T.z_range (da_cons de_int da_nil)) (pgd_name C28 3) (And.intro (Or.inl rfl) (And.intro (Or.inl rfl) (And.intro (Or.inl rfl) (And.intro (Or.inr rfl) (And.intro (Or.inl rfl) (And.intro (Or.inl rfl) (And.intro (Or.inr rfl) (And.intro (Or.inr rfl) (And.intro (Or.inr rfl) (And.intro (Or.inr rfl) (And.intro (Or.inr rfl) (And.intro (Or.inr rfl) (And.intro (Or.inr rfl) (trivial)))))))))))))) (fun q36 c37 => (dss_unp (pgd_tup2 C28 7 8) (de_fnM C28 4 (g__law_rule T) T.m__law_rule T.F__law_rule.kp T.b__law_rule (da_cons (de_var 2) da_nil) n__law_rule_88fc) fun c39 => (dss_append 5 (de_tup (da_cons (de_make C28 T.C_Rule T.na_Rule T.M_Rule ((g_Rule_init T).pos T.b_Rule_init) (da_cons (de_var 8) da_nil) (fun ds h => congrArg (· + 1) (n_Rule_init_6a3b ds h))) (da_cons (de_var 7) (da_cons (de_var 8) da_nil)))) fun v44 => (dss_nil (a := v44) (And.intro (Or.inl rfl) (And.intro (Or.inl rfl) (And.intro (Or.inl rfl) (And.intro (Or.inr rfl) (And.intro (Or.inl rfl) (And.intro (Or.inl rfl) (And.intro (Or.inr rfl) (And.intro (Or.inr rfl) (And.intro (Or.inr rfl) (And.intro (Or.inr rfl) (And.intro (Or.inr rfl) (And.intro (Or.inr rfl) (And.intro (Or.inr rfl) (trivial)))))))))))))))))) fun q57 => (dss_frz 5 rfl (dss_for (exl := fun (q59 : Unit) => [.im a0, .im c18, .im v29, .un, .bg, .im (.lst q57), .un, .un, .un, .un, .un, .un, .un]) () C28 (di_any (de_var 5)) (pgd_tup3 C28 6 7 8) (And.intro (Or.inl rfl) (And.intro (Or.inl rfl) (And.intro (Or.inl rfl) (And.intro (Or.inr rfl) (And.intro (Or.inl rfl) (And.intro (Or.inl rfl) (And.intro (Or.inr rfl) (And.intro (Or.inr rfl) (And.intro (Or.inr rfl) (And.intro (Or.inr rfl) (And.intro (Or.inr rfl) (And.intro (Or.inr rfl) (And.intro (Or.inr rfl) (trivial)))))))))))))) (fun q59 c60 => (dss_if (exA := fun (q80 : Unit) => [.im a0, .im c18, .im v29, .un, .bg, .im (.lst q57), .im c60.1, .im c60.2.1, .im c60.2.2, .un, .un, .un, .un]) (dw_or (dt_not (dt_tru (de_fn C28 (g__law_is T) T.m__law_is T.F__law_is.kp T.b__law_is (da_cons (de_var 6) (da_cons (de_var 7) (da_cons (de_var 8) da_nil))) n__law_is_9abc))) (dw_or (dt_not (dt_cmp (od_eqO (L := [("Page", m_Page_eq_ca54), ("HostPattern", m_HostPattern_eq_ad46), ("PathPattern", m_PathPattern_eq_f7cd), ("Rule", m_Rule_eq_ea23)]) (eq_all T) C28.gd (C28.rm.mono (by decide)) (od_eq C28.rm.units)) (de_var 6) (de_makeK C28 T.C_Rule T.na_Rule T.M_Rule (gk_0 T) da_nil (dk_cons (de_var 8) dk_nil) (fun ds h => congrArg (· + 1) (kwI_len h))) (by rfl))) (dw_or (dt_cmp (od_eqO (L := [("Page", m_Page_eq_ca54), ("HostPattern", m_HostPattern_eq_ad46), ("PathPattern", m_PathPattern_eq_f7cd), ("Rule", m_Rule_eq_ea23)]) (eq_all T) C28.gd (C28.rm.mono (by decide)) (od_eq C28.rm.units)) (de_var 6) (de_var 8) (by rfl)) (dw_or1 (dt_cmp (od_eqO (L := [("Page", m_Page_eq_ca54), ("HostPattern", m_HostPattern_eq_ad46), ("PathPattern", m_PathPattern_eq_f7cd), ("Rule", m_Rule_eq_ea23)]) (eq_all T) C28.gd (C28.rm.mono (by decide)) (od_eq C28.rm.units)) (de_var 6) de_int (by rfl)))))).pt (dss_ret de_bl) (dss_nil (a := ()) (And.intro (Or.inl rfl) (And.intro (Or.inl rfl) (And.intro (Or.inl rfl) (And.intro (Or.inr rfl) (And.intro (Or.inl rfl) (And.intro (Or.inl rfl) (And.intro (Or.inl rfl) (And.intro (Or.inl rfl) (And.intro (Or.inl rfl) (And.intro (Or.inr rfl) (And.intro (Or.inr rfl) (And.intro (Or.inr rfl) (And.intro (Or.inr rfl) (trivial))))))))))))))) fun q80 => (dss_asg C28 9 (de_op od_add (de_op od_add (de_sl (de_var 8) do_none (do_some de_int)) (de_fnM C28 4 (g__law_of T) T.m__law_of T.F__law_of.kp T.b__law_of (da_cons (de_frz (df_list (da_cons (de_str [97, 110, 121]) (da_cons (de_str [104, 116, 116, 112]) (da_cons (de_str [104, 116, 116, 112, 115]) da_nil))))) da_nil) n__law_of_68b0)) (de_sl (de_var 8) (do_some (de_index (de_var 8) (de_str [58]))) do_none)) fun v82 => (dss_if (exA := fun (q125 : Unit) => [.im a0, .im c18, .im v29, .un, .bg, .im (.lst q57), .im c60.1, .im c60.2.1, .im c60.2.2, .im v82, .un, .un, .un]) (dt_cmp (od_ne C28.rm.units) (de_callB (oc_repr C28.gd C28.rm.units) (by rfl) T.z_repr rfl (da_cons (de_cmp (od_eqO (L := [("Page", m_Page_eq_ca54), ("HostPattern", m_HostPattern_eq_ad46), ("PathPattern", m_PathPattern_eq_f7cd), ("Rule", m_Rule_eq_ea23)]) (eq_all T) C28.gd (C28.rm.mono (by decide)) (od_eq C28.rm.units)) (de_make C28 T.C_Rule T.na_Rule T.M_Rule ((g_Rule_init T).pos T.b_Rule_init) (da_cons (de_var 9) da_nil) (fun ds h => congrArg (· + 1) (n_Rule_init_6a3b ds h))) (de_var 6) (by rfl)) da_nil)) (de_callB (oc_repr C28.gd C28.rm.units) (by rfl) T.z_repr rfl (da_cons (de_cmp (od_eqO (L := [("Page", m_Page_eq_ca54), ("HostPattern", m_HostPattern_eq_ad46), ("PathPattern", m_PathPattern_eq_f7cd), ("Rule", m_Rule_eq_ea23)]) (eq_all T) C28.gd (C28.rm.mono (by decide)) (od_eq C28.rm.units)) (de_var 9) (de_var 8) (by rfl)) da_nil)) (by rfl)) (dss_ret de_bl) (dss_nil (a := ()) (And.intro (Or.inl rfl) (And.intro (Or.inl rfl) (And.intro (Or.inl rfl) (And.intro (Or.inr rfl) (And.intro (Or.inl rfl) (And.intro (Or.inl rfl) (And.intro (Or.inl rfl) (And.intro (Or.inl rfl) (And.intro (Or.inl rfl) (And.intro (Or.inl rfl) (And.intro (Or.inr rfl) (And.intro (Or.inr rfl) (And.intro (Or.inr rfl) (trivial))))))))))))))) fun q125 => (dss_for (exl := fun (q128 : Unit) => [.im a0, .im c18, .im v29, .un, .bg, .im (.lst q57), .im c60.1, .im c60.2.1, .im c60.2.2, .im v82, .un, .un, .un]) () C28 (di_any (de_var 5)) (pgd_tup3 C28 10 11 12) (And.intro (Or.inl rfl) (And.intro (Or.inl rfl) (And.intro (Or.inl rfl) (And.intro (Or.inr rfl) (And.intro (Or.inl rfl) (And.intro (Or.inl rfl) (And.intro (Or.inl rfl) (And.intro (Or.inl rfl) (And.intro (Or.inl rfl) (And.intro (Or.inl rfl) (And.intro (Or.inr rfl) (And.intro (Or.inr rfl) (And.intro (Or.inr rfl) (trivial)))))))))))))) (fun q128 c129 => (dss_if (exA := fun (q142 : Unit) => [.im a0, .im c18, .im v29, .un, .bg, .im (.lst q57), .im c60.1, .im c60.2.1, .im c60.2.2, .im v82, .im c129.1, .im c129.2.1, .im c129.2.2]) (dt_cmp (od_ne C28.rm.units) (de_callB (oc_repr C28.gd C28.rm.units) (by rfl) T.z_repr rfl (da_cons (de_cmp (od_eqO (L := [("Page", m_Page_eq_ca54), ("HostPattern", m_HostPattern_eq_ad46), ("PathPattern", m_PathPattern_eq_f7cd), ("Rule", m_Rule_eq_ea23)]) (eq_all T) C28.gd (C28.rm.mono (by decide)) (od_eq C28.rm.units)) (de_var 6) (de_var 10) (by rfl)) da_nil)) (de_callB (oc_repr C28.gd C28.rm.units) (by rfl) T.z_repr rfl (da_cons (de_cmp (od_eqO (L := [("Page", m_Page_eq_ca54), ("HostPattern", m_HostPattern_eq_ad46), ("PathPattern", m_PathPattern_eq_f7cd), ("Rule", m_Rule_eq_ea23)]) (eq_all T) C28.gd (C28.rm.mono (by decide)) (od_eq C28.rm.units)) (de_var 8) (de_var 12) (by rfl)) da_nil)) (by rfl)) (dss_ret de_bl) (dss_nil (a := ()) (And.intro (Or.inl rfl) (And.intro (Or.inl rfl) (And.intro (Or.inl rfl) (And.intro (Or.inr rfl) (And.intro (Or.inl rfl) (And.intro (Or.inl rfl) (And.intro (Or.inl rfl) (And.intro (Or.inl rfl) (And.intro (Or.inl rfl) (And.intro (Or.inl rfl) (And.intro (Or.inl rfl) (And.intro (Or.inl rfl) (And.intro (Or.inl rfl) (trivial))))))))))))))) fun q142 => (dss_nil (a := ()) (And.intro (Or.inl rfl) (And.intro (Or.inl rfl) (And.intro (Or.inl rfl) (And.intro (Or.inr rfl) (And.intro (Or.inl rfl) (And.intro (Or.inl rfl) (And.intro (Or.inl rfl) (And.intro (Or.inl rfl) (And.intro (Or.inl rfl) (And.intro (Or.inl rfl) (And.intro (Or.inr rfl) (And.intro (Or.inr rfl) (And.intro (Or.inr rfl) (trivial))))))))))))))))) fun q145 => (dss_nil (a := ()) (And.intro (Or.inl rfl) (And.intro (Or.inl rfl) (And.intro (Or.inl rfl) (And.intro (Or.inr rfl) (And.intro (Or.inl rfl) (And.intro (Or.inl rfl) (And.intro (Or.inr rfl) (And.intro (Or.inr rfl) (And.intro (Or.inr rfl) (And.intro (Or.inr rfl) (And.intro (Or.inr rfl) (And.intro (Or.inr rfl) (And.intro (Or.inr rfl) (trivial)))))))))))))))))))) fun q149 => (dss_nil (a := ()) (And.intro (Or.inl rfl) (And.intro (Or.inr rfl) (And.intro (Or.inr rfl) (And.intro (Or.inr rfl) (And.intro (Or.inr rfl) (And.intro (Or.inr rfl) (And.intro (Or.inr rfl) (And.intro (Or.inr rfl) (And.intro (Or.inr rfl) (And.intro (Or.inr rfl) (And.intro (Or.inr rfl) (And.intro (Or.inr rfl) (And.intro (Or.inr rfl) (trivial)))))))))))))))))))) (fun _ => rfl) (fun _ => by first | rfl | contradiction)))) fun q152 => (dss_ret de_bl)), rfl⟩
end
theorem all_mk {l : PySem.W.OpenLaw} {w : World} {K : PySem.W.Frag} {h : Heap} {mg : Str → Option Value} {fa : Addr} (X : K.In h) (G : h.Ns mainGlobals mg) (hfa : mg "law" = some (.ref fa))
    {od0 an0 : Option Addr} {sl0 : Array (Option Value)} {oc0 kV0 dc0 pm0 cd0 ct0 : Value} {f0 : Addr}
    {od1 an1 : Option Addr} {sl1 : Array (Option Value)} {oc1 kV1 dc1 pm1 cd1 ct1 : Value} {f1 : Addr}
    {od2 an2 : Option Addr} {sl2 : Array (Option Value)} {oc2 kV2 dc2 pm2 cd2 ct2 : Value} {f2 : Addr}
    {od3 an3 : Option Addr} {sl3 : Array (Option Value)} {oc3 kV3 dc3 pm3 cd3 ct3 : Value} {f3 : Addr}
    {od4 an4 : Option Addr} {sl4 : Array (Option Value)} {oc4 kV4 dc4 pm4 cd4 ct4 : Value} {f4 : Addr}
    {od5 an5 : Option Addr} {sl5 : Array (Option Value)} {oc5 kV5 dc5 pm5 cd5 ct5 : Value} {f5 : Addr}
    {od6 an6 : Option Addr} {sl6 : Array (Option Value)} {oc6 kV6 dc6 pm6 cd6 ct6 : Value} {f6 : Addr}
    {od7 an7 : Option Addr} {sl7 : Array (Option Value)} {oc7 kV7 dc7 pm7 cd7 ct7 : Value} {f7 : Addr}
    {od8 an8 : Option Addr} {sl8 : Array (Option Value)} {oc8 kV8 dc8 pm8 cd8 ct8 : Value} {f8 : Addr}
    {od9 an9 : Option Addr} {sl9 : Array (Option Value)} {oc9 kV9 dc9 pm9 cd9 ct9 : Value} {f9 : Addr}
    {od10 an10 : Option Addr} {sl10 : Array (Option Value)} {oc10 kV10 dc10 pm10 cd10 ct10 : Value} {f10 : Addr}
    {od11 an11 : Option Addr} {sl11 : Array (Option Value)} {oc11 kV11 dc11 pm11 cd11 ct11 : Value} {f11 : Addr}
    {od12 an12 : Option Addr} {sl12 : Array (Option Value)} {oc12 kV12 dc12 pm12 cd12 ct12 : Value} {f12 : Addr}
    {od13 an13 : Option Addr} {sl13 : Array (Option Value)} {oc13 kV13 dc13 pm13 cd13 ct13 : Value} {f13 : Addr}
    {od14 an14 : Option Addr} {sl14 : Array (Option Value)} {oc14 kV14 dc14 pm14 cd14 ct14 : Value} {f14 : Addr}
    {od15 an15 : Option Addr} {sl15 : Array (Option Value)} {oc15 kV15 dc15 pm15 cd15 ct15 : Value} {f15 : Addr}
    {od16 an16 : Option Addr} {sl16 : Array (Option Value)} {oc16 kV16 dc16 pm16 cd16 ct16 : Value} {f16 : Addr}
    {od17 an17 : Option Addr} {sl17 : Array (Option Value)} {oc17 kV17 dc17 pm17 cd17 ct17 : Value} {f17 : Addr}
    {od18 an18 : Option Addr} {sl18 : Array (Option Value)} {oc18 kV18 dc18 pm18 cd18 ct18 : Value} {f18 : Addr}
    {od19 an19 : Option Addr} {sl19 : Array (Option Value)} {oc19 kV19 dc19 pm19 cd19 ct19 : Value} {f19 : Addr}
    {od20 an20 : Option Addr} {sl20 : Array (Option Value)} {oc20 kV20 dc20 pm20 cd20 ct20 : Value} {f20 : Addr}
    {od21 an21 : Option Addr} {sl21 : Array (Option Value)} {oc21 kV21 dc21 pm21 cd21 ct21 : Value} {f21 : Addr}
    {od22 an22 : Option Addr} {sl22 : Array (Option Value)} {oc22 kV22 dc22 pm22 cd22 ct22 : Value} {f22 : Addr}
    {od23 an23 : Option Addr} {sl23 : Array (Option Value)} {oc23 kV23 dc23 pm23 cd23 ct23 : Value} {f23 : Addr}
    {od24 an24 : Option Addr} {sl24 : Array (Option Value)} {oc24 kV24 dc24 pm24 cd24 ct24 : Value} {f24 : Addr}
    {od25 an25 : Option Addr} {sl25 : Array (Option Value)} {oc25 kV25 dc25 pm25 cd25 ct25 : Value} {f25 : Addr}
    {od26 an26 : Option Addr} {sl26 : Array (Option Value)} {oc26 kV26 dc26 pm26 cd26 ct26 : Value} {f26 : Addr}
    {od27 an27 : Option Addr} {sl27 : Array (Option Value)} {oc27 kV27 dc27 pm27 cd27 ct27 : Value} {f27 : Addr}
    {od28 an28 : Option Addr} {sl28 : Array (Option Value)} {oc28 kV28 dc28 pm28 ct28 : Value} {f28 : Addr}
    {od29 an29 : Option Addr} {sl29 : Array (Option Value)} {oc29 kV29 dc29 pm29 ct29 : Value} {f29 : Addr}
    {od30 an30 : Option Addr} {sl30 : Array (Option Value)} {oc30 kV30 dc30 pm30 cd30 ct30 : Value} {f30 : Addr}
    {od31 an31 : Option Addr} {sl31 : Array (Option Value)} {oc31 kV31 dc31 pm31 cd31 ct31 : Value} {f31 : Addr}
    {od32 an32 : Option Addr} {sl32 : Array (Option Value)} {oc32 kV32 dc32 pm32 cd32 ct32 : Value} {f32 : Addr}
    {od33 an33 : Option Addr} {sl33 : Array (Option Value)} {oc33 kV33 dc33 pm33 cd33 ct33 : Value} {f33 : Addr}
    {od34 an34 : Option Addr} {sl34 : Array (Option Value)} {oc34 kV34 dc34 pm34 cd34 ct34 : Value} {f34 : Addr}
    {od35 an35 : Option Addr} {sl35 : Array (Option Value)} {oc35 kV35 dc35 pm35 cd35 ct35 : Value} {f35 : Addr}
    {K_HostPattern : Addr} (aC_HostPattern : PySem.W.nsIn K mainGlobals "HostPattern" = some (some (.ref K_HostPattern))) (pg_HostPattern : PySem.W.plainGet K K_HostPattern Str.empty = true) (hd_HostPattern : PySem.W.hasDictIn K K_HostPattern = true) (po_HostPattern : PySem.W.plainOver K K_HostPattern = true) (sa_HostPattern : PySem.W.findIn K (.ref K_HostPattern) "__setattr__" = some (some (.builtin "object.__setattr__")))
    (ca_HostPattern : PySem.W.findIn K (.ref K_HostPattern) "__class__" = some (some (.builtin "object.__class__"))) (cn_HostPattern : PySem.W.specialIn K (.builtin "object.__class__") "__get__" = some (some (.builtin "getset_descriptor.__get__"))) (ct_HostPattern : PySem.W.takesIn K (.builtin "object.__class__") = some true) (cm_HostPattern : PySem.W.mroIn K K_HostPattern (.type "object") = some true)
    (nf_HostPattern_text : PySem.W.findIn K (.ref K_HostPattern) "text" = some none)
    (nf_HostPattern_level : PySem.W.findIn K (.ref K_HostPattern) "level" = some none)
    (nf_HostPattern_head : PySem.W.findIn K (.ref K_HostPattern) "head" = some none)
    (nf_HostPattern_tail : PySem.W.findIn K (.ref K_HostPattern) "tail" = some none)
    (nf_HostPattern_gap : PySem.W.findIn K (.ref K_HostPattern) "gap" = some none)
    (mk_HostPattern : PySem.W.makesIn K K_HostPattern = true) (kc_HostPattern : PySem.W.keepIn K (.ref K_HostPattern) = true) (ai_HostPattern : PySem.W.findIn K (.ref K_HostPattern) "__init__" = some (some (.ref f28))) (fi_HostPattern : PySem.W.isFn K (.ref f28) = true)
    {K_Page : Addr} (aC_Page : PySem.W.nsIn K mainGlobals "Page" = some (some (.ref K_Page))) (pg_Page : PySem.W.plainGet K K_Page Str.empty = true) (hd_Page : PySem.W.hasDictIn K K_Page = true) (po_Page : PySem.W.plainOver K K_Page = true) (sa_Page : PySem.W.findIn K (.ref K_Page) "__setattr__" = some (some (.builtin "object.__setattr__")))
    (ca_Page : PySem.W.findIn K (.ref K_Page) "__class__" = some (some (.builtin "object.__class__"))) (cn_Page : PySem.W.specialIn K (.builtin "object.__class__") "__get__" = some (some (.builtin "getset_descriptor.__get__"))) (ct_Page : PySem.W.takesIn K (.builtin "object.__class__") = some true) (cm_Page : PySem.W.mroIn K K_Page (.type "object") = some true)
    (nf_Page_scheme : PySem.W.findIn K (.ref K_Page) "scheme" = some none)
    (nf_Page_host : PySem.W.findIn K (.ref K_Page) "host" = some none)
    (nf_Page_port : PySem.W.findIn K (.ref K_Page) "port" = some none)
    (nf_Page_path : PySem.W.findIn K (.ref K_Page) "path" = some none)
    (nf_Page_text : PySem.W.findIn K (.ref K_Page) "text" = some none)
    {K_PathPattern : Addr} (aC_PathPattern : PySem.W.nsIn K mainGlobals "PathPattern" = some (some (.ref K_PathPattern))) (pg_PathPattern : PySem.W.plainGet K K_PathPattern Str.empty = true) (hd_PathPattern : PySem.W.hasDictIn K K_PathPattern = true) (po_PathPattern : PySem.W.plainOver K K_PathPattern = true) (sa_PathPattern : PySem.W.findIn K (.ref K_PathPattern) "__setattr__" = some (some (.builtin "object.__setattr__")))
    (ca_PathPattern : PySem.W.findIn K (.ref K_PathPattern) "__class__" = some (some (.builtin "object.__class__"))) (cn_PathPattern : PySem.W.specialIn K (.builtin "object.__class__") "__get__" = some (some (.builtin "getset_descriptor.__get__"))) (ct_PathPattern : PySem.W.takesIn K (.builtin "object.__class__") = some true) (cm_PathPattern : PySem.W.mroIn K K_PathPattern (.type "object") = some true)
    (nf_PathPattern_text : PySem.W.findIn K (.ref K_PathPattern) "text" = some none)
    (nf_PathPattern_level : PySem.W.findIn K (.ref K_PathPattern) "level" = some none)
    (nf_PathPattern_head : PySem.W.findIn K (.ref K_PathPattern) "head" = some none)
    (nf_PathPattern_tail : PySem.W.findIn K (.ref K_PathPattern) "tail" = some none)
    (nf_PathPattern_gap : PySem.W.findIn K (.ref K_PathPattern) "gap" = some none)
    (mk_PathPattern : PySem.W.makesIn K K_PathPattern = true) (kc_PathPattern : PySem.W.keepIn K (.ref K_PathPattern) = true) (ai_PathPattern : PySem.W.findIn K (.ref K_PathPattern) "__init__" = some (some (.ref f29))) (fi_PathPattern : PySem.W.isFn K (.ref f29) = true)
    {K_Rule : Addr} (aC_Rule : PySem.W.nsIn K mainGlobals "Rule" = some (some (.ref K_Rule))) (pg_Rule : PySem.W.plainGet K K_Rule Str.empty = true) (hd_Rule : PySem.W.hasDictIn K K_Rule = true) (po_Rule : PySem.W.plainOver K K_Rule = true) (sa_Rule : PySem.W.findIn K (.ref K_Rule) "__setattr__" = some (some (.builtin "object.__setattr__")))
    (ca_Rule : PySem.W.findIn K (.ref K_Rule) "__class__" = some (some (.builtin "object.__class__"))) (cn_Rule : PySem.W.specialIn K (.builtin "object.__class__") "__get__" = some (some (.builtin "getset_descriptor.__get__"))) (ct_Rule : PySem.W.takesIn K (.builtin "object.__class__") = some true) (cm_Rule : PySem.W.mroIn K K_Rule (.type "object") = some true)
    (nf_Rule_text : PySem.W.findIn K (.ref K_Rule) "text" = some none)
    (nf_Rule_sign : PySem.W.findIn K (.ref K_Rule) "sign" = some none)
    (nf_Rule_scheme : PySem.W.findIn K (.ref K_Rule) "scheme" = some none)
    (nf_Rule_written_ports : PySem.W.findIn K (.ref K_Rule) "written_ports" = some none)
    (nf_Rule_ports : PySem.W.findIn K (.ref K_Rule) "ports" = some none)
    (nf_Rule_near : PySem.W.findIn K (.ref K_Rule) "near" = some none)
    (nf_Rule_host : PySem.W.findIn K (.ref K_Rule) "host" = some none)
    (nf_Rule_path : PySem.W.findIn K (.ref K_Rule) "path" = some none)
    (mk_Rule : PySem.W.makesIn K K_Rule = true) (kc_Rule : PySem.W.keepIn K (.ref K_Rule) = true) (ai_Rule : PySem.W.findIn K (.ref K_Rule) "__init__" = some (some (.ref f34))) (fi_Rule : PySem.W.isFn K (.ref f34) = true)
    {pp_Rule_closeness : Addr} {pr_Rule_closeness : List Value} (pa_Rule_closeness : PySem.W.findIn K (.ref K_Rule) "closeness" = some (some (.ref pp_Rule_closeness))) (pg_Rule_closeness : PySem.W.specialIn K (.ref pp_Rule_closeness) "__get__" = some (some (.builtin "property.__get__"))) (pt_Rule_closeness : PySem.W.takesIn K (.ref pp_Rule_closeness) = some true) (pc_Rule_closeness : PySem.W.recIn K pp_Rule_closeness "property" = some (.ref f25 :: pr_Rule_closeness))
    {pp_HostPattern_fixed : Addr} {pr_HostPattern_fixed : List Value} (pa_HostPattern_fixed : PySem.W.findIn K (.ref K_HostPattern) "fixed" = some (some (.ref pp_HostPattern_fixed))) (pg_HostPattern_fixed : PySem.W.specialIn K (.ref pp_HostPattern_fixed) "__get__" = some (some (.builtin "property.__get__"))) (pt_HostPattern_fixed : PySem.W.takesIn K (.ref pp_HostPattern_fixed) = some true) (pc_HostPattern_fixed : PySem.W.recIn K pp_HostPattern_fixed "property" = some (.ref f9 :: pr_HostPattern_fixed))
    {pp_PathPattern_fixed : Addr} {pr_PathPattern_fixed : List Value} (pa_PathPattern_fixed : PySem.W.findIn K (.ref K_PathPattern) "fixed" = some (some (.ref pp_PathPattern_fixed))) (pg_PathPattern_fixed : PySem.W.specialIn K (.ref pp_PathPattern_fixed) "__get__" = some (some (.builtin "property.__get__"))) (pt_PathPattern_fixed : PySem.W.takesIn K (.ref pp_PathPattern_fixed) = some true) (pc_PathPattern_fixed : PySem.W.recIn K pp_PathPattern_fixed "property" = some (.ref f11 :: pr_PathPattern_fixed))
    {pp_Rule_is_offer : Addr} {pr_Rule_is_offer : List Value} (pa_Rule_is_offer : PySem.W.findIn K (.ref K_Rule) "is_offer" = some (some (.ref pp_Rule_is_offer))) (pg_Rule_is_offer : PySem.W.specialIn K (.ref pp_Rule_is_offer) "__get__" = some (some (.builtin "property.__get__"))) (pt_Rule_is_offer : PySem.W.takesIn K (.ref pp_Rule_is_offer) = some true) (pc_Rule_is_offer : PySem.W.recIn K pp_Rule_is_offer "property" = some (.ref f12 :: pr_Rule_is_offer))
    (qe_HostPattern : PySem.W.findIn K (.ref K_HostPattern) "__eq__" = some (some (.ref f8))) (qf_HostPattern : PySem.W.isFn K (.ref f8) = true) (qn_HostPattern : PySem.W.findIn K (.ref K_HostPattern) "__ne__" = some (some (.builtin "object.__ne__")))
    (qb_HostPattern_NoneType : PySem.W.notFirst K K_HostPattern (.type "NoneType") = true)
    (qb_HostPattern_bool : PySem.W.notFirst K K_HostPattern (.type "bool") = true)
    (qb_HostPattern_int : PySem.W.notFirst K K_HostPattern (.type "int") = true)
    (qb_HostPattern_str : PySem.W.notFirst K K_HostPattern (.type "str") = true)
    (qb_HostPattern_tuple : PySem.W.notFirst K K_HostPattern (.type "tuple") = true)
    (qb_HostPattern_list : PySem.W.notFirst K K_HostPattern (.type "list") = true)
    (qb_HostPattern_dict : PySem.W.notFirst K K_HostPattern (.type "dict") = true)
    (qo_HostPattern_HostPattern : PySem.W.notFirst K K_HostPattern (.ref K_HostPattern) = true)
    (qo_HostPattern_Page : PySem.W.notFirst K K_HostPattern (.ref K_Page) = true)
    (qo_HostPattern_PathPattern : PySem.W.notFirst K K_HostPattern (.ref K_PathPattern) = true)
    (qo_HostPattern_Rule : PySem.W.notFirst K K_HostPattern (.ref K_Rule) = true)
    (qe_Page : PySem.W.findIn K (.ref K_Page) "__eq__" = some (some (.ref f6))) (qf_Page : PySem.W.isFn K (.ref f6) = true) (qn_Page : PySem.W.findIn K (.ref K_Page) "__ne__" = some (some (.builtin "object.__ne__")))
    (qb_Page_NoneType : PySem.W.notFirst K K_Page (.type "NoneType") = true)
    (qb_Page_bool : PySem.W.notFirst K K_Page (.type "bool") = true)
    (qb_Page_int : PySem.W.notFirst K K_Page (.type "int") = true)
    (qb_Page_str : PySem.W.notFirst K K_Page (.type "str") = true)
    (qb_Page_tuple : PySem.W.notFirst K K_Page (.type "tuple") = true)
    (qb_Page_list : PySem.W.notFirst K K_Page (.type "list") = true)
    (qb_Page_dict : PySem.W.notFirst K K_Page (.type "dict") = true)
    (qo_Page_HostPattern : PySem.W.notFirst K K_Page (.ref K_HostPattern) = true)
    (qo_Page_Page : PySem.W.notFirst K K_Page (.ref K_Page) = true)
    (qo_Page_PathPattern : PySem.W.notFirst K K_Page (.ref K_PathPattern) = true)
    (qo_Page_Rule : PySem.W.notFirst K K_Page (.ref K_Rule) = true)
    (qe_PathPattern : PySem.W.findIn K (.ref K_PathPattern) "__eq__" = some (some (.ref f10))) (qf_PathPattern : PySem.W.isFn K (.ref f10) = true) (qn_PathPattern : PySem.W.findIn K (.ref K_PathPattern) "__ne__" = some (some (.builtin "object.__ne__")))
    (qb_PathPattern_NoneType : PySem.W.notFirst K K_PathPattern (.type "NoneType") = true)
    (qb_PathPattern_bool : PySem.W.notFirst K K_PathPattern (.type "bool") = true)
    (qb_PathPattern_int : PySem.W.notFirst K K_PathPattern (.type "int") = true)
    (qb_PathPattern_str : PySem.W.notFirst K K_PathPattern (.type "str") = true)
    (qb_PathPattern_tuple : PySem.W.notFirst K K_PathPattern (.type "tuple") = true)
    (qb_PathPattern_list : PySem.W.notFirst K K_PathPattern (.type "list") = true)
    (qb_PathPattern_dict : PySem.W.notFirst K K_PathPattern (.type "dict") = true)
    (qo_PathPattern_HostPattern : PySem.W.notFirst K K_PathPattern (.ref K_HostPattern) = true)
    (qo_PathPattern_Page : PySem.W.notFirst K K_PathPattern (.ref K_Page) = true)
    (qo_PathPattern_PathPattern : PySem.W.notFirst K K_PathPattern (.ref K_PathPattern) = true)
    (qo_PathPattern_Rule : PySem.W.notFirst K K_PathPattern (.ref K_Rule) = true)
    (qe_Rule : PySem.W.findIn K (.ref K_Rule) "__eq__" = some (some (.ref f13))) (qf_Rule : PySem.W.isFn K (.ref f13) = true) (qn_Rule : PySem.W.findIn K (.ref K_Rule) "__ne__" = some (some (.builtin "object.__ne__")))
    (qb_Rule_NoneType : PySem.W.notFirst K K_Rule (.type "NoneType") = true)
    (qb_Rule_bool : PySem.W.notFirst K K_Rule (.type "bool") = true)
    (qb_Rule_int : PySem.W.notFirst K K_Rule (.type "int") = true)
    (qb_Rule_str : PySem.W.notFirst K K_Rule (.type "str") = true)
    (qb_Rule_tuple : PySem.W.notFirst K K_Rule (.type "tuple") = true)
    (qb_Rule_list : PySem.W.notFirst K K_Rule (.type "list") = true)
    (qb_Rule_dict : PySem.W.notFirst K K_Rule (.type "dict") = true)
    (qo_Rule_HostPattern : PySem.W.notFirst K K_Rule (.ref K_HostPattern) = true)
    (qo_Rule_Page : PySem.W.notFirst K K_Rule (.ref K_Page) = true)
    (qo_Rule_PathPattern : PySem.W.notFirst K K_Rule (.ref K_PathPattern) = true)
    (qo_Rule_Rule : PySem.W.notFirst K K_Rule (.ref K_Rule) = true)
    (ic_HostPattern : PySem.W.isClsIn K K_HostPattern = true) (tc_HostPattern : PySem.W.typeIn K (.ref K_HostPattern) = some (.type "type"))
    (sC_HostPattern_Page : PySem.W.subIn K (.ref K_Page) (.ref K_HostPattern) = some false)
    (sC_HostPattern_HostPattern : PySem.W.subIn K (.ref K_HostPattern) (.ref K_HostPattern) = some true)
    (sC_HostPattern_PathPattern : PySem.W.subIn K (.ref K_PathPattern) (.ref K_HostPattern) = some false)
    (sC_HostPattern_Rule : PySem.W.subIn K (.ref K_Rule) (.ref K_HostPattern) = some false)
    (sb_HostPattern_NoneType : PySem.W.subIn K (.type "NoneType") (.ref K_HostPattern) = some false)
    (sb_HostPattern_bool : PySem.W.subIn K (.type "bool") (.ref K_HostPattern) = some false)
    (sb_HostPattern_int : PySem.W.subIn K (.type "int") (.ref K_HostPattern) = some false)
    (sb_HostPattern_str : PySem.W.subIn K (.type "str") (.ref K_HostPattern) = some false)
    (sb_HostPattern_tuple : PySem.W.subIn K (.type "tuple") (.ref K_HostPattern) = some false)
    (sb_HostPattern_list : PySem.W.subIn K (.type "list") (.ref K_HostPattern) = some false)
    (sb_HostPattern_dict : PySem.W.subIn K (.type "dict") (.ref K_HostPattern) = some false)
    (ic_Page : PySem.W.isClsIn K K_Page = true) (tc_Page : PySem.W.typeIn K (.ref K_Page) = some (.type "type"))
    (sC_Page_Page : PySem.W.subIn K (.ref K_Page) (.ref K_Page) = some true)
    (sC_Page_HostPattern : PySem.W.subIn K (.ref K_HostPattern) (.ref K_Page) = some false)
    (sC_Page_PathPattern : PySem.W.subIn K (.ref K_PathPattern) (.ref K_Page) = some false)
    (sC_Page_Rule : PySem.W.subIn K (.ref K_Rule) (.ref K_Page) = some false)
    (sb_Page_NoneType : PySem.W.subIn K (.type "NoneType") (.ref K_Page) = some false)
    (sb_Page_bool : PySem.W.subIn K (.type "bool") (.ref K_Page) = some false)
    (sb_Page_int : PySem.W.subIn K (.type "int") (.ref K_Page) = some false)
    (sb_Page_str : PySem.W.subIn K (.type "str") (.ref K_Page) = some false)
    (sb_Page_tuple : PySem.W.subIn K (.type "tuple") (.ref K_Page) = some false)
    (sb_Page_list : PySem.W.subIn K (.type "list") (.ref K_Page) = some false)
    (sb_Page_dict : PySem.W.subIn K (.type "dict") (.ref K_Page) = some false)
    (ic_PathPattern : PySem.W.isClsIn K K_PathPattern = true) (tc_PathPattern : PySem.W.typeIn K (.ref K_PathPattern) = some (.type "type"))
    (sC_PathPattern_Page : PySem.W.subIn K (.ref K_Page) (.ref K_PathPattern) = some false)
    (sC_PathPattern_HostPattern : PySem.W.subIn K (.ref K_HostPattern) (.ref K_PathPattern) = some false)
    (sC_PathPattern_PathPattern : PySem.W.subIn K (.ref K_PathPattern) (.ref K_PathPattern) = some true)
    (sC_PathPattern_Rule : PySem.W.subIn K (.ref K_Rule) (.ref K_PathPattern) = some false)
    (sb_PathPattern_NoneType : PySem.W.subIn K (.type "NoneType") (.ref K_PathPattern) = some false)
    (sb_PathPattern_bool : PySem.W.subIn K (.type "bool") (.ref K_PathPattern) = some false)
    (sb_PathPattern_int : PySem.W.subIn K (.type "int") (.ref K_PathPattern) = some false)
    (sb_PathPattern_str : PySem.W.subIn K (.type "str") (.ref K_PathPattern) = some false)
    (sb_PathPattern_tuple : PySem.W.subIn K (.type "tuple") (.ref K_PathPattern) = some false)
    (sb_PathPattern_list : PySem.W.subIn K (.type "list") (.ref K_PathPattern) = some false)
    (sb_PathPattern_dict : PySem.W.subIn K (.type "dict") (.ref K_PathPattern) = some false)
    (ic_Rule : PySem.W.isClsIn K K_Rule = true) (tc_Rule : PySem.W.typeIn K (.ref K_Rule) = some (.type "type"))
    (sC_Rule_Page : PySem.W.subIn K (.ref K_Page) (.ref K_Rule) = some false)
    (sC_Rule_HostPattern : PySem.W.subIn K (.ref K_HostPattern) (.ref K_Rule) = some false)
    (sC_Rule_PathPattern : PySem.W.subIn K (.ref K_PathPattern) (.ref K_Rule) = some false)
    (sC_Rule_Rule : PySem.W.subIn K (.ref K_Rule) (.ref K_Rule) = some true)
    (sb_Rule_NoneType : PySem.W.subIn K (.type "NoneType") (.ref K_Rule) = some false)
    (sb_Rule_bool : PySem.W.subIn K (.type "bool") (.ref K_Rule) = some false)
    (sb_Rule_int : PySem.W.subIn K (.type "int") (.ref K_Rule) = some false)
    (sb_Rule_str : PySem.W.subIn K (.type "str") (.ref K_Rule) = some false)
    (sb_Rule_tuple : PySem.W.subIn K (.type "tuple") (.ref K_Rule) = some false)
    (sb_Rule_list : PySem.W.subIn K (.type "list") (.ref K_Rule) = some false)
    (sb_Rule_dict : PySem.W.subIn K (.type "dict") (.ref K_Rule) = some false)
    {K_Pattern : Addr} (aC_Pattern : PySem.W.nsIn K mainGlobals "Pattern" = some (some (.ref K_Pattern))) (ai_Pattern : PySem.W.findIn K (.ref K_Pattern) "__init__" = some (some (.ref f7)))
    (zsuper : PySem.W.nsIn K mainGlobals "super" = some none) (tpany : PySem.W.nsIn K cStatics "thirdparty.any" = some none) (topsup : (l.prog.main.scope.names.lookup ("super" : Str)).isSome = false)
    (a0 : PySem.W.nsIn K mainGlobals "is_label" = some (some (.ref f0)))
    (l0 : K.lookup f0 = some ⟨oc0, od0, .func (PySem.W.fnOf "is_label" "is_label" (defArgs s_is_label) (defBody s_is_label) (defScope s_is_label) .none kV0 dc0 pm0 an0 cd0 ct0), sl0⟩) (c0 : PySem.W.codeIn K cd0 "is_label" = true) (k0 : PySem.W.keepIn K (.ref f0) = true)
    (a1 : PySem.W.nsIn K mainGlobals "port_of" = some (some (.ref f1)))
    (l1 : K.lookup f1 = some ⟨oc1, od1, .func (PySem.W.fnOf "port_of" "port_of" (defArgs s_port_of) (defBody s_port_of) (defScope s_port_of) .none kV1 dc1 pm1 an1 cd1 ct1), sl1⟩) (c1 : PySem.W.codeIn K cd1 "port_of" = true) (k1 : PySem.W.keepIn K (.ref f1) = true)
    (a2 : PySem.W.nsIn K mainGlobals "is_label_text" = some (some (.ref f2)))
    (l2 : K.lookup f2 = some ⟨oc2, od2, .func (PySem.W.fnOf "is_label_text" "is_label_text" (defArgs s_is_label_text) (defBody s_is_label_text) (defScope s_is_label_text) .none kV2 dc2 pm2 an2 cd2 ct2), sl2⟩) (c2 : PySem.W.codeIn K cd2 "is_label_text" = true) (k2 : PySem.W.keepIn K (.ref f2) = true)
    (a3 : PySem.W.nsIn K mainGlobals "_law_bag" = some (some (.ref f3)))
    (l3 : K.lookup f3 = some ⟨oc3, od3, .func (PySem.W.fnOf "_law_bag" "_law_bag" (defArgs s__law_bag) (defBody s__law_bag) (defScope s__law_bag) .none kV3 dc3 pm3 an3 cd3 ct3), sl3⟩) (c3 : PySem.W.codeIn K cd3 "_law_bag" = true) (k3 : PySem.W.keepIn K (.ref f3) = true)
    (a4 : PySem.W.nsIn K mainGlobals "_law_take" = some (some (.ref f4)))
    (l4 : K.lookup f4 = some ⟨oc4, od4, .func (PySem.W.fnOf "_law_take" "_law_take" (defArgs s__law_take) (defBody s__law_take) (defScope s__law_take) .none kV4 dc4 pm4 an4 cd4 ct4), sl4⟩) (c4 : PySem.W.codeIn K cd4 "_law_take" = true) (k4 : PySem.W.keepIn K (.ref f4) = true)
    (a5 : PySem.W.nsIn K mainGlobals "_law_fixed" = some (some (.ref f5)))
    (l5 : K.lookup f5 = some ⟨oc5, od5, .func (PySem.W.fnOf "_law_fixed" "_law_fixed" (defArgs s__law_fixed) (defBody s__law_fixed) (defScope s__law_fixed) .none kV5 dc5 pm5 an5 cd5 ct5), sl5⟩) (c5 : PySem.W.codeIn K cd5 "_law_fixed" = true) (k5 : PySem.W.keepIn K (.ref f5) = true)
    (l6 : K.lookup f6 = some ⟨oc6, od6, .func (PySem.W.fnOf "__eq__" "Page.__eq__" (defArgs s_Page_eq) (defBody s_Page_eq) (defScope s_Page_eq) .none kV6 dc6 pm6 an6 cd6 ct6), sl6⟩) (c6 : PySem.W.codeIn K cd6 "Page.__eq__" = true) (k6 : PySem.W.keepIn K (.ref f6) = true)
    (l7 : K.lookup f7 = some ⟨oc7, od7, .func (PySem.W.fnOf "__init__" "Pattern.__init__" (defArgs s_Pattern_init) (defBody s_Pattern_init) (defScope s_Pattern_init) .none kV7 dc7 pm7 an7 cd7 ct7), sl7⟩) (c7 : PySem.W.codeIn K cd7 "Pattern.__init__" = true) (k7 : PySem.W.keepIn K (.ref f7) = true)
    (l8 : K.lookup f8 = some ⟨oc8, od8, .func (PySem.W.fnOf "__eq__" "HostPattern.__eq__" (defArgs s_HostPattern_eq) (defBody s_HostPattern_eq) (defScope s_HostPattern_eq) .none kV8 dc8 pm8 an8 cd8 ct8), sl8⟩) (c8 : PySem.W.codeIn K cd8 "HostPattern.__eq__" = true) (k8 : PySem.W.keepIn K (.ref f8) = true)
    (l9 : K.lookup f9 = some ⟨oc9, od9, .func (PySem.W.fnOf "fixed" "HostPattern.fixed" (defArgs s_HostPattern_fixed) (defBody s_HostPattern_fixed) (defScope s_HostPattern_fixed) .none kV9 dc9 pm9 an9 cd9 ct9), sl9⟩) (c9 : PySem.W.codeIn K cd9 "HostPattern.fixed" = true) (k9 : PySem.W.keepIn K (.ref f9) = true)
    (l10 : K.lookup f10 = some ⟨oc10, od10, .func (PySem.W.fnOf "__eq__" "PathPattern.__eq__" (defArgs s_PathPattern_eq) (defBody s_PathPattern_eq) (defScope s_PathPattern_eq) .none kV10 dc10 pm10 an10 cd10 ct10), sl10⟩) (c10 : PySem.W.codeIn K cd10 "PathPattern.__eq__" = true) (k10 : PySem.W.keepIn K (.ref f10) = true)
    (l11 : K.lookup f11 = some ⟨oc11, od11, .func (PySem.W.fnOf "fixed" "PathPattern.fixed" (defArgs s_PathPattern_fixed) (defBody s_PathPattern_fixed) (defScope s_PathPattern_fixed) .none kV11 dc11 pm11 an11 cd11 ct11), sl11⟩) (c11 : PySem.W.codeIn K cd11 "PathPattern.fixed" = true) (k11 : PySem.W.keepIn K (.ref f11) = true)
    (l12 : K.lookup f12 = some ⟨oc12, od12, .func (PySem.W.fnOf "is_offer" "Rule.is_offer" (defArgs s_Rule_is_offer) (defBody s_Rule_is_offer) (defScope s_Rule_is_offer) .none kV12 dc12 pm12 an12 cd12 ct12), sl12⟩) (c12 : PySem.W.codeIn K cd12 "Rule.is_offer" = true) (k12 : PySem.W.keepIn K (.ref f12) = true)
    (l13 : K.lookup f13 = some ⟨oc13, od13, .func (PySem.W.fnOf "__eq__" "Rule.__eq__" (defArgs s_Rule_eq) (defBody s_Rule_eq) (defScope s_Rule_eq) .none kV13 dc13 pm13 an13 cd13 ct13), sl13⟩) (c13 : PySem.W.codeIn K cd13 "Rule.__eq__" = true) (k13 : PySem.W.keepIn K (.ref f13) = true)
    (a14 : PySem.W.nsIn K mainGlobals "is_path" = some (some (.ref f14)))
    (l14 : K.lookup f14 = some ⟨oc14, od14, .func (PySem.W.fnOf "is_path" "is_path" (defArgs s_is_path) (defBody s_is_path) (defScope s_is_path) .none kV14 dc14 pm14 an14 cd14 ct14), sl14⟩) (c14 : PySem.W.codeIn K cd14 "is_path" = true) (k14 : PySem.W.keepIn K (.ref f14) = true)
    (a15 : PySem.W.nsIn K mainGlobals "shape_of_items" = some (some (.ref f15)))
    (l15 : K.lookup f15 = some ⟨oc15, od15, .func (PySem.W.fnOf "shape_of_items" "shape_of_items" (defArgs s_shape_of_items) (defBody s_shape_of_items) (defScope s_shape_of_items) .none kV15 dc15 pm15 an15 cd15 ct15), sl15⟩) (c15 : PySem.W.codeIn K cd15 "shape_of_items" = true) (k15 : PySem.W.keepIn K (.ref f15) = true)
    (a16 : PySem.W.nsIn K mainGlobals "ports_of" = some (some (.ref f16)))
    (l16 : K.lookup f16 = some ⟨oc16, od16, .func (PySem.W.fnOf "ports_of" "ports_of" (defArgs s_ports_of) (defBody s_ports_of) (defScope s_ports_of) .none kV16 dc16 pm16 an16 cd16 ct16), sl16⟩) (c16 : PySem.W.codeIn K cd16 "ports_of" = true) (k16 : PySem.W.keepIn K (.ref f16) = true)
    (a17 : PySem.W.nsIn K mainGlobals "_law_of" = some (some (.ref f17)))
    (l17 : K.lookup f17 = some ⟨oc17, od17, .func (PySem.W.fnOf "_law_of" "_law_of" (defArgs s__law_of) (defBody s__law_of) (defScope s__law_of) .none kV17 dc17 pm17 an17 cd17 ct17), sl17⟩) (c17 : PySem.W.codeIn K cd17 "_law_of" = true) (k17 : PySem.W.keepIn K (.ref f17) = true)
    (a18 : PySem.W.nsIn K mainGlobals "is_host" = some (some (.ref f18)))
    (l18 : K.lookup f18 = some ⟨oc18, od18, .func (PySem.W.fnOf "is_host" "is_host" (defArgs s_is_host) (defBody s_is_host) (defScope s_is_host) .none kV18 dc18 pm18 an18 cd18 ct18), sl18⟩) (c18 : PySem.W.codeIn K cd18 "is_host" = true) (k18 : PySem.W.keepIn K (.ref f18) = true)
    (a19 : PySem.W.nsIn K mainGlobals "host_shape" = some (some (.ref f19)))
    (l19 : K.lookup f19 = some ⟨oc19, od19, .func (PySem.W.fnOf "host_shape" "host_shape" (defArgs s_host_shape) (defBody s_host_shape) (defScope s_host_shape) .none kV19 dc19 pm19 an19 cd19 ct19), sl19⟩) (c19 : PySem.W.codeIn K cd19 "host_shape" = true) (k19 : PySem.W.keepIn K (.ref f19) = true)
    (a20 : PySem.W.nsIn K mainGlobals "path_shape" = some (some (.ref f20)))
    (l20 : K.lookup f20 = some ⟨oc20, od20, .func (PySem.W.fnOf "path_shape" "path_shape" (defArgs s_path_shape) (defBody s_path_shape) (defScope s_path_shape) .none kV20 dc20 pm20 an20 cd20 ct20), sl20⟩) (c20 : PySem.W.codeIn K cd20 "path_shape" = true) (k20 : PySem.W.keepIn K (.ref f20) = true)
    (a21 : PySem.W.nsIn K mainGlobals "rule_parts" = some (some (.ref f21)))
    (l21 : K.lookup f21 = some ⟨oc21, od21, .func (PySem.W.fnOf "rule_parts" "rule_parts" (defArgs s_rule_parts) (defBody s_rule_parts) (defScope s_rule_parts) .none kV21 dc21 pm21 an21 cd21 ct21), sl21⟩) (c21 : PySem.W.codeIn K cd21 "rule_parts" = true) (k21 : PySem.W.keepIn K (.ref f21) = true)
    (a22 : PySem.W.nsIn K mainGlobals "_law_labels" = some (some (.ref f22)))
    (l22 : K.lookup f22 = some ⟨oc22, od22, .func (PySem.W.fnOf "_law_labels" "_law_labels" (defArgs s__law_labels) (defBody s__law_labels) (defScope s__law_labels) .none kV22 dc22 pm22 an22 cd22 ct22), sl22⟩) (c22 : PySem.W.codeIn K cd22 "_law_labels" = true) (k22 : PySem.W.keepIn K (.ref f22) = true)
    (a23 : PySem.W.nsIn K mainGlobals "_law_item" = some (some (.ref f23)))
    (l23 : K.lookup f23 = some ⟨oc23, od23, .func (PySem.W.fnOf "_law_item" "_law_item" (defArgs s__law_item) (defBody s__law_item) (defScope s__law_item) .none kV23 dc23 pm23 an23 cd23 ct23), sl23⟩) (c23 : PySem.W.codeIn K cd23 "_law_item" = true) (k23 : PySem.W.keepIn K (.ref f23) = true)
    (a24 : PySem.W.nsIn K mainGlobals "_law_ports" = some (some (.ref f24)))
    (l24 : K.lookup f24 = some ⟨oc24, od24, .func (PySem.W.fnOf "_law_ports" "_law_ports" (defArgs s__law_ports) (defBody s__law_ports) (defScope s__law_ports) .none kV24 dc24 pm24 an24 cd24 ct24), sl24⟩) (c24 : PySem.W.codeIn K cd24 "_law_ports" = true) (k24 : PySem.W.keepIn K (.ref f24) = true)
    (l25 : K.lookup f25 = some ⟨oc25, od25, .func (PySem.W.fnOf "closeness" "Rule.closeness" (defArgs s_Rule_closeness) (defBody s_Rule_closeness) (defScope s_Rule_closeness) .none kV25 dc25 pm25 an25 cd25 ct25), sl25⟩) (c25 : PySem.W.codeIn K cd25 "Rule.closeness" = true) (k25 : PySem.W.keepIn K (.ref f25) = true)
    (a26 : PySem.W.nsIn K mainGlobals "near_of" = some (some (.ref f26)))
    (l26 : K.lookup f26 = some ⟨oc26, od26, .func (PySem.W.fnOf "near_of" "near_of" (defArgs s_near_of) (defBody s_near_of) (defScope s_near_of) .none kV26 dc26 pm26 an26 cd26 ct26), sl26⟩) (c26 : PySem.W.codeIn K cd26 "near_of" = true) (k26 : PySem.W.keepIn K (.ref f26) = true)
    (a27 : PySem.W.nsIn K mainGlobals "_law_some" = some (some (.ref f27)))
    (l27 : K.lookup f27 = some ⟨oc27, od27, .func (PySem.W.fnOf "_law_some" "_law_some" (defArgs s__law_some) (defBody s__law_some) (defScope s__law_some) .none kV27 dc27 pm27 an27 cd27 ct27), sl27⟩) (c27 : PySem.W.codeIn K cd27 "_law_some" = true) (k27 : PySem.W.keepIn K (.ref f27) = true)
    {cc28 cda28 : Addr} {ccl28 cl28 : Value} {cdd28 cld28 : Option Addr} {vs28 : Array Value} {ccs28 csl28 : Array (Option Value)} {file28 : Str} {tf28 : Tok}
    (l28 : K.lookup f28 = some ⟨oc28, od28, .func (PySem.W.fnX "__init__" "HostPattern.__init__" (defArgs s_HostPattern_init) (defBody s_HostPattern_init) (defScope s_HostPattern_init) [("__class__", cc28)] .none kV28 dc28 pm28 an28 (.ref cda28) ct28), sl28⟩) (c28 : PySem.W.codeIn K (.ref cda28) "HostPattern.__init__" = true) (k28 : PySem.W.keepIn K (.ref f28) = true)
    (lc28 : K.lookup cda28 = some ⟨ccl28, cdd28, .fields vs28, ccs28⟩) (hv28 : vs28[2]? = some (.str file28 tf28)) (hf28 : ((l.prog.main.file : Str) == file28) = true) (hcc28 : K.lookup cc28 = some ⟨cl28, cld28, .cell (some (.ref K_HostPattern)), csl28⟩) (hcl28 : PySem.W.isClsIn K K_HostPattern = true) (hm28 : PySem.W.mroIn K K_HostPattern (.ref K_HostPattern) = some true) (tb28 : PySem.W.typeIn K (.ref f7) = some (.type "function")) (is28 : PySem.W.ks_superIn K K_HostPattern K_HostPattern "__init__" = some (some (.ref f7)))
    {cc29 cda29 : Addr} {ccl29 cl29 : Value} {cdd29 cld29 : Option Addr} {vs29 : Array Value} {ccs29 csl29 : Array (Option Value)} {file29 : Str} {tf29 : Tok}
    (l29 : K.lookup f29 = some ⟨oc29, od29, .func (PySem.W.fnX "__init__" "PathPattern.__init__" (defArgs s_PathPattern_init) (defBody s_PathPattern_init) (defScope s_PathPattern_init) [("__class__", cc29)] .none kV29 dc29 pm29 an29 (.ref cda29) ct29), sl29⟩) (c29 : PySem.W.codeIn K (.ref cda29) "PathPattern.__init__" = true) (k29 : PySem.W.keepIn K (.ref f29) = true)
    (lc29 : K.lookup cda29 = some ⟨ccl29, cdd29, .fields vs29, ccs29⟩) (hv29 : vs29[2]? = some (.str file29 tf29)) (hf29 : ((l.prog.main.file : Str) == file29) = true) (hcc29 : K.lookup cc29 = some ⟨cl29, cld29, .cell (some (.ref K_PathPattern)), csl29⟩) (hcl29 : PySem.W.isClsIn K K_PathPattern = true) (hm29 : PySem.W.mroIn K K_PathPattern (.ref K_PathPattern) = some true) (tb29 : PySem.W.typeIn K (.ref f7) = some (.type "function")) (is29 : PySem.W.ks_superIn K K_PathPattern K_PathPattern "__init__" = some (some (.ref f7)))
    (a30 : PySem.W.nsIn K mainGlobals "_law_host_part" = some (some (.ref f30)))
    (l30 : K.lookup f30 = some ⟨oc30, od30, .func (PySem.W.fnOf "_law_host_part" "_law_host_part" (defArgs s__law_host_part) (defBody s__law_host_part) (defScope s__law_host_part) .none kV30 dc30 pm30 an30 cd30 ct30), sl30⟩) (c30 : PySem.W.codeIn K cd30 "_law_host_part" = true) (k30 : PySem.W.keepIn K (.ref f30) = true)
    (a31 : PySem.W.nsIn K mainGlobals "_law_path_items" = some (some (.ref f31)))
    (l31 : K.lookup f31 = some ⟨oc31, od31, .func (PySem.W.fnOf "_law_path_items" "_law_path_items" (defArgs s__law_path_items) (defBody s__law_path_items) (defScope s__law_path_items) .none kV31 dc31 pm31 an31 cd31 ct31), sl31⟩) (c31 : PySem.W.codeIn K cd31 "_law_path_items" = true) (k31 : PySem.W.keepIn K (.ref f31) = true)
    (a32 : PySem.W.nsIn K mainGlobals "_law_rule" = some (some (.ref f32)))
    (l32 : K.lookup f32 = some ⟨oc32, od32, .func (PySem.W.fnOf "_law_rule" "_law_rule" (defArgs s__law_rule) (defBody s__law_rule) (defScope s__law_rule) .none kV32 dc32 pm32 an32 cd32 ct32), sl32⟩) (c32 : PySem.W.codeIn K cd32 "_law_rule" = true) (k32 : PySem.W.keepIn K (.ref f32) = true)
    (a33 : PySem.W.nsIn K mainGlobals "_law_is" = some (some (.ref f33)))
    (l33 : K.lookup f33 = some ⟨oc33, od33, .func (PySem.W.fnOf "_law_is" "_law_is" (defArgs s__law_is) (defBody s__law_is) (defScope s__law_is) .none kV33 dc33 pm33 an33 cd33 ct33), sl33⟩) (c33 : PySem.W.codeIn K cd33 "_law_is" = true) (k33 : PySem.W.keepIn K (.ref f33) = true)
    (l34 : K.lookup f34 = some ⟨oc34, od34, .func (PySem.W.fnOf "__init__" "Rule.__init__" (defArgs s_Rule_init) (defBody s_Rule_init) (defScope s_Rule_init) .none kV34 dc34 pm34 an34 cd34 ct34), sl34⟩) (c34 : PySem.W.codeIn K cd34 "Rule.__init__" = true) (k34 : PySem.W.keepIn K (.ref f34) = true)
    (a35 : PySem.W.nsIn K mainGlobals "law" = some (some (.ref f35)))
    (l35 : K.lookup f35 = some ⟨oc35, od35, .func (PySem.W.fnOf "law" "law" (defArgs s_law) (defBody s_law) (defScope s_law) .none kV35 dc35 pm35 an35 cd35 ct35), sl35⟩) (c35 : PySem.W.codeIn K cd35 "law" = true) (k35 : PySem.W.keepIn K (.ref f35) = true)
    {Cx_BadHost fx_BadHost Nx_BadHost : Addr} {nm_BadHost q_BadHost : Str} {bs_BadHost sub_BadHost : List Value} {sn_BadHost : List Str} {ab_BadHost : Bool} {col_BadHost : Option Bool} {dd_BadHost odx_BadHost anx_BadHost : Option Addr} {m0_BadHost m1_BadHost m2_BadHost m3_BadHost m5_BadHost : Option Value} {slx_BadHost : Array (Option Value)} {ocx_BadHost dcx_BadHost pmx_BadHost cdx_BadHost ctx_BadHost : Value}
    (aC_BadHost : PySem.W.nsIn K mainGlobals "BadHost" = some (some (.ref Cx_BadHost))) (xL_BadHost : K.lookup Cx_BadHost = some (excClassObj nm_BadHost q_BadHost Cx_BadHost Nx_BadHost bs_BadHost [.type "ValueError", .type "Exception", .type "BaseException", .type "object"] true sn_BadHost sub_BadHost ab_BadHost col_BadHost dd_BadHost m0_BadHost m1_BadHost m2_BadHost m3_BadHost m5_BadHost "ValueError.__new__"))
    (sa_BadHost : PySem.W.findIn K (.ref Cx_BadHost) "__setattr__" = some (some (.builtin "object.__setattr__"))) (ga_BadHost : PySem.W.findIn K (.ref Cx_BadHost) "__getattribute__" = some (some (.builtin "BaseException.__getattribute__"))) (gg_BadHost : PySem.W.findIn K (.ref Cx_BadHost) "__getattr__" = some none) (nb_BadHost : PySem.W.findIn K (.ref Cx_BadHost) "host" = some none)
    (ai_BadHost : PySem.W.findIn K (.ref Cx_BadHost) "__init__" = some (some (.ref fx_BadHost))) (ti_BadHost : PySem.W.typeIn K (.ref fx_BadHost) = some (.type "function"))
    (li_BadHost : K.lookup fx_BadHost = some ⟨ocx_BadHost, odx_BadHost, .func (PySem.W.fnOf "__init__" "BadHost.__init__" (PySem.OwnX.iA "host" ⟨7, 17, 7, 21⟩ ⟨7, 23, 7, 27⟩) (PySem.OwnX.iB "host" ⟨8, 8, 8, 12⟩ ⟨8, 8, 8, 17⟩ ⟨8, 20, 8, 24⟩ ⟨8, 8, 8, 24⟩) (PySem.OwnX.iS "host") .none .none dcx_BadHost pmx_BadHost anx_BadHost cdx_BadHost ctx_BadHost), slx_BadHost⟩) (ci_BadHost : PySem.W.codeIn K cdx_BadHost "BadHost.__init__" = true)
    (kC_BadHost : PySem.W.keepIn K (.ref Cx_BadHost) = true) (eC_BadHost : PySem.W.subIn K (.ref Cx_BadHost) (.type "BaseException") = some true) (tC_BadHost : PySem.W.typeIn K (.ref Cx_BadHost) = some (.type "type")) (hC_BadHost : PySem.W.hasDictIn K Cx_BadHost = true) (iC_BadHost : PySem.W.isClsIn K Cx_BadHost = true) (sC_BadHost : PySem.W.subIn K (.ref Cx_BadHost) (.ref Cx_BadHost) = some true)
    {Cx_BadPage fx_BadPage Nx_BadPage : Addr} {nm_BadPage q_BadPage : Str} {bs_BadPage sub_BadPage : List Value} {sn_BadPage : List Str} {ab_BadPage : Bool} {col_BadPage : Option Bool} {dd_BadPage odx_BadPage anx_BadPage : Option Addr} {m0_BadPage m1_BadPage m2_BadPage m3_BadPage m5_BadPage : Option Value} {slx_BadPage : Array (Option Value)} {ocx_BadPage dcx_BadPage pmx_BadPage cdx_BadPage ctx_BadPage : Value}
    (aC_BadPage : PySem.W.nsIn K mainGlobals "BadPage" = some (some (.ref Cx_BadPage))) (xL_BadPage : K.lookup Cx_BadPage = some (excClassObj nm_BadPage q_BadPage Cx_BadPage Nx_BadPage bs_BadPage [.type "ValueError", .type "Exception", .type "BaseException", .type "object"] true sn_BadPage sub_BadPage ab_BadPage col_BadPage dd_BadPage m0_BadPage m1_BadPage m2_BadPage m3_BadPage m5_BadPage "ValueError.__new__"))
    (sa_BadPage : PySem.W.findIn K (.ref Cx_BadPage) "__setattr__" = some (some (.builtin "object.__setattr__"))) (ga_BadPage : PySem.W.findIn K (.ref Cx_BadPage) "__getattribute__" = some (some (.builtin "BaseException.__getattribute__"))) (gg_BadPage : PySem.W.findIn K (.ref Cx_BadPage) "__getattr__" = some none) (nb_BadPage : PySem.W.findIn K (.ref Cx_BadPage) "page" = some none)
    (ai_BadPage : PySem.W.findIn K (.ref Cx_BadPage) "__init__" = some (some (.ref fx_BadPage))) (ti_BadPage : PySem.W.typeIn K (.ref fx_BadPage) = some (.type "function"))
    (li_BadPage : K.lookup fx_BadPage = some ⟨ocx_BadPage, odx_BadPage, .func (PySem.W.fnOf "__init__" "BadPage.__init__" (PySem.OwnX.iA "page" ⟨23, 17, 23, 21⟩ ⟨23, 23, 23, 27⟩) (PySem.OwnX.iB "page" ⟨24, 8, 24, 12⟩ ⟨24, 8, 24, 17⟩ ⟨24, 20, 24, 24⟩ ⟨24, 8, 24, 24⟩) (PySem.OwnX.iS "page") .none .none dcx_BadPage pmx_BadPage anx_BadPage cdx_BadPage ctx_BadPage), slx_BadPage⟩) (ci_BadPage : PySem.W.codeIn K cdx_BadPage "BadPage.__init__" = true)
    (kC_BadPage : PySem.W.keepIn K (.ref Cx_BadPage) = true) (eC_BadPage : PySem.W.subIn K (.ref Cx_BadPage) (.type "BaseException") = some true) (tC_BadPage : PySem.W.typeIn K (.ref Cx_BadPage) = some (.type "type")) (hC_BadPage : PySem.W.hasDictIn K Cx_BadPage = true) (iC_BadPage : PySem.W.isClsIn K Cx_BadPage = true) (sC_BadPage : PySem.W.subIn K (.ref Cx_BadPage) (.ref Cx_BadPage) = some true)
    {Cx_BadPath fx_BadPath Nx_BadPath : Addr} {nm_BadPath q_BadPath : Str} {bs_BadPath sub_BadPath : List Value} {sn_BadPath : List Str} {ab_BadPath : Bool} {col_BadPath : Option Bool} {dd_BadPath odx_BadPath anx_BadPath : Option Addr} {m0_BadPath m1_BadPath m2_BadPath m3_BadPath m5_BadPath : Option Value} {slx_BadPath : Array (Option Value)} {ocx_BadPath dcx_BadPath pmx_BadPath cdx_BadPath ctx_BadPath : Value}
    (aC_BadPath : PySem.W.nsIn K mainGlobals "BadPath" = some (some (.ref Cx_BadPath))) (xL_BadPath : K.lookup Cx_BadPath = some (excClassObj nm_BadPath q_BadPath Cx_BadPath Nx_BadPath bs_BadPath [.type "ValueError", .type "Exception", .type "BaseException", .type "object"] true sn_BadPath sub_BadPath ab_BadPath col_BadPath dd_BadPath m0_BadPath m1_BadPath m2_BadPath m3_BadPath m5_BadPath "ValueError.__new__"))
    (sa_BadPath : PySem.W.findIn K (.ref Cx_BadPath) "__setattr__" = some (some (.builtin "object.__setattr__"))) (ga_BadPath : PySem.W.findIn K (.ref Cx_BadPath) "__getattribute__" = some (some (.builtin "BaseException.__getattribute__"))) (gg_BadPath : PySem.W.findIn K (.ref Cx_BadPath) "__getattr__" = some none) (nb_BadPath : PySem.W.findIn K (.ref Cx_BadPath) "path" = some none)
    (ai_BadPath : PySem.W.findIn K (.ref Cx_BadPath) "__init__" = some (some (.ref fx_BadPath))) (ti_BadPath : PySem.W.typeIn K (.ref fx_BadPath) = some (.type "function"))
    (li_BadPath : K.lookup fx_BadPath = some ⟨ocx_BadPath, odx_BadPath, .func (PySem.W.fnOf "__init__" "BadPath.__init__" (PySem.OwnX.iA "path" ⟨11, 17, 11, 21⟩ ⟨11, 23, 11, 27⟩) (PySem.OwnX.iB "path" ⟨12, 8, 12, 12⟩ ⟨12, 8, 12, 17⟩ ⟨12, 20, 12, 24⟩ ⟨12, 8, 12, 24⟩) (PySem.OwnX.iS "path") .none .none dcx_BadPath pmx_BadPath anx_BadPath cdx_BadPath ctx_BadPath), slx_BadPath⟩) (ci_BadPath : PySem.W.codeIn K cdx_BadPath "BadPath.__init__" = true)
    (kC_BadPath : PySem.W.keepIn K (.ref Cx_BadPath) = true) (eC_BadPath : PySem.W.subIn K (.ref Cx_BadPath) (.type "BaseException") = some true) (tC_BadPath : PySem.W.typeIn K (.ref Cx_BadPath) = some (.type "type")) (hC_BadPath : PySem.W.hasDictIn K Cx_BadPath = true) (iC_BadPath : PySem.W.isClsIn K Cx_BadPath = true) (sC_BadPath : PySem.W.subIn K (.ref Cx_BadPath) (.ref Cx_BadPath) = some true)
    {Cx_BadPattern fx_BadPattern Nx_BadPattern : Addr} {nm_BadPattern q_BadPattern : Str} {bs_BadPattern sub_BadPattern : List Value} {sn_BadPattern : List Str} {ab_BadPattern : Bool} {col_BadPattern : Option Bool} {dd_BadPattern odx_BadPattern anx_BadPattern : Option Addr} {m0_BadPattern m1_BadPattern m2_BadPattern m3_BadPattern m5_BadPattern : Option Value} {slx_BadPattern : Array (Option Value)} {ocx_BadPattern dcx_BadPattern pmx_BadPattern cdx_BadPattern ctx_BadPattern : Value}
    (aC_BadPattern : PySem.W.nsIn K mainGlobals "BadPattern" = some (some (.ref Cx_BadPattern))) (xL_BadPattern : K.lookup Cx_BadPattern = some (excClassObj nm_BadPattern q_BadPattern Cx_BadPattern Nx_BadPattern bs_BadPattern [.type "ValueError", .type "Exception", .type "BaseException", .type "object"] true sn_BadPattern sub_BadPattern ab_BadPattern col_BadPattern dd_BadPattern m0_BadPattern m1_BadPattern m2_BadPattern m3_BadPattern m5_BadPattern "ValueError.__new__"))
    (sa_BadPattern : PySem.W.findIn K (.ref Cx_BadPattern) "__setattr__" = some (some (.builtin "object.__setattr__"))) (ga_BadPattern : PySem.W.findIn K (.ref Cx_BadPattern) "__getattribute__" = some (some (.builtin "BaseException.__getattribute__"))) (gg_BadPattern : PySem.W.findIn K (.ref Cx_BadPattern) "__getattr__" = some none) (nb_BadPattern : PySem.W.findIn K (.ref Cx_BadPattern) "pattern" = some none)
    (ai_BadPattern : PySem.W.findIn K (.ref Cx_BadPattern) "__init__" = some (some (.ref fx_BadPattern))) (ti_BadPattern : PySem.W.typeIn K (.ref fx_BadPattern) = some (.type "function"))
    (li_BadPattern : K.lookup fx_BadPattern = some ⟨ocx_BadPattern, odx_BadPattern, .func (PySem.W.fnOf "__init__" "BadPattern.__init__" (PySem.OwnX.iA "pattern" ⟨27, 17, 27, 21⟩ ⟨27, 23, 27, 30⟩) (PySem.OwnX.iB "pattern" ⟨28, 8, 28, 12⟩ ⟨28, 8, 28, 20⟩ ⟨28, 23, 28, 30⟩ ⟨28, 8, 28, 30⟩) (PySem.OwnX.iS "pattern") .none .none dcx_BadPattern pmx_BadPattern anx_BadPattern cdx_BadPattern ctx_BadPattern), slx_BadPattern⟩) (ci_BadPattern : PySem.W.codeIn K cdx_BadPattern "BadPattern.__init__" = true)
    (kC_BadPattern : PySem.W.keepIn K (.ref Cx_BadPattern) = true) (eC_BadPattern : PySem.W.subIn K (.ref Cx_BadPattern) (.type "BaseException") = some true) (tC_BadPattern : PySem.W.typeIn K (.ref Cx_BadPattern) = some (.type "type")) (hC_BadPattern : PySem.W.hasDictIn K Cx_BadPattern = true) (iC_BadPattern : PySem.W.isClsIn K Cx_BadPattern = true) (sC_BadPattern : PySem.W.subIn K (.ref Cx_BadPattern) (.ref Cx_BadPattern) = some true)
    {Cx_BadPort fx_BadPort Nx_BadPort : Addr} {nm_BadPort q_BadPort : Str} {bs_BadPort sub_BadPort : List Value} {sn_BadPort : List Str} {ab_BadPort : Bool} {col_BadPort : Option Bool} {dd_BadPort odx_BadPort anx_BadPort : Option Addr} {m0_BadPort m1_BadPort m2_BadPort m3_BadPort m5_BadPort : Option Value} {slx_BadPort : Array (Option Value)} {ocx_BadPort dcx_BadPort pmx_BadPort cdx_BadPort ctx_BadPort : Value}
    (aC_BadPort : PySem.W.nsIn K mainGlobals "BadPort" = some (some (.ref Cx_BadPort))) (xL_BadPort : K.lookup Cx_BadPort = some (excClassObj nm_BadPort q_BadPort Cx_BadPort Nx_BadPort bs_BadPort [.type "ValueError", .type "Exception", .type "BaseException", .type "object"] true sn_BadPort sub_BadPort ab_BadPort col_BadPort dd_BadPort m0_BadPort m1_BadPort m2_BadPort m3_BadPort m5_BadPort "ValueError.__new__"))
    (sa_BadPort : PySem.W.findIn K (.ref Cx_BadPort) "__setattr__" = some (some (.builtin "object.__setattr__"))) (ga_BadPort : PySem.W.findIn K (.ref Cx_BadPort) "__getattribute__" = some (some (.builtin "BaseException.__getattribute__"))) (gg_BadPort : PySem.W.findIn K (.ref Cx_BadPort) "__getattr__" = some none) (nb_BadPort : PySem.W.findIn K (.ref Cx_BadPort) "port" = some none)
    (ai_BadPort : PySem.W.findIn K (.ref Cx_BadPort) "__init__" = some (some (.ref fx_BadPort))) (ti_BadPort : PySem.W.typeIn K (.ref fx_BadPort) = some (.type "function"))
    (li_BadPort : K.lookup fx_BadPort = some ⟨ocx_BadPort, odx_BadPort, .func (PySem.W.fnOf "__init__" "BadPort.__init__" (PySem.OwnX.iA "port" ⟨19, 17, 19, 21⟩ ⟨19, 23, 19, 27⟩) (PySem.OwnX.iB "port" ⟨20, 8, 20, 12⟩ ⟨20, 8, 20, 17⟩ ⟨20, 20, 20, 24⟩ ⟨20, 8, 20, 24⟩) (PySem.OwnX.iS "port") .none .none dcx_BadPort pmx_BadPort anx_BadPort cdx_BadPort ctx_BadPort), slx_BadPort⟩) (ci_BadPort : PySem.W.codeIn K cdx_BadPort "BadPort.__init__" = true)
    (kC_BadPort : PySem.W.keepIn K (.ref Cx_BadPort) = true) (eC_BadPort : PySem.W.subIn K (.ref Cx_BadPort) (.type "BaseException") = some true) (tC_BadPort : PySem.W.typeIn K (.ref Cx_BadPort) = some (.type "type")) (hC_BadPort : PySem.W.hasDictIn K Cx_BadPort = true) (iC_BadPort : PySem.W.isClsIn K Cx_BadPort = true) (sC_BadPort : PySem.W.subIn K (.ref Cx_BadPort) (.ref Cx_BadPort) = some true)
    {Cx_BadRule fx_BadRule Nx_BadRule : Addr} {nm_BadRule q_BadRule : Str} {bs_BadRule sub_BadRule : List Value} {sn_BadRule : List Str} {ab_BadRule : Bool} {col_BadRule : Option Bool} {dd_BadRule odx_BadRule anx_BadRule : Option Addr} {m0_BadRule m1_BadRule m2_BadRule m3_BadRule m5_BadRule : Option Value} {slx_BadRule : Array (Option Value)} {ocx_BadRule dcx_BadRule pmx_BadRule cdx_BadRule ctx_BadRule : Value}
    (aC_BadRule : PySem.W.nsIn K mainGlobals "BadRule" = some (some (.ref Cx_BadRule))) (xL_BadRule : K.lookup Cx_BadRule = some (excClassObj nm_BadRule q_BadRule Cx_BadRule Nx_BadRule bs_BadRule [.type "ValueError", .type "Exception", .type "BaseException", .type "object"] true sn_BadRule sub_BadRule ab_BadRule col_BadRule dd_BadRule m0_BadRule m1_BadRule m2_BadRule m3_BadRule m5_BadRule "ValueError.__new__"))
    (sa_BadRule : PySem.W.findIn K (.ref Cx_BadRule) "__setattr__" = some (some (.builtin "object.__setattr__"))) (ga_BadRule : PySem.W.findIn K (.ref Cx_BadRule) "__getattribute__" = some (some (.builtin "BaseException.__getattribute__"))) (gg_BadRule : PySem.W.findIn K (.ref Cx_BadRule) "__getattr__" = some none) (nb_BadRule : PySem.W.findIn K (.ref Cx_BadRule) "rule" = some none)
    (ai_BadRule : PySem.W.findIn K (.ref Cx_BadRule) "__init__" = some (some (.ref fx_BadRule))) (ti_BadRule : PySem.W.typeIn K (.ref fx_BadRule) = some (.type "function"))
    (li_BadRule : K.lookup fx_BadRule = some ⟨ocx_BadRule, odx_BadRule, .func (PySem.W.fnOf "__init__" "BadRule.__init__" (PySem.OwnX.iA "rule" ⟨31, 17, 31, 21⟩ ⟨31, 23, 31, 27⟩) (PySem.OwnX.iB "rule" ⟨32, 8, 32, 12⟩ ⟨32, 8, 32, 17⟩ ⟨32, 20, 32, 24⟩ ⟨32, 8, 32, 24⟩) (PySem.OwnX.iS "rule") .none .none dcx_BadRule pmx_BadRule anx_BadRule cdx_BadRule ctx_BadRule), slx_BadRule⟩) (ci_BadRule : PySem.W.codeIn K cdx_BadRule "BadRule.__init__" = true)
    (kC_BadRule : PySem.W.keepIn K (.ref Cx_BadRule) = true) (eC_BadRule : PySem.W.subIn K (.ref Cx_BadRule) (.type "BaseException") = some true) (tC_BadRule : PySem.W.typeIn K (.ref Cx_BadRule) = some (.type "type")) (hC_BadRule : PySem.W.hasDictIn K Cx_BadRule = true) (iC_BadRule : PySem.W.isClsIn K Cx_BadRule = true) (sC_BadRule : PySem.W.subIn K (.ref Cx_BadRule) (.ref Cx_BadRule) = some true)
    {Cx_BadScheme fx_BadScheme Nx_BadScheme : Addr} {nm_BadScheme q_BadScheme : Str} {bs_BadScheme sub_BadScheme : List Value} {sn_BadScheme : List Str} {ab_BadScheme : Bool} {col_BadScheme : Option Bool} {dd_BadScheme odx_BadScheme anx_BadScheme : Option Addr} {m0_BadScheme m1_BadScheme m2_BadScheme m3_BadScheme m5_BadScheme : Option Value} {slx_BadScheme : Array (Option Value)} {ocx_BadScheme dcx_BadScheme pmx_BadScheme cdx_BadScheme ctx_BadScheme : Value}
    (aC_BadScheme : PySem.W.nsIn K mainGlobals "BadScheme" = some (some (.ref Cx_BadScheme))) (xL_BadScheme : K.lookup Cx_BadScheme = some (excClassObj nm_BadScheme q_BadScheme Cx_BadScheme Nx_BadScheme bs_BadScheme [.type "ValueError", .type "Exception", .type "BaseException", .type "object"] true sn_BadScheme sub_BadScheme ab_BadScheme col_BadScheme dd_BadScheme m0_BadScheme m1_BadScheme m2_BadScheme m3_BadScheme m5_BadScheme "ValueError.__new__"))
    (sa_BadScheme : PySem.W.findIn K (.ref Cx_BadScheme) "__setattr__" = some (some (.builtin "object.__setattr__"))) (ga_BadScheme : PySem.W.findIn K (.ref Cx_BadScheme) "__getattribute__" = some (some (.builtin "BaseException.__getattribute__"))) (gg_BadScheme : PySem.W.findIn K (.ref Cx_BadScheme) "__getattr__" = some none) (nb_BadScheme : PySem.W.findIn K (.ref Cx_BadScheme) "scheme" = some none)
    (ai_BadScheme : PySem.W.findIn K (.ref Cx_BadScheme) "__init__" = some (some (.ref fx_BadScheme))) (ti_BadScheme : PySem.W.typeIn K (.ref fx_BadScheme) = some (.type "function"))
    (li_BadScheme : K.lookup fx_BadScheme = some ⟨ocx_BadScheme, odx_BadScheme, .func (PySem.W.fnOf "__init__" "BadScheme.__init__" (PySem.OwnX.iA "scheme" ⟨15, 17, 15, 21⟩ ⟨15, 23, 15, 29⟩) (PySem.OwnX.iB "scheme" ⟨16, 8, 16, 12⟩ ⟨16, 8, 16, 19⟩ ⟨16, 22, 16, 28⟩ ⟨16, 8, 16, 28⟩) (PySem.OwnX.iS "scheme") .none .none dcx_BadScheme pmx_BadScheme anx_BadScheme cdx_BadScheme ctx_BadScheme), slx_BadScheme⟩) (ci_BadScheme : PySem.W.codeIn K cdx_BadScheme "BadScheme.__init__" = true)
    (kC_BadScheme : PySem.W.keepIn K (.ref Cx_BadScheme) = true) (eC_BadScheme : PySem.W.subIn K (.ref Cx_BadScheme) (.type "BaseException") = some true) (tC_BadScheme : PySem.W.typeIn K (.ref Cx_BadScheme) = some (.type "type")) (hC_BadScheme : PySem.W.hasDictIn K Cx_BadScheme = true) (iC_BadScheme : PySem.W.isClsIn K Cx_BadScheme = true) (sC_BadScheme : PySem.W.subIn K (.ref Cx_BadScheme) (.ref Cx_BadScheme) = some true)
    (kn_BadHost_BadHost : PySem.W.subIn K (.ref Cx_BadHost) (.ref Cx_BadHost) = some true)
    (kn_BadPage_BadHost : PySem.W.subIn K (.ref Cx_BadPage) (.ref Cx_BadHost) = some false)
    (kn_BadPath_BadHost : PySem.W.subIn K (.ref Cx_BadPath) (.ref Cx_BadHost) = some false)
    (kn_BadPattern_BadHost : PySem.W.subIn K (.ref Cx_BadPattern) (.ref Cx_BadHost) = some false)
    (kn_BadPort_BadHost : PySem.W.subIn K (.ref Cx_BadPort) (.ref Cx_BadHost) = some false)
    (kn_BadRule_BadHost : PySem.W.subIn K (.ref Cx_BadRule) (.ref Cx_BadHost) = some false)
    (kn_BadScheme_BadHost : PySem.W.subIn K (.ref Cx_BadScheme) (.ref Cx_BadHost) = some false)
    (kn_BadHost_BadPage : PySem.W.subIn K (.ref Cx_BadHost) (.ref Cx_BadPage) = some false)
    (kn_BadPage_BadPage : PySem.W.subIn K (.ref Cx_BadPage) (.ref Cx_BadPage) = some true)
    (kn_BadPath_BadPage : PySem.W.subIn K (.ref Cx_BadPath) (.ref Cx_BadPage) = some false)
    (kn_BadPattern_BadPage : PySem.W.subIn K (.ref Cx_BadPattern) (.ref Cx_BadPage) = some false)
    (kn_BadPort_BadPage : PySem.W.subIn K (.ref Cx_BadPort) (.ref Cx_BadPage) = some false)
    (kn_BadRule_BadPage : PySem.W.subIn K (.ref Cx_BadRule) (.ref Cx_BadPage) = some false)
    (kn_BadScheme_BadPage : PySem.W.subIn K (.ref Cx_BadScheme) (.ref Cx_BadPage) = some false)
    (kn_BadHost_BadPath : PySem.W.subIn K (.ref Cx_BadHost) (.ref Cx_BadPath) = some false)
    (kn_BadPage_BadPath : PySem.W.subIn K (.ref Cx_BadPage) (.ref Cx_BadPath) = some false)
    (kn_BadPath_BadPath : PySem.W.subIn K (.ref Cx_BadPath) (.ref Cx_BadPath) = some true)
    (kn_BadPattern_BadPath : PySem.W.subIn K (.ref Cx_BadPattern) (.ref Cx_BadPath) = some false)
    (kn_BadPort_BadPath : PySem.W.subIn K (.ref Cx_BadPort) (.ref Cx_BadPath) = some false)
    (kn_BadRule_BadPath : PySem.W.subIn K (.ref Cx_BadRule) (.ref Cx_BadPath) = some false)
    (kn_BadScheme_BadPath : PySem.W.subIn K (.ref Cx_BadScheme) (.ref Cx_BadPath) = some false)
    (kn_BadHost_BadPattern : PySem.W.subIn K (.ref Cx_BadHost) (.ref Cx_BadPattern) = some false)
    (kn_BadPage_BadPattern : PySem.W.subIn K (.ref Cx_BadPage) (.ref Cx_BadPattern) = some false)
    (kn_BadPath_BadPattern : PySem.W.subIn K (.ref Cx_BadPath) (.ref Cx_BadPattern) = some false)
    (kn_BadPattern_BadPattern : PySem.W.subIn K (.ref Cx_BadPattern) (.ref Cx_BadPattern) = some true)
    (kn_BadPort_BadPattern : PySem.W.subIn K (.ref Cx_BadPort) (.ref Cx_BadPattern) = some false)
    (kn_BadRule_BadPattern : PySem.W.subIn K (.ref Cx_BadRule) (.ref Cx_BadPattern) = some false)
    (kn_BadScheme_BadPattern : PySem.W.subIn K (.ref Cx_BadScheme) (.ref Cx_BadPattern) = some false)
    (kn_BadHost_BadPort : PySem.W.subIn K (.ref Cx_BadHost) (.ref Cx_BadPort) = some false)
    (kn_BadPage_BadPort : PySem.W.subIn K (.ref Cx_BadPage) (.ref Cx_BadPort) = some false)
    (kn_BadPath_BadPort : PySem.W.subIn K (.ref Cx_BadPath) (.ref Cx_BadPort) = some false)
    (kn_BadPattern_BadPort : PySem.W.subIn K (.ref Cx_BadPattern) (.ref Cx_BadPort) = some false)
    (kn_BadPort_BadPort : PySem.W.subIn K (.ref Cx_BadPort) (.ref Cx_BadPort) = some true)
    (kn_BadRule_BadPort : PySem.W.subIn K (.ref Cx_BadRule) (.ref Cx_BadPort) = some false)
    (kn_BadScheme_BadPort : PySem.W.subIn K (.ref Cx_BadScheme) (.ref Cx_BadPort) = some false)
    (kn_BadHost_BadRule : PySem.W.subIn K (.ref Cx_BadHost) (.ref Cx_BadRule) = some false)
    (kn_BadPage_BadRule : PySem.W.subIn K (.ref Cx_BadPage) (.ref Cx_BadRule) = some false)
    (kn_BadPath_BadRule : PySem.W.subIn K (.ref Cx_BadPath) (.ref Cx_BadRule) = some false)
    (kn_BadPattern_BadRule : PySem.W.subIn K (.ref Cx_BadPattern) (.ref Cx_BadRule) = some false)
    (kn_BadPort_BadRule : PySem.W.subIn K (.ref Cx_BadPort) (.ref Cx_BadRule) = some false)
    (kn_BadRule_BadRule : PySem.W.subIn K (.ref Cx_BadRule) (.ref Cx_BadRule) = some true)
    (kn_BadScheme_BadRule : PySem.W.subIn K (.ref Cx_BadScheme) (.ref Cx_BadRule) = some false)
    (kn_BadHost_BadScheme : PySem.W.subIn K (.ref Cx_BadHost) (.ref Cx_BadScheme) = some false)
    (kn_BadPage_BadScheme : PySem.W.subIn K (.ref Cx_BadPage) (.ref Cx_BadScheme) = some false)
    (kn_BadPath_BadScheme : PySem.W.subIn K (.ref Cx_BadPath) (.ref Cx_BadScheme) = some false)
    (kn_BadPattern_BadScheme : PySem.W.subIn K (.ref Cx_BadPattern) (.ref Cx_BadScheme) = some false)
    (kn_BadPort_BadScheme : PySem.W.subIn K (.ref Cx_BadPort) (.ref Cx_BadScheme) = some false)
    (kn_BadRule_BadScheme : PySem.W.subIn K (.ref Cx_BadRule) (.ref Cx_BadScheme) = some false)
    (kn_BadScheme_BadScheme : PySem.W.subIn K (.ref Cx_BadScheme) (.ref Cx_BadScheme) = some true)
    (z_abs : PySem.W.nsIn K mainGlobals "abs" = some none)
    (z_enumerate : PySem.W.nsIn K mainGlobals "enumerate" = some none)
    (z_int : PySem.W.nsIn K mainGlobals "int" = some none)
    (z_isinstance : PySem.W.nsIn K mainGlobals "isinstance" = some none)
    (z_len : PySem.W.nsIn K mainGlobals "len" = some none)
    (z_list : PySem.W.nsIn K mainGlobals "list" = some none)
    (z_max : PySem.W.nsIn K mainGlobals "max" = some none)
    (z_min : PySem.W.nsIn K mainGlobals "min" = some none)
    (z_range : PySem.W.nsIn K mainGlobals "range" = some none)
    (z_repr : PySem.W.nsIn K mainGlobals "repr" = some none)
    (z_str : PySem.W.nsIn K mainGlobals "str" = some none)
    (z_tuple : PySem.W.nsIn K mainGlobals "tuple" = some none)
    {tc_ALL_PORTS : Addr} {oc_ALL_PORTS : Option Addr} {nc_ALL_PORTS : Nat} {uc_ALL_PORTS : Array (Option Value)} {k_ALL_PORTS_0 k_ALL_PORTS_1 : Tok} (g_ALL_PORTS : PySem.W.nsIn K mainGlobals "ALL_PORTS" = some (some (.ref tc_ALL_PORTS))) (gl_ALL_PORTS : K.lookup tc_ALL_PORTS = some ⟨.type "tuple", oc_ALL_PORTS, .seq (List.toArray [.int 1 k_ALL_PORTS_0, .int 65535 k_ALL_PORTS_1]) nc_ALL_PORTS, uc_ALL_PORTS⟩)
    {t_CHARACTERS : Tok} (g_CHARACTERS : PySem.W.nsIn K mainGlobals "CHARACTERS" = some (some (.str "0123456789abcdefghijklmnopqrstuvwxyz" t_CHARACTERS)))
    {t_GAP : Tok} (g_GAP : PySem.W.nsIn K mainGlobals "GAP" = some (some (.str "**" t_GAP)))
    {t_HOST : Tok} (g_HOST : PySem.W.nsIn K mainGlobals "HOST" = some (some (.str "host" t_HOST)))
    {tc_HOST_LIMITS : Addr} {oc_HOST_LIMITS : Option Addr} {nc_HOST_LIMITS : Nat} {uc_HOST_LIMITS : Array (Option Value)} {k_HOST_LIMITS_0 k_HOST_LIMITS_1 k_HOST_LIMITS_2 k_HOST_LIMITS_3 : Tok} (g_HOST_LIMITS : PySem.W.nsIn K mainGlobals "HOST_LIMITS" = some (some (.ref tc_HOST_LIMITS))) (gl_HOST_LIMITS : K.lookup tc_HOST_LIMITS = some ⟨.type "tuple", oc_HOST_LIMITS, .seq (List.toArray [.int 1 k_HOST_LIMITS_0, .int 4 k_HOST_LIMITS_1, .int 3 k_HOST_LIMITS_2, .int 2 k_HOST_LIMITS_3]) nc_HOST_LIMITS, uc_HOST_LIMITS⟩)
    {t_LONGEST_LABEL : Tok} (g_LONGEST_LABEL : PySem.W.nsIn K mainGlobals "LONGEST_LABEL" = some (some (.int 20 t_LONGEST_LABEL)))
    {t_LONGEST_TEXT : Tok} (g_LONGEST_TEXT : PySem.W.nsIn K mainGlobals "LONGEST_TEXT" = some (some (.int 8 t_LONGEST_TEXT)))
    {t_MOST_LABELS : Tok} (g_MOST_LABELS : PySem.W.nsIn K mainGlobals "MOST_LABELS" = some (some (.int 20 t_MOST_LABELS)))
    {t_MOST_NEAR : Tok} (g_MOST_NEAR : PySem.W.nsIn K mainGlobals "MOST_NEAR" = some (some (.int 4 t_MOST_NEAR)))
    {t_MOST_PORT : Tok} (g_MOST_PORT : PySem.W.nsIn K mainGlobals "MOST_PORT" = some (some (.int 65535 t_MOST_PORT)))
    {t_PATH : Tok} (g_PATH : PySem.W.nsIn K mainGlobals "PATH" = some (some (.str "path" t_PATH)))
    {tc_PATH_LIMITS : Addr} {oc_PATH_LIMITS : Option Addr} {nc_PATH_LIMITS : Nat} {uc_PATH_LIMITS : Array (Option Value)} {k_PATH_LIMITS_0 k_PATH_LIMITS_1 k_PATH_LIMITS_2 k_PATH_LIMITS_3 : Tok} (g_PATH_LIMITS : PySem.W.nsIn K mainGlobals "PATH_LIMITS" = some (some (.ref tc_PATH_LIMITS))) (gl_PATH_LIMITS : K.lookup tc_PATH_LIMITS = some ⟨.type "tuple", oc_PATH_LIMITS, .seq (List.toArray [.int 0 k_PATH_LIMITS_0, .int 3 k_PATH_LIMITS_1, .int 2 k_PATH_LIMITS_2, .int 2 k_PATH_LIMITS_3]) nc_PATH_LIMITS, uc_PATH_LIMITS⟩)
    : ∃ fd : FuncData, (∀ (s : Shared) (v : Value), BindsTo s fd ⟨[v], []⟩ [("_law_script", v)]) ∧ ∀ base : Heap, K.In base → base.Ns mainGlobals mg → FnG l.prog w K mg base 8 fa fd ["_law_script"] (spR K mg false 1 m_law_1303) := by
  have e := hfa.symm.trans (PySem.W.mg_of X G a35)
  cases e
  have F0 := fun_mk (st := s_is_label) l0 c0 k0
  have b0 := F0.binds (ps := ["thing"]) fun _ _ _ _ _ _ us hl => match us, hl with | [_], _ => rfl
  have F1 := fun_mk (st := s_port_of) l1 c1 k1
  have b1 := F1.binds (ps := ["text"]) fun _ _ _ _ _ _ us hl => match us, hl with | [_], _ => rfl
  have F2 := fun_mk (st := s_is_label_text) l2 c2 k2
  have b2 := F2.binds (ps := ["thing"]) fun _ _ _ _ _ _ us hl => match us, hl with | [_], _ => rfl
  have F3 := fun_mk (st := s__law_bag) l3 c3 k3
  have b3 := F3.binds (ps := ["_law_script", "_law_at"]) fun _ _ _ _ _ _ us hl => match us, hl with | [_, _], _ => rfl
  have F4 := fun_mk (st := s__law_take) l4 c4 k4
  have b4 := F4.binds (ps := ["_law_bag_here", "_law_many"]) fun _ _ _ _ _ _ us hl => match us, hl with | [_, _], _ => rfl
  have F5 := fun_mk (st := s__law_fixed) l5 c5 k5
  have b5 := F5.binds (ps := ["_law_items"]) fun _ _ _ _ _ _ us hl => match us, hl with | [_], _ => rfl
  have F6 := fun_mk (st := s_Page_eq) l6 c6 k6
  have b6 := F6.binds (ps := ["self", "other"]) fun _ _ _ _ _ _ us hl => match us, hl with | [_, _], _ => rfl
  have F7 := fun_mk (st := s_Pattern_init) l7 c7 k7
  have b7 := F7.binds (ps := ["self", "text", "level", "shape"]) fun _ _ _ _ _ _ us hl => match us, hl with | [_, _, _, _], _ => rfl
  have F8 := fun_mk (st := s_HostPattern_eq) l8 c8 k8
  have b8 := F8.binds (ps := ["self", "other"]) fun _ _ _ _ _ _ us hl => match us, hl with | [_, _], _ => rfl
  have F9 := fun_mk (st := s_HostPattern_fixed) l9 c9 k9
  have b9 := F9.binds (ps := ["self"]) fun _ _ _ _ _ _ us hl => match us, hl with | [_], _ => rfl
  have F10 := fun_mk (st := s_PathPattern_eq) l10 c10 k10
  have b10 := F10.binds (ps := ["self", "other"]) fun _ _ _ _ _ _ us hl => match us, hl with | [_, _], _ => rfl
  have F11 := fun_mk (st := s_PathPattern_fixed) l11 c11 k11
  have b11 := F11.binds (ps := ["self"]) fun _ _ _ _ _ _ us hl => match us, hl with | [_], _ => rfl
  have F12 := fun_mk (st := s_Rule_is_offer) l12 c12 k12
  have b12 := F12.binds (ps := ["self"]) fun _ _ _ _ _ _ us hl => match us, hl with | [_], _ => rfl
  have F13 := fun_mk (st := s_Rule_eq) l13 c13 k13
  have b13 := F13.binds (ps := ["self", "other"]) fun _ _ _ _ _ _ us hl => match us, hl with | [_, _], _ => rfl
  have F14 := fun_mk (st := s_is_path) l14 c14 k14
  have b14 := F14.binds (ps := ["thing"]) fun _ _ _ _ _ _ us hl => match us, hl with | [_], _ => rfl
  have F15 := fun_mk (st := s_shape_of_items) l15 c15 k15
  have b15 := F15.binds (ps := ["items", "limits"]) fun _ _ _ _ _ _ us hl => match us, hl with | [_, _], _ => rfl
  have F16 := fun_mk (st := s_ports_of) l16 c16 k16
  have b16 := F16.binds (ps := ["text"]) fun _ _ _ _ _ _ us hl => match us, hl with | [_], _ => rfl
  have F17 := fun_mk (st := s__law_of) l17 c17 k17
  have b17 := F17.binds (ps := ["_law_bag_here", "_law_some_here"]) fun _ _ _ _ _ _ us hl => match us, hl with | [_, _], _ => rfl
  have F18 := fun_mk (st := s_is_host) l18 c18 k18
  have b18 := F18.binds (ps := ["thing"]) fun _ _ _ _ _ _ us hl => match us, hl with | [_], _ => rfl
  have F19 := fun_mk (st := s_host_shape) l19 c19 k19
  have b19 := F19.binds (ps := ["thing"]) fun _ _ _ _ _ _ us hl => match us, hl with | [_], _ => rfl
  have F20 := fun_mk (st := s_path_shape) l20 c20 k20
  have b20 := F20.binds (ps := ["thing"]) fun _ _ _ _ _ _ us hl => match us, hl with | [_], _ => rfl
  have F21 := fun_mk (st := s_rule_parts) l21 c21 k21
  have b21 := F21.binds (ps := ["text"]) fun _ _ _ _ _ _ us hl => match us, hl with | [_], _ => rfl
  have F22 := fun_mk (st := s__law_labels) l22 c22 k22
  have b22 := F22.binds (ps := ["_law_bag_here", "_law_many"]) fun _ _ _ _ _ _ us hl => match us, hl with | [_, _], _ => rfl
  have F23 := fun_mk (st := s__law_item) l23 c23 k23
  have b23 := F23.binds (ps := ["_law_bag_here", "_law_pool"]) fun _ _ _ _ _ _ us hl => match us, hl with | [_, _], _ => rfl
  have F24 := fun_mk (st := s__law_ports) l24 c24 k24
  have b24 := F24.binds (ps := ["_law_bag_here"]) fun _ _ _ _ _ _ us hl => match us, hl with | [_], _ => rfl
  have F25 := fun_mk (st := s_Rule_closeness) l25 c25 k25
  have b25 := F25.binds (ps := ["self"]) fun _ _ _ _ _ _ us hl => match us, hl with | [_], _ => rfl
  have F26 := fun_mk (st := s_near_of) l26 c26 k26
  have b26 := F26.binds (ps := ["text"]) fun _ _ _ _ _ _ us hl => match us, hl with | [_], _ => rfl
  have F27 := fun_mk (st := s__law_some) l27 c27 k27
  have b27 := F27.binds (ps := ["_law_bag_here", "_law_pool", "_law_most"]) fun _ _ _ _ _ _ us hl => match us, hl with | [_, _, _], _ => rfl
  have F28 := supFun_mk (P := l.prog) (mg := mg) (st := s_HostPattern_init) l28 c28 lc28 hv28 hf28 hcc28 hcl28 hm28 (PySem.W.mg_none_of X G zsuper) topsup is28 tb28 l7 tpany
  have b28 := Binds.all (K := K) (fd := PySem.W.fnX "__init__" "HostPattern.__init__" (defArgs s_HostPattern_init) (defBody s_HostPattern_init) (defScope s_HostPattern_init) [("__class__", cc28)] .none kV28 dc28 pm28 an28 (.ref cda28) ct28) (ps := ["self", "text"]) fun us hl => match us, hl with | [_, _], _ => rfl
  have F29 := supFun_mk (P := l.prog) (mg := mg) (st := s_PathPattern_init) l29 c29 lc29 hv29 hf29 hcc29 hcl29 hm29 (PySem.W.mg_none_of X G zsuper) topsup is29 tb29 l7 tpany
  have b29 := Binds.all (K := K) (fd := PySem.W.fnX "__init__" "PathPattern.__init__" (defArgs s_PathPattern_init) (defBody s_PathPattern_init) (defScope s_PathPattern_init) [("__class__", cc29)] .none kV29 dc29 pm29 an29 (.ref cda29) ct29) (ps := ["self", "text"]) fun us hl => match us, hl with | [_, _], _ => rfl
  have F30 := fun_mk (st := s__law_host_part) l30 c30 k30
  have b30 := F30.binds (ps := ["_law_bag_here", "_law_pool"]) fun _ _ _ _ _ _ us hl => match us, hl with | [_, _], _ => rfl
  have F31 := fun_mk (st := s__law_path_items) l31 c31 k31
  have b31 := F31.binds (ps := ["_law_bag_here", "_law_pool"]) fun _ _ _ _ _ _ us hl => match us, hl with | [_, _], _ => rfl
  have F32 := fun_mk (st := s__law_rule) l32 c32 k32
  have b32 := F32.binds (ps := ["_law_bag_here", "_law_pool"]) fun _ _ _ _ _ _ us hl => match us, hl with | [_, _], _ => rfl
  have F33 := fun_mk (st := s__law_is) l33 c33 k33
  have b33 := F33.binds (ps := ["_law_rule_here", "_law_plain", "_law_phrase"]) fun _ _ _ _ _ _ us hl => match us, hl with | [_, _, _], _ => rfl
  have F34 := fun_mk (st := s_Rule_init) l34 c34 k34
  have b34 := F34.binds (ps := ["self", "text"]) fun _ _ _ _ _ _ us hl => match us, hl with | [_, _], _ => rfl
  have F35 := fun_mk (st := s_law) l35 c35 k35
  have b35 := F35.binds (ps := ["_law_script"]) fun _ _ _ _ _ _ us hl => match us, hl with | [_], _ => rfl
  have T : Txt l.prog K mg ⟨_, _, _, _, _, _, _, _, _, _, _, _, _, _, _, _, _, _, _, _, _, _, _, _, _, _, _, _, _, _, _, _, _, _, _, _, _, _, _, _, _, _, _, _, _, _, _, _, _, _, _, _, _, _, _, _, _, _, _, _, _, _, _, _, _, _, _, _, _, _, _, _, _, _, _, _, _, _, _, _, _, _, _, _, _, _, _, _, _, _⟩ := ⟨PySem.W.mg_of X G a0, F0, b0, PySem.W.mg_of X G a1, F1, b1, PySem.W.mg_of X G a2, F2, b2, PySem.W.mg_of X G a3, F3, b3, PySem.W.mg_of X G a4, F4, b4, PySem.W.mg_of X G a5, F5, b5, F6, b6, F7, b7, F8, b8, F9, b9, F10, b10, F11, b11, F12, b12, F13, b13, PySem.W.mg_of X G a14, F14, b14, PySem.W.mg_of X G a15, F15, b15, PySem.W.mg_of X G a16, F16, b16, PySem.W.mg_of X G a17, F17, b17, PySem.W.mg_of X G a18, F18, b18, PySem.W.mg_of X G a19, F19, b19, PySem.W.mg_of X G a20, F20, b20, PySem.W.mg_of X G a21, F21, b21, PySem.W.mg_of X G a22, F22, b22, PySem.W.mg_of X G a23, F23, b23, PySem.W.mg_of X G a24, F24, b24, F25, b25, PySem.W.mg_of X G a26, F26, b26, PySem.W.mg_of X G a27, F27, b27, F28, b28, F29, b29, PySem.W.mg_of X G a30, F30, b30, PySem.W.mg_of X G a31, F31, b31, PySem.W.mg_of X G a32, F32, b32, PySem.W.mg_of X G a33, F33, b33, F34, b34, PySem.W.mg_of X G a35, F35, b35, ⟨PySem.W.mg_of X G aC_HostPattern, ⟨pg_HostPattern, hd_HostPattern, po_HostPattern, sa_HostPattern⟩, ca_HostPattern, cn_HostPattern, ct_HostPattern, cm_HostPattern⟩, (fun f hf => by
      simp only [List.mem_cons, List.not_mem_nil, or_false] at hf
      rcases hf with rfl | rfl | rfl | rfl | rfl
      · exact nf_HostPattern_text
      · exact nf_HostPattern_level
      · exact nf_HostPattern_head
      · exact nf_HostPattern_tail
      · exact nf_HostPattern_gap), ⟨mk_HostPattern, ai_HostPattern, fi_HostPattern, kc_HostPattern⟩, ⟨PySem.W.mg_of X G aC_Page, ⟨pg_Page, hd_Page, po_Page, sa_Page⟩, ca_Page, cn_Page, ct_Page, cm_Page⟩, (fun f hf => by
      simp only [List.mem_cons, List.not_mem_nil, or_false] at hf
      rcases hf with rfl | rfl | rfl | rfl | rfl
      · exact nf_Page_scheme
      · exact nf_Page_host
      · exact nf_Page_port
      · exact nf_Page_path
      · exact nf_Page_text), ⟨PySem.W.mg_of X G aC_PathPattern, ⟨pg_PathPattern, hd_PathPattern, po_PathPattern, sa_PathPattern⟩, ca_PathPattern, cn_PathPattern, ct_PathPattern, cm_PathPattern⟩, (fun f hf => by
      simp only [List.mem_cons, List.not_mem_nil, or_false] at hf
      rcases hf with rfl | rfl | rfl | rfl | rfl
      · exact nf_PathPattern_text
      · exact nf_PathPattern_level
      · exact nf_PathPattern_head
      · exact nf_PathPattern_tail
      · exact nf_PathPattern_gap), ⟨mk_PathPattern, ai_PathPattern, fi_PathPattern, kc_PathPattern⟩, ⟨PySem.W.mg_of X G aC_Rule, ⟨pg_Rule, hd_Rule, po_Rule, sa_Rule⟩, ca_Rule, cn_Rule, ct_Rule, cm_Rule⟩, (fun f hf => by
      simp only [List.mem_cons, List.not_mem_nil, or_false] at hf
      rcases hf with rfl | rfl | rfl | rfl | rfl | rfl | rfl | rfl
      · exact nf_Rule_text
      · exact nf_Rule_sign
      · exact nf_Rule_scheme
      · exact nf_Rule_written_ports
      · exact nf_Rule_ports
      · exact nf_Rule_near
      · exact nf_Rule_host
      · exact nf_Rule_path), ⟨mk_Rule, ai_Rule, fi_Rule, kc_Rule⟩, (fun us ws l1 l2 => match us, ws, l1, l2 with | [_], [_], _, _ => rfl), ⟨_, pa_Rule_closeness, pg_Rule_closeness, pt_Rule_closeness, ⟨_, pc_Rule_closeness⟩⟩, ⟨_, pa_HostPattern_fixed, pg_HostPattern_fixed, pt_HostPattern_fixed, ⟨_, pc_HostPattern_fixed⟩⟩, ⟨_, pa_PathPattern_fixed, pg_PathPattern_fixed, pt_PathPattern_fixed, ⟨_, pc_PathPattern_fixed⟩⟩, ⟨_, pa_Rule_is_offer, pg_Rule_is_offer, pt_Rule_is_offer, ⟨_, pc_Rule_is_offer⟩⟩, ⟨qe_HostPattern, qf_HostPattern, (fun T hT => by
      simp only [baseTys, List.mem_cons, List.not_mem_nil, or_false] at hT
      rcases hT with rfl | rfl | rfl | rfl | rfl | rfl | rfl
      · exact qb_HostPattern_NoneType
      · exact qb_HostPattern_bool
      · exact qb_HostPattern_int
      · exact qb_HostPattern_str
      · exact qb_HostPattern_tuple
      · exact qb_HostPattern_list
      · exact qb_HostPattern_dict), (fun q hq C1 hC1 => by
      simp only [List.mem_cons, List.not_mem_nil, or_false] at hq
      rcases hq with rfl | rfl | rfl | rfl
      · cases (PySem.W.mg_of X G aC_Page).symm.trans hC1; exact qo_HostPattern_Page
      · cases (PySem.W.mg_of X G aC_HostPattern).symm.trans hC1; exact qo_HostPattern_HostPattern
      · cases (PySem.W.mg_of X G aC_PathPattern).symm.trans hC1; exact qo_HostPattern_PathPattern
      · cases (PySem.W.mg_of X G aC_Rule).symm.trans hC1; exact qo_HostPattern_Rule), qn_HostPattern⟩, ⟨qe_Page, qf_Page, (fun T hT => by
      simp only [baseTys, List.mem_cons, List.not_mem_nil, or_false] at hT
      rcases hT with rfl | rfl | rfl | rfl | rfl | rfl | rfl
      · exact qb_Page_NoneType
      · exact qb_Page_bool
      · exact qb_Page_int
      · exact qb_Page_str
      · exact qb_Page_tuple
      · exact qb_Page_list
      · exact qb_Page_dict), (fun q hq C1 hC1 => by
      simp only [List.mem_cons, List.not_mem_nil, or_false] at hq
      rcases hq with rfl | rfl | rfl | rfl
      · cases (PySem.W.mg_of X G aC_Page).symm.trans hC1; exact qo_Page_Page
      · cases (PySem.W.mg_of X G aC_HostPattern).symm.trans hC1; exact qo_Page_HostPattern
      · cases (PySem.W.mg_of X G aC_PathPattern).symm.trans hC1; exact qo_Page_PathPattern
      · cases (PySem.W.mg_of X G aC_Rule).symm.trans hC1; exact qo_Page_Rule), qn_Page⟩, ⟨qe_PathPattern, qf_PathPattern, (fun T hT => by
      simp only [baseTys, List.mem_cons, List.not_mem_nil, or_false] at hT
      rcases hT with rfl | rfl | rfl | rfl | rfl | rfl | rfl
      · exact qb_PathPattern_NoneType
      · exact qb_PathPattern_bool
      · exact qb_PathPattern_int
      · exact qb_PathPattern_str
      · exact qb_PathPattern_tuple
      · exact qb_PathPattern_list
      · exact qb_PathPattern_dict), (fun q hq C1 hC1 => by
      simp only [List.mem_cons, List.not_mem_nil, or_false] at hq
      rcases hq with rfl | rfl | rfl | rfl
      · cases (PySem.W.mg_of X G aC_Page).symm.trans hC1; exact qo_PathPattern_Page
      · cases (PySem.W.mg_of X G aC_HostPattern).symm.trans hC1; exact qo_PathPattern_HostPattern
      · cases (PySem.W.mg_of X G aC_PathPattern).symm.trans hC1; exact qo_PathPattern_PathPattern
      · cases (PySem.W.mg_of X G aC_Rule).symm.trans hC1; exact qo_PathPattern_Rule), qn_PathPattern⟩, ⟨qe_Rule, qf_Rule, (fun T hT => by
      simp only [baseTys, List.mem_cons, List.not_mem_nil, or_false] at hT
      rcases hT with rfl | rfl | rfl | rfl | rfl | rfl | rfl
      · exact qb_Rule_NoneType
      · exact qb_Rule_bool
      · exact qb_Rule_int
      · exact qb_Rule_str
      · exact qb_Rule_tuple
      · exact qb_Rule_list
      · exact qb_Rule_dict), (fun q hq C1 hC1 => by
      simp only [List.mem_cons, List.not_mem_nil, or_false] at hq
      rcases hq with rfl | rfl | rfl | rfl
      · cases (PySem.W.mg_of X G aC_Page).symm.trans hC1; exact qo_Rule_Page
      · cases (PySem.W.mg_of X G aC_HostPattern).symm.trans hC1; exact qo_Rule_HostPattern
      · cases (PySem.W.mg_of X G aC_PathPattern).symm.trans hC1; exact qo_Rule_PathPattern
      · cases (PySem.W.mg_of X G aC_Rule).symm.trans hC1; exact qo_Rule_Rule), qn_Rule⟩, ⟨(fun q hq => by
      simp only [List.mem_cons, List.not_mem_nil, or_false] at hq
      rcases hq with rfl | rfl | rfl | rfl
      · exact ⟨_, ⟨PySem.W.mg_of X G aC_Page, ⟨pg_Page, hd_Page, po_Page, sa_Page⟩, ca_Page, cn_Page, ct_Page, cm_Page⟩, kit_subO ic_HostPattern tc_HostPattern sC_HostPattern_HostPattern sC_HostPattern_Page⟩
      · exact ⟨_, ⟨PySem.W.mg_of X G aC_HostPattern, ⟨pg_HostPattern, hd_HostPattern, po_HostPattern, sa_HostPattern⟩, ca_HostPattern, cn_HostPattern, ct_HostPattern, cm_HostPattern⟩, kit_subO ic_HostPattern tc_HostPattern sC_HostPattern_HostPattern sC_HostPattern_HostPattern⟩
      · exact ⟨_, ⟨PySem.W.mg_of X G aC_PathPattern, ⟨pg_PathPattern, hd_PathPattern, po_PathPattern, sa_PathPattern⟩, ca_PathPattern, cn_PathPattern, ct_PathPattern, cm_PathPattern⟩, kit_subO ic_HostPattern tc_HostPattern sC_HostPattern_HostPattern sC_HostPattern_PathPattern⟩
      · exact ⟨_, ⟨PySem.W.mg_of X G aC_Rule, ⟨pg_Rule, hd_Rule, po_Rule, sa_Rule⟩, ca_Rule, cn_Rule, ct_Rule, cm_Rule⟩, kit_subO ic_HostPattern tc_HostPattern sC_HostPattern_HostPattern sC_HostPattern_Rule⟩), (fun q hq => by
      simp only [noneOfB, List.mem_cons, List.not_mem_nil, or_false] at hq
      rcases hq with rfl | rfl | rfl | rfl | rfl | rfl | rfl
      · exact kit_subO ic_HostPattern tc_HostPattern sC_HostPattern_HostPattern sb_HostPattern_NoneType
      · exact kit_subO ic_HostPattern tc_HostPattern sC_HostPattern_HostPattern sb_HostPattern_bool
      · exact kit_subO ic_HostPattern tc_HostPattern sC_HostPattern_HostPattern sb_HostPattern_int
      · exact kit_subO ic_HostPattern tc_HostPattern sC_HostPattern_HostPattern sb_HostPattern_str
      · exact kit_subO ic_HostPattern tc_HostPattern sC_HostPattern_HostPattern sb_HostPattern_tuple
      · exact kit_subO ic_HostPattern tc_HostPattern sC_HostPattern_HostPattern sb_HostPattern_list
      · exact kit_subO ic_HostPattern tc_HostPattern sC_HostPattern_HostPattern sb_HostPattern_dict)⟩, ⟨(fun q hq => by
      simp only [List.mem_cons, List.not_mem_nil, or_false] at hq
      rcases hq with rfl | rfl | rfl | rfl
      · exact ⟨_, ⟨PySem.W.mg_of X G aC_Page, ⟨pg_Page, hd_Page, po_Page, sa_Page⟩, ca_Page, cn_Page, ct_Page, cm_Page⟩, kit_subO ic_Page tc_Page sC_Page_Page sC_Page_Page⟩
      · exact ⟨_, ⟨PySem.W.mg_of X G aC_HostPattern, ⟨pg_HostPattern, hd_HostPattern, po_HostPattern, sa_HostPattern⟩, ca_HostPattern, cn_HostPattern, ct_HostPattern, cm_HostPattern⟩, kit_subO ic_Page tc_Page sC_Page_Page sC_Page_HostPattern⟩
      · exact ⟨_, ⟨PySem.W.mg_of X G aC_PathPattern, ⟨pg_PathPattern, hd_PathPattern, po_PathPattern, sa_PathPattern⟩, ca_PathPattern, cn_PathPattern, ct_PathPattern, cm_PathPattern⟩, kit_subO ic_Page tc_Page sC_Page_Page sC_Page_PathPattern⟩
      · exact ⟨_, ⟨PySem.W.mg_of X G aC_Rule, ⟨pg_Rule, hd_Rule, po_Rule, sa_Rule⟩, ca_Rule, cn_Rule, ct_Rule, cm_Rule⟩, kit_subO ic_Page tc_Page sC_Page_Page sC_Page_Rule⟩), (fun q hq => by
      simp only [noneOfB, List.mem_cons, List.not_mem_nil, or_false] at hq
      rcases hq with rfl | rfl | rfl | rfl | rfl | rfl | rfl
      · exact kit_subO ic_Page tc_Page sC_Page_Page sb_Page_NoneType
      · exact kit_subO ic_Page tc_Page sC_Page_Page sb_Page_bool
      · exact kit_subO ic_Page tc_Page sC_Page_Page sb_Page_int
      · exact kit_subO ic_Page tc_Page sC_Page_Page sb_Page_str
      · exact kit_subO ic_Page tc_Page sC_Page_Page sb_Page_tuple
      · exact kit_subO ic_Page tc_Page sC_Page_Page sb_Page_list
      · exact kit_subO ic_Page tc_Page sC_Page_Page sb_Page_dict)⟩, ⟨(fun q hq => by
      simp only [List.mem_cons, List.not_mem_nil, or_false] at hq
      rcases hq with rfl | rfl | rfl | rfl
      · exact ⟨_, ⟨PySem.W.mg_of X G aC_Page, ⟨pg_Page, hd_Page, po_Page, sa_Page⟩, ca_Page, cn_Page, ct_Page, cm_Page⟩, kit_subO ic_PathPattern tc_PathPattern sC_PathPattern_PathPattern sC_PathPattern_Page⟩
      · exact ⟨_, ⟨PySem.W.mg_of X G aC_HostPattern, ⟨pg_HostPattern, hd_HostPattern, po_HostPattern, sa_HostPattern⟩, ca_HostPattern, cn_HostPattern, ct_HostPattern, cm_HostPattern⟩, kit_subO ic_PathPattern tc_PathPattern sC_PathPattern_PathPattern sC_PathPattern_HostPattern⟩
      · exact ⟨_, ⟨PySem.W.mg_of X G aC_PathPattern, ⟨pg_PathPattern, hd_PathPattern, po_PathPattern, sa_PathPattern⟩, ca_PathPattern, cn_PathPattern, ct_PathPattern, cm_PathPattern⟩, kit_subO ic_PathPattern tc_PathPattern sC_PathPattern_PathPattern sC_PathPattern_PathPattern⟩
      · exact ⟨_, ⟨PySem.W.mg_of X G aC_Rule, ⟨pg_Rule, hd_Rule, po_Rule, sa_Rule⟩, ca_Rule, cn_Rule, ct_Rule, cm_Rule⟩, kit_subO ic_PathPattern tc_PathPattern sC_PathPattern_PathPattern sC_PathPattern_Rule⟩), (fun q hq => by
      simp only [noneOfB, List.mem_cons, List.not_mem_nil, or_false] at hq
      rcases hq with rfl | rfl | rfl | rfl | rfl | rfl | rfl
      · exact kit_subO ic_PathPattern tc_PathPattern sC_PathPattern_PathPattern sb_PathPattern_NoneType
      · exact kit_subO ic_PathPattern tc_PathPattern sC_PathPattern_PathPattern sb_PathPattern_bool
      · exact kit_subO ic_PathPattern tc_PathPattern sC_PathPattern_PathPattern sb_PathPattern_int
      · exact kit_subO ic_PathPattern tc_PathPattern sC_PathPattern_PathPattern sb_PathPattern_str
      · exact kit_subO ic_PathPattern tc_PathPattern sC_PathPattern_PathPattern sb_PathPattern_tuple
      · exact kit_subO ic_PathPattern tc_PathPattern sC_PathPattern_PathPattern sb_PathPattern_list
      · exact kit_subO ic_PathPattern tc_PathPattern sC_PathPattern_PathPattern sb_PathPattern_dict)⟩, ⟨(fun q hq => by
      simp only [List.mem_cons, List.not_mem_nil, or_false] at hq
      rcases hq with rfl | rfl | rfl | rfl
      · exact ⟨_, ⟨PySem.W.mg_of X G aC_Page, ⟨pg_Page, hd_Page, po_Page, sa_Page⟩, ca_Page, cn_Page, ct_Page, cm_Page⟩, kit_subO ic_Rule tc_Rule sC_Rule_Rule sC_Rule_Page⟩
      · exact ⟨_, ⟨PySem.W.mg_of X G aC_HostPattern, ⟨pg_HostPattern, hd_HostPattern, po_HostPattern, sa_HostPattern⟩, ca_HostPattern, cn_HostPattern, ct_HostPattern, cm_HostPattern⟩, kit_subO ic_Rule tc_Rule sC_Rule_Rule sC_Rule_HostPattern⟩
      · exact ⟨_, ⟨PySem.W.mg_of X G aC_PathPattern, ⟨pg_PathPattern, hd_PathPattern, po_PathPattern, sa_PathPattern⟩, ca_PathPattern, cn_PathPattern, ct_PathPattern, cm_PathPattern⟩, kit_subO ic_Rule tc_Rule sC_Rule_Rule sC_Rule_PathPattern⟩
      · exact ⟨_, ⟨PySem.W.mg_of X G aC_Rule, ⟨pg_Rule, hd_Rule, po_Rule, sa_Rule⟩, ca_Rule, cn_Rule, ct_Rule, cm_Rule⟩, kit_subO ic_Rule tc_Rule sC_Rule_Rule sC_Rule_Rule⟩), (fun q hq => by
      simp only [noneOfB, List.mem_cons, List.not_mem_nil, or_false] at hq
      rcases hq with rfl | rfl | rfl | rfl | rfl | rfl | rfl
      · exact kit_subO ic_Rule tc_Rule sC_Rule_Rule sb_Rule_NoneType
      · exact kit_subO ic_Rule tc_Rule sC_Rule_Rule sb_Rule_bool
      · exact kit_subO ic_Rule tc_Rule sC_Rule_Rule sb_Rule_int
      · exact kit_subO ic_Rule tc_Rule sC_Rule_Rule sb_Rule_str
      · exact kit_subO ic_Rule tc_Rule sC_Rule_Rule sb_Rule_tuple
      · exact kit_subO ic_Rule tc_Rule sC_Rule_Rule sb_Rule_list
      · exact kit_subO ic_Rule tc_Rule sC_Rule_Rule sb_Rule_dict)⟩, { fs := by decide, fb := by decide, bind := fun _ _ _ _ _ _ _ _ _ _ _ _ _ => rfl, gC := PySem.W.mg_of X G aC_BadHost, cls := ⟨nm_BadHost, q_BadHost, Nx_BadHost, bs_BadHost, _, sn_BadHost, sub_BadHost, ab_BadHost, col_BadHost, dd_BadHost, m0_BadHost, m1_BadHost, m2_BadHost, m3_BadHost, m5_BadHost, xL_BadHost, by decide +kernel⟩, sa := sa_BadHost, ga := ga_BadHost, gg := gg_BadHost, noN := nb_BadHost, iC := ai_BadHost, tC := ti_BadHost, kC := kC_BadHost, exC := eC_BadHost, tyC := tC_BadHost, hdC := hC_BadHost, te := exm_self eC_BadHost iC_BadHost tC_BadHost sC_BadHost, fn := ⟨_, _, _, _, _, _, _, _, _, _, _, _, _, _, li_BadHost, ci_BadHost⟩ }, { fs := by decide, fb := by decide, bind := fun _ _ _ _ _ _ _ _ _ _ _ _ _ => rfl, gC := PySem.W.mg_of X G aC_BadPage, cls := ⟨nm_BadPage, q_BadPage, Nx_BadPage, bs_BadPage, _, sn_BadPage, sub_BadPage, ab_BadPage, col_BadPage, dd_BadPage, m0_BadPage, m1_BadPage, m2_BadPage, m3_BadPage, m5_BadPage, xL_BadPage, by decide +kernel⟩, sa := sa_BadPage, ga := ga_BadPage, gg := gg_BadPage, noN := nb_BadPage, iC := ai_BadPage, tC := ti_BadPage, kC := kC_BadPage, exC := eC_BadPage, tyC := tC_BadPage, hdC := hC_BadPage, te := exm_self eC_BadPage iC_BadPage tC_BadPage sC_BadPage, fn := ⟨_, _, _, _, _, _, _, _, _, _, _, _, _, _, li_BadPage, ci_BadPage⟩ }, { fs := by decide, fb := by decide, bind := fun _ _ _ _ _ _ _ _ _ _ _ _ _ => rfl, gC := PySem.W.mg_of X G aC_BadPath, cls := ⟨nm_BadPath, q_BadPath, Nx_BadPath, bs_BadPath, _, sn_BadPath, sub_BadPath, ab_BadPath, col_BadPath, dd_BadPath, m0_BadPath, m1_BadPath, m2_BadPath, m3_BadPath, m5_BadPath, xL_BadPath, by decide +kernel⟩, sa := sa_BadPath, ga := ga_BadPath, gg := gg_BadPath, noN := nb_BadPath, iC := ai_BadPath, tC := ti_BadPath, kC := kC_BadPath, exC := eC_BadPath, tyC := tC_BadPath, hdC := hC_BadPath, te := exm_self eC_BadPath iC_BadPath tC_BadPath sC_BadPath, fn := ⟨_, _, _, _, _, _, _, _, _, _, _, _, _, _, li_BadPath, ci_BadPath⟩ }, { fs := by decide, fb := by decide, bind := fun _ _ _ _ _ _ _ _ _ _ _ _ _ => rfl, gC := PySem.W.mg_of X G aC_BadPattern, cls := ⟨nm_BadPattern, q_BadPattern, Nx_BadPattern, bs_BadPattern, _, sn_BadPattern, sub_BadPattern, ab_BadPattern, col_BadPattern, dd_BadPattern, m0_BadPattern, m1_BadPattern, m2_BadPattern, m3_BadPattern, m5_BadPattern, xL_BadPattern, by decide +kernel⟩, sa := sa_BadPattern, ga := ga_BadPattern, gg := gg_BadPattern, noN := nb_BadPattern, iC := ai_BadPattern, tC := ti_BadPattern, kC := kC_BadPattern, exC := eC_BadPattern, tyC := tC_BadPattern, hdC := hC_BadPattern, te := exm_self eC_BadPattern iC_BadPattern tC_BadPattern sC_BadPattern, fn := ⟨_, _, _, _, _, _, _, _, _, _, _, _, _, _, li_BadPattern, ci_BadPattern⟩ }, { fs := by decide, fb := by decide, bind := fun _ _ _ _ _ _ _ _ _ _ _ _ _ => rfl, gC := PySem.W.mg_of X G aC_BadPort, cls := ⟨nm_BadPort, q_BadPort, Nx_BadPort, bs_BadPort, _, sn_BadPort, sub_BadPort, ab_BadPort, col_BadPort, dd_BadPort, m0_BadPort, m1_BadPort, m2_BadPort, m3_BadPort, m5_BadPort, xL_BadPort, by decide +kernel⟩, sa := sa_BadPort, ga := ga_BadPort, gg := gg_BadPort, noN := nb_BadPort, iC := ai_BadPort, tC := ti_BadPort, kC := kC_BadPort, exC := eC_BadPort, tyC := tC_BadPort, hdC := hC_BadPort, te := exm_self eC_BadPort iC_BadPort tC_BadPort sC_BadPort, fn := ⟨_, _, _, _, _, _, _, _, _, _, _, _, _, _, li_BadPort, ci_BadPort⟩ }, { fs := by decide, fb := by decide, bind := fun _ _ _ _ _ _ _ _ _ _ _ _ _ => rfl, gC := PySem.W.mg_of X G aC_BadRule, cls := ⟨nm_BadRule, q_BadRule, Nx_BadRule, bs_BadRule, _, sn_BadRule, sub_BadRule, ab_BadRule, col_BadRule, dd_BadRule, m0_BadRule, m1_BadRule, m2_BadRule, m3_BadRule, m5_BadRule, xL_BadRule, by decide +kernel⟩, sa := sa_BadRule, ga := ga_BadRule, gg := gg_BadRule, noN := nb_BadRule, iC := ai_BadRule, tC := ti_BadRule, kC := kC_BadRule, exC := eC_BadRule, tyC := tC_BadRule, hdC := hC_BadRule, te := exm_self eC_BadRule iC_BadRule tC_BadRule sC_BadRule, fn := ⟨_, _, _, _, _, _, _, _, _, _, _, _, _, _, li_BadRule, ci_BadRule⟩ }, { fs := by decide, fb := by decide, bind := fun _ _ _ _ _ _ _ _ _ _ _ _ _ => rfl, gC := PySem.W.mg_of X G aC_BadScheme, cls := ⟨nm_BadScheme, q_BadScheme, Nx_BadScheme, bs_BadScheme, _, sn_BadScheme, sub_BadScheme, ab_BadScheme, col_BadScheme, dd_BadScheme, m0_BadScheme, m1_BadScheme, m2_BadScheme, m3_BadScheme, m5_BadScheme, xL_BadScheme, by decide +kernel⟩, sa := sa_BadScheme, ga := ga_BadScheme, gg := gg_BadScheme, noN := nb_BadScheme, iC := ai_BadScheme, tC := ti_BadScheme, kC := kC_BadScheme, exC := eC_BadScheme, tyC := tC_BadScheme, hdC := hC_BadScheme, te := exm_self eC_BadScheme iC_BadScheme tC_BadScheme sC_BadScheme, fn := ⟨_, _, _, _, _, _, _, _, _, _, _, _, _, _, li_BadScheme, ci_BadScheme⟩ }, (fun q hq C1 hC1 => by
      simp only [List.mem_cons, List.not_mem_nil, or_false] at hq
      rcases hq with rfl | rfl | rfl | rfl | rfl | rfl | rfl
      · cases (PySem.W.mg_of X G aC_BadHost).symm.trans hC1; exact (exm_sub eC_BadHost iC_BadHost tC_BadHost kn_BadHost_BadHost).trans (by decide +kernel)
      · cases (PySem.W.mg_of X G aC_BadPage).symm.trans hC1; exact (exm_sub eC_BadHost iC_BadHost tC_BadHost kn_BadPage_BadHost).trans (by decide +kernel)
      · cases (PySem.W.mg_of X G aC_BadPath).symm.trans hC1; exact (exm_sub eC_BadHost iC_BadHost tC_BadHost kn_BadPath_BadHost).trans (by decide +kernel)
      · cases (PySem.W.mg_of X G aC_BadPattern).symm.trans hC1; exact (exm_sub eC_BadHost iC_BadHost tC_BadHost kn_BadPattern_BadHost).trans (by decide +kernel)
      · cases (PySem.W.mg_of X G aC_BadPort).symm.trans hC1; exact (exm_sub eC_BadHost iC_BadHost tC_BadHost kn_BadPort_BadHost).trans (by decide +kernel)
      · cases (PySem.W.mg_of X G aC_BadRule).symm.trans hC1; exact (exm_sub eC_BadHost iC_BadHost tC_BadHost kn_BadRule_BadHost).trans (by decide +kernel)
      · cases (PySem.W.mg_of X G aC_BadScheme).symm.trans hC1; exact (exm_sub eC_BadHost iC_BadHost tC_BadHost kn_BadScheme_BadHost).trans (by decide +kernel)), (fun q hq C1 hC1 => by
      simp only [List.mem_cons, List.not_mem_nil, or_false] at hq
      rcases hq with rfl | rfl | rfl | rfl | rfl | rfl | rfl
      · cases (PySem.W.mg_of X G aC_BadHost).symm.trans hC1; exact (exm_sub eC_BadPage iC_BadPage tC_BadPage kn_BadHost_BadPage).trans (by decide +kernel)
      · cases (PySem.W.mg_of X G aC_BadPage).symm.trans hC1; exact (exm_sub eC_BadPage iC_BadPage tC_BadPage kn_BadPage_BadPage).trans (by decide +kernel)
      · cases (PySem.W.mg_of X G aC_BadPath).symm.trans hC1; exact (exm_sub eC_BadPage iC_BadPage tC_BadPage kn_BadPath_BadPage).trans (by decide +kernel)
      · cases (PySem.W.mg_of X G aC_BadPattern).symm.trans hC1; exact (exm_sub eC_BadPage iC_BadPage tC_BadPage kn_BadPattern_BadPage).trans (by decide +kernel)
      · cases (PySem.W.mg_of X G aC_BadPort).symm.trans hC1; exact (exm_sub eC_BadPage iC_BadPage tC_BadPage kn_BadPort_BadPage).trans (by decide +kernel)
      · cases (PySem.W.mg_of X G aC_BadRule).symm.trans hC1; exact (exm_sub eC_BadPage iC_BadPage tC_BadPage kn_BadRule_BadPage).trans (by decide +kernel)
      · cases (PySem.W.mg_of X G aC_BadScheme).symm.trans hC1; exact (exm_sub eC_BadPage iC_BadPage tC_BadPage kn_BadScheme_BadPage).trans (by decide +kernel)), (fun q hq C1 hC1 => by
      simp only [List.mem_cons, List.not_mem_nil, or_false] at hq
      rcases hq with rfl | rfl | rfl | rfl | rfl | rfl | rfl
      · cases (PySem.W.mg_of X G aC_BadHost).symm.trans hC1; exact (exm_sub eC_BadPath iC_BadPath tC_BadPath kn_BadHost_BadPath).trans (by decide +kernel)
      · cases (PySem.W.mg_of X G aC_BadPage).symm.trans hC1; exact (exm_sub eC_BadPath iC_BadPath tC_BadPath kn_BadPage_BadPath).trans (by decide +kernel)
      · cases (PySem.W.mg_of X G aC_BadPath).symm.trans hC1; exact (exm_sub eC_BadPath iC_BadPath tC_BadPath kn_BadPath_BadPath).trans (by decide +kernel)
      · cases (PySem.W.mg_of X G aC_BadPattern).symm.trans hC1; exact (exm_sub eC_BadPath iC_BadPath tC_BadPath kn_BadPattern_BadPath).trans (by decide +kernel)
      · cases (PySem.W.mg_of X G aC_BadPort).symm.trans hC1; exact (exm_sub eC_BadPath iC_BadPath tC_BadPath kn_BadPort_BadPath).trans (by decide +kernel)
      · cases (PySem.W.mg_of X G aC_BadRule).symm.trans hC1; exact (exm_sub eC_BadPath iC_BadPath tC_BadPath kn_BadRule_BadPath).trans (by decide +kernel)
      · cases (PySem.W.mg_of X G aC_BadScheme).symm.trans hC1; exact (exm_sub eC_BadPath iC_BadPath tC_BadPath kn_BadScheme_BadPath).trans (by decide +kernel)), (fun q hq C1 hC1 => by
      simp only [List.mem_cons, List.not_mem_nil, or_false] at hq
      rcases hq with rfl | rfl | rfl | rfl | rfl | rfl | rfl
      · cases (PySem.W.mg_of X G aC_BadHost).symm.trans hC1; exact (exm_sub eC_BadPattern iC_BadPattern tC_BadPattern kn_BadHost_BadPattern).trans (by decide +kernel)
      · cases (PySem.W.mg_of X G aC_BadPage).symm.trans hC1; exact (exm_sub eC_BadPattern iC_BadPattern tC_BadPattern kn_BadPage_BadPattern).trans (by decide +kernel)
      · cases (PySem.W.mg_of X G aC_BadPath).symm.trans hC1; exact (exm_sub eC_BadPattern iC_BadPattern tC_BadPattern kn_BadPath_BadPattern).trans (by decide +kernel)
      · cases (PySem.W.mg_of X G aC_BadPattern).symm.trans hC1; exact (exm_sub eC_BadPattern iC_BadPattern tC_BadPattern kn_BadPattern_BadPattern).trans (by decide +kernel)
      · cases (PySem.W.mg_of X G aC_BadPort).symm.trans hC1; exact (exm_sub eC_BadPattern iC_BadPattern tC_BadPattern kn_BadPort_BadPattern).trans (by decide +kernel)
      · cases (PySem.W.mg_of X G aC_BadRule).symm.trans hC1; exact (exm_sub eC_BadPattern iC_BadPattern tC_BadPattern kn_BadRule_BadPattern).trans (by decide +kernel)
      · cases (PySem.W.mg_of X G aC_BadScheme).symm.trans hC1; exact (exm_sub eC_BadPattern iC_BadPattern tC_BadPattern kn_BadScheme_BadPattern).trans (by decide +kernel)), (fun q hq C1 hC1 => by
      simp only [List.mem_cons, List.not_mem_nil, or_false] at hq
      rcases hq with rfl | rfl | rfl | rfl | rfl | rfl | rfl
      · cases (PySem.W.mg_of X G aC_BadHost).symm.trans hC1; exact (exm_sub eC_BadPort iC_BadPort tC_BadPort kn_BadHost_BadPort).trans (by decide +kernel)
      · cases (PySem.W.mg_of X G aC_BadPage).symm.trans hC1; exact (exm_sub eC_BadPort iC_BadPort tC_BadPort kn_BadPage_BadPort).trans (by decide +kernel)
      · cases (PySem.W.mg_of X G aC_BadPath).symm.trans hC1; exact (exm_sub eC_BadPort iC_BadPort tC_BadPort kn_BadPath_BadPort).trans (by decide +kernel)
      · cases (PySem.W.mg_of X G aC_BadPattern).symm.trans hC1; exact (exm_sub eC_BadPort iC_BadPort tC_BadPort kn_BadPattern_BadPort).trans (by decide +kernel)
      · cases (PySem.W.mg_of X G aC_BadPort).symm.trans hC1; exact (exm_sub eC_BadPort iC_BadPort tC_BadPort kn_BadPort_BadPort).trans (by decide +kernel)
      · cases (PySem.W.mg_of X G aC_BadRule).symm.trans hC1; exact (exm_sub eC_BadPort iC_BadPort tC_BadPort kn_BadRule_BadPort).trans (by decide +kernel)
      · cases (PySem.W.mg_of X G aC_BadScheme).symm.trans hC1; exact (exm_sub eC_BadPort iC_BadPort tC_BadPort kn_BadScheme_BadPort).trans (by decide +kernel)), (fun q hq C1 hC1 => by
      simp only [List.mem_cons, List.not_mem_nil, or_false] at hq
      rcases hq with rfl | rfl | rfl | rfl | rfl | rfl | rfl
      · cases (PySem.W.mg_of X G aC_BadHost).symm.trans hC1; exact (exm_sub eC_BadRule iC_BadRule tC_BadRule kn_BadHost_BadRule).trans (by decide +kernel)
      · cases (PySem.W.mg_of X G aC_BadPage).symm.trans hC1; exact (exm_sub eC_BadRule iC_BadRule tC_BadRule kn_BadPage_BadRule).trans (by decide +kernel)
      · cases (PySem.W.mg_of X G aC_BadPath).symm.trans hC1; exact (exm_sub eC_BadRule iC_BadRule tC_BadRule kn_BadPath_BadRule).trans (by decide +kernel)
      · cases (PySem.W.mg_of X G aC_BadPattern).symm.trans hC1; exact (exm_sub eC_BadRule iC_BadRule tC_BadRule kn_BadPattern_BadRule).trans (by decide +kernel)
      · cases (PySem.W.mg_of X G aC_BadPort).symm.trans hC1; exact (exm_sub eC_BadRule iC_BadRule tC_BadRule kn_BadPort_BadRule).trans (by decide +kernel)
      · cases (PySem.W.mg_of X G aC_BadRule).symm.trans hC1; exact (exm_sub eC_BadRule iC_BadRule tC_BadRule kn_BadRule_BadRule).trans (by decide +kernel)
      · cases (PySem.W.mg_of X G aC_BadScheme).symm.trans hC1; exact (exm_sub eC_BadRule iC_BadRule tC_BadRule kn_BadScheme_BadRule).trans (by decide +kernel)), (fun q hq C1 hC1 => by
      simp only [List.mem_cons, List.not_mem_nil, or_false] at hq
      rcases hq with rfl | rfl | rfl | rfl | rfl | rfl | rfl
      · cases (PySem.W.mg_of X G aC_BadHost).symm.trans hC1; exact (exm_sub eC_BadScheme iC_BadScheme tC_BadScheme kn_BadHost_BadScheme).trans (by decide +kernel)
      · cases (PySem.W.mg_of X G aC_BadPage).symm.trans hC1; exact (exm_sub eC_BadScheme iC_BadScheme tC_BadScheme kn_BadPage_BadScheme).trans (by decide +kernel)
      · cases (PySem.W.mg_of X G aC_BadPath).symm.trans hC1; exact (exm_sub eC_BadScheme iC_BadScheme tC_BadScheme kn_BadPath_BadScheme).trans (by decide +kernel)
      · cases (PySem.W.mg_of X G aC_BadPattern).symm.trans hC1; exact (exm_sub eC_BadScheme iC_BadScheme tC_BadScheme kn_BadPattern_BadScheme).trans (by decide +kernel)
      · cases (PySem.W.mg_of X G aC_BadPort).symm.trans hC1; exact (exm_sub eC_BadScheme iC_BadScheme tC_BadScheme kn_BadPort_BadScheme).trans (by decide +kernel)
      · cases (PySem.W.mg_of X G aC_BadRule).symm.trans hC1; exact (exm_sub eC_BadScheme iC_BadScheme tC_BadScheme kn_BadRule_BadScheme).trans (by decide +kernel)
      · cases (PySem.W.mg_of X G aC_BadScheme).symm.trans hC1; exact (exm_sub eC_BadScheme iC_BadScheme tC_BadScheme kn_BadScheme_BadScheme).trans (by decide +kernel)), PySem.W.mg_none_of X G z_abs, PySem.W.mg_none_of X G z_enumerate, PySem.W.mg_none_of X G z_int, PySem.W.mg_none_of X G z_isinstance, PySem.W.mg_none_of X G z_len, PySem.W.mg_none_of X G z_list, PySem.W.mg_none_of X G z_max, PySem.W.mg_none_of X G z_min, PySem.W.mg_none_of X G z_range, PySem.W.mg_none_of X G z_repr, PySem.W.mg_none_of X G z_str, PySem.W.mg_none_of X G z_tuple, ⟨.ref tc_ALL_PORTS, .ref tc_ALL_PORTS, PySem.W.mg_of X G g_ALL_PORTS, rfl, is_tupK (vs := [.int 1, .int 65535]) gl_ALL_PORTS (.cons (is_int _) (.cons (is_int _) .nil)) (.cons ⟨_, rfl⟩ (.cons ⟨_, rfl⟩ .nil)) (by decide)⟩, globS (PySem.W.mg_of X G g_CHARACTERS) (by decide +kernel) (by decide), globS (PySem.W.mg_of X G g_GAP) (by decide +kernel) (by decide), globS (PySem.W.mg_of X G g_HOST) (by decide +kernel) (by decide), ⟨.ref tc_HOST_LIMITS, .ref tc_HOST_LIMITS, PySem.W.mg_of X G g_HOST_LIMITS, rfl, is_tupK (vs := [.int 1, .int 4, .int 3, .int 2]) gl_HOST_LIMITS (.cons (is_int _) (.cons (is_int _) (.cons (is_int _) (.cons (is_int _) .nil)))) (.cons ⟨_, rfl⟩ (.cons ⟨_, rfl⟩ (.cons ⟨_, rfl⟩ (.cons ⟨_, rfl⟩ .nil)))) (by decide)⟩, globI (PySem.W.mg_of X G g_LONGEST_LABEL), globI (PySem.W.mg_of X G g_LONGEST_TEXT), globI (PySem.W.mg_of X G g_MOST_LABELS), globI (PySem.W.mg_of X G g_MOST_NEAR), globI (PySem.W.mg_of X G g_MOST_PORT), globS (PySem.W.mg_of X G g_PATH) (by decide +kernel) (by decide), ⟨.ref tc_PATH_LIMITS, .ref tc_PATH_LIMITS, PySem.W.mg_of X G g_PATH_LIMITS, rfl, is_tupK (vs := [.int 0, .int 3, .int 2, .int 2]) gl_PATH_LIMITS (.cons (is_int _) (.cons (is_int _) (.cons (is_int _) (.cons (is_int _) .nil)))) (.cons ⟨_, rfl⟩ (.cons ⟨_, rfl⟩ (.cons ⟨_, rfl⟩ (.cons ⟨_, rfl⟩ .nil)))) (by decide)⟩⟩
  exact ⟨_, fun s v => .of_eq rfl, fun base _ _ => g_law T⟩
end K38
open PySem PySem.W PyProof.Rows in
set_option maxRecDepth 100000 in
set_option maxHeartbeats 0 in
theorem PySem.Challenge.cw_offeredentry_k38_rules_read_holds : PySem.Challenge.rw_offeredentry_k38_rules_read.Holds := by
  w_on; o_law; k_head; (case hw => w_witness2)
  k_fill
  refine DL.walk_g (l := PySem.Challenge.rw_offeredentry_k38_rules_read) (n := 63) (k := 8) (x := "_law_script") (g := FN.m_law_1303) rfl (by decide) rfl ⟨rfl, by decide, by decide⟩ (fun w h Y => PySem.W.kIn_of Y) ?F FN.law_1303_true
  case F =>
    intro w mg fa h KX G hmg
    refine' K38.all_mk KX G hmg ?aC_HostPattern ?pg_HostPattern ?hd_HostPattern ?po_HostPattern ?sa_HostPattern ?ca_HostPattern ?cn_HostPattern ?ct_HostPattern ?cm_HostPattern ?nf_HostPattern_text ?nf_HostPattern_level ?nf_HostPattern_head ?nf_HostPattern_tail ?nf_HostPattern_gap ?mk_HostPattern ?kc_HostPattern ?ai_HostPattern ?fi_HostPattern ?aC_Page ?pg_Page ?hd_Page ?po_Page ?sa_Page ?ca_Page ?cn_Page ?ct_Page ?cm_Page ?nf_Page_scheme ?nf_Page_host ?nf_Page_port ?nf_Page_path ?nf_Page_text ?aC_PathPattern ?pg_PathPattern ?hd_PathPattern ?po_PathPattern ?sa_PathPattern ?ca_PathPattern ?cn_PathPattern ?ct_PathPattern ?cm_PathPattern ?nf_PathPattern_text ?nf_PathPattern_level ?nf_PathPattern_head ?nf_PathPattern_tail ?nf_PathPattern_gap ?mk_PathPattern ?kc_PathPattern ?ai_PathPattern ?fi_PathPattern ?aC_Rule ?pg_Rule ?hd_Rule ?po_Rule ?sa_Rule ?ca_Rule ?cn_Rule ?ct_Rule ?cm_Rule ?nf_Rule_text ?nf_Rule_sign ?nf_Rule_scheme ?nf_Rule_written_ports ?nf_Rule_ports ?nf_Rule_near ?nf_Rule_host ?nf_Rule_path ?mk_Rule ?kc_Rule ?ai_Rule ?fi_Rule ?pa_Rule_closeness ?pg_Rule_closeness ?pt_Rule_closeness ?pc_Rule_closeness ?pa_HostPattern_fixed ?pg_HostPattern_fixed ?pt_HostPattern_fixed ?pc_HostPattern_fixed ?pa_PathPattern_fixed ?pg_PathPattern_fixed ?pt_PathPattern_fixed ?pc_PathPattern_fixed ?pa_Rule_is_offer ?pg_Rule_is_offer ?pt_Rule_is_offer ?pc_Rule_is_offer ?qe_HostPattern ?qf_HostPattern ?qn_HostPattern ?qb_HostPattern_NoneType ?qb_HostPattern_bool ?qb_HostPattern_int ?qb_HostPattern_str ?qb_HostPattern_tuple ?qb_HostPattern_list ?qb_HostPattern_dict ?qo_HostPattern_HostPattern ?qo_HostPattern_Page ?qo_HostPattern_PathPattern ?qo_HostPattern_Rule ?qe_Page ?qf_Page ?qn_Page ?qb_Page_NoneType ?qb_Page_bool ?qb_Page_int ?qb_Page_str ?qb_Page_tuple ?qb_Page_list ?qb_Page_dict ?qo_Page_HostPattern ?qo_Page_Page ?qo_Page_PathPattern ?qo_Page_Rule ?qe_PathPattern ?qf_PathPattern ?qn_PathPattern ?qb_PathPattern_NoneType ?qb_PathPattern_bool ?qb_PathPattern_int ?qb_PathPattern_str ?qb_PathPattern_tuple ?qb_PathPattern_list ?qb_PathPattern_dict ?qo_PathPattern_HostPattern ?qo_PathPattern_Page ?qo_PathPattern_PathPattern ?qo_PathPattern_Rule ?qe_Rule ?qf_Rule ?qn_Rule ?qb_Rule_NoneType ?qb_Rule_bool ?qb_Rule_int ?qb_Rule_str ?qb_Rule_tuple ?qb_Rule_list ?qb_Rule_dict ?qo_Rule_HostPattern ?qo_Rule_Page ?qo_Rule_PathPattern ?qo_Rule_Rule ?ic_HostPattern ?tc_HostPattern ?sC_HostPattern_Page ?sC_HostPattern_HostPattern ?sC_HostPattern_PathPattern ?sC_HostPattern_Rule ?sb_HostPattern_NoneType ?sb_HostPattern_bool ?sb_HostPattern_int ?sb_HostPattern_str ?sb_HostPattern_tuple ?sb_HostPattern_list ?sb_HostPattern_dict ?ic_Page ?tc_Page ?sC_Page_Page ?sC_Page_HostPattern ?sC_Page_PathPattern ?sC_Page_Rule ?sb_Page_NoneType ?sb_Page_bool ?sb_Page_int ?sb_Page_str ?sb_Page_tuple ?sb_Page_list ?sb_Page_dict ?ic_PathPattern ?tc_PathPattern ?sC_PathPattern_Page ?sC_PathPattern_HostPattern ?sC_PathPattern_PathPattern ?sC_PathPattern_Rule ?sb_PathPattern_NoneType ?sb_PathPattern_bool ?sb_PathPattern_int ?sb_PathPattern_str ?sb_PathPattern_tuple ?sb_PathPattern_list ?sb_PathPattern_dict ?ic_Rule ?tc_Rule ?sC_Rule_Page ?sC_Rule_HostPattern ?sC_Rule_PathPattern ?sC_Rule_Rule ?sb_Rule_NoneType ?sb_Rule_bool ?sb_Rule_int ?sb_Rule_str ?sb_Rule_tuple ?sb_Rule_list ?sb_Rule_dict ?aC_Pattern ?ai_Pattern ?zsuper ?tpany ?topsup ?a0 ?l0 ?c0 ?k0 ?a1 ?l1 ?c1 ?k1 ?a2 ?l2 ?c2 ?k2 ?a3 ?l3 ?c3 ?k3 ?a4 ?l4 ?c4 ?k4 ?a5 ?l5 ?c5 ?k5 ?l6 ?c6 ?k6 ?l7 ?c7 ?k7 ?l8 ?c8 ?k8 ?l9 ?c9 ?k9 ?l10 ?c10 ?k10 ?l11 ?c11 ?k11 ?l12 ?c12 ?k12 ?l13 ?c13 ?k13 ?a14 ?l14 ?c14 ?k14 ?a15 ?l15 ?c15 ?k15 ?a16 ?l16 ?c16 ?k16 ?a17 ?l17 ?c17 ?k17 ?a18 ?l18 ?c18 ?k18 ?a19 ?l19 ?c19 ?k19 ?a20 ?l20 ?c20 ?k20 ?a21 ?l21 ?c21 ?k21 ?a22 ?l22 ?c22 ?k22 ?a23 ?l23 ?c23 ?k23 ?a24 ?l24 ?c24 ?k24 ?l25 ?c25 ?k25 ?a26 ?l26 ?c26 ?k26 ?a27 ?l27 ?c27 ?k27 ?l28 ?c28 ?k28 ?lc28 ?hv28 ?hf28 ?hcc28 ?hcl28 ?hm28 ?tb28 ?is28 ?l29 ?c29 ?k29 ?lc29 ?hv29 ?hf29 ?hcc29 ?hcl29 ?hm29 ?tb29 ?is29 ?a30 ?l30 ?c30 ?k30 ?a31 ?l31 ?c31 ?k31 ?a32 ?l32 ?c32 ?k32 ?a33 ?l33 ?c33 ?k33 ?l34 ?c34 ?k34 ?a35 ?l35 ?c35 ?k35 ?aC_BadHost ?xL_BadHost ?sa_BadHost ?ga_BadHost ?gg_BadHost ?nb_BadHost ?ai_BadHost ?ti_BadHost ?li_BadHost ?ci_BadHost ?kC_BadHost ?eC_BadHost ?tC_BadHost ?hC_BadHost ?iC_BadHost ?sC_BadHost ?aC_BadPage ?xL_BadPage ?sa_BadPage ?ga_BadPage ?gg_BadPage ?nb_BadPage ?ai_BadPage ?ti_BadPage ?li_BadPage ?ci_BadPage ?kC_BadPage ?eC_BadPage ?tC_BadPage ?hC_BadPage ?iC_BadPage ?sC_BadPage ?aC_BadPath ?xL_BadPath ?sa_BadPath ?ga_BadPath ?gg_BadPath ?nb_BadPath ?ai_BadPath ?ti_BadPath ?li_BadPath ?ci_BadPath ?kC_BadPath ?eC_BadPath ?tC_BadPath ?hC_BadPath ?iC_BadPath ?sC_BadPath ?aC_BadPattern ?xL_BadPattern ?sa_BadPattern ?ga_BadPattern ?gg_BadPattern ?nb_BadPattern ?ai_BadPattern ?ti_BadPattern ?li_BadPattern ?ci_BadPattern ?kC_BadPattern ?eC_BadPattern ?tC_BadPattern ?hC_BadPattern ?iC_BadPattern ?sC_BadPattern ?aC_BadPort ?xL_BadPort ?sa_BadPort ?ga_BadPort ?gg_BadPort ?nb_BadPort ?ai_BadPort ?ti_BadPort ?li_BadPort ?ci_BadPort ?kC_BadPort ?eC_BadPort ?tC_BadPort ?hC_BadPort ?iC_BadPort ?sC_BadPort ?aC_BadRule ?xL_BadRule ?sa_BadRule ?ga_BadRule ?gg_BadRule ?nb_BadRule ?ai_BadRule ?ti_BadRule ?li_BadRule ?ci_BadRule ?kC_BadRule ?eC_BadRule ?tC_BadRule ?hC_BadRule ?iC_BadRule ?sC_BadRule ?aC_BadScheme ?xL_BadScheme ?sa_BadScheme ?ga_BadScheme ?gg_BadScheme ?nb_BadScheme ?ai_BadScheme ?ti_BadScheme ?li_BadScheme ?ci_BadScheme ?kC_BadScheme ?eC_BadScheme ?tC_BadScheme ?hC_BadScheme ?iC_BadScheme ?sC_BadScheme ?kn_BadHost_BadHost ?kn_BadPage_BadHost ?kn_BadPath_BadHost ?kn_BadPattern_BadHost ?kn_BadPort_BadHost ?kn_BadRule_BadHost ?kn_BadScheme_BadHost ?kn_BadHost_BadPage ?kn_BadPage_BadPage ?kn_BadPath_BadPage ?kn_BadPattern_BadPage ?kn_BadPort_BadPage ?kn_BadRule_BadPage ?kn_BadScheme_BadPage ?kn_BadHost_BadPath ?kn_BadPage_BadPath ?kn_BadPath_BadPath ?kn_BadPattern_BadPath ?kn_BadPort_BadPath ?kn_BadRule_BadPath ?kn_BadScheme_BadPath ?kn_BadHost_BadPattern ?kn_BadPage_BadPattern ?kn_BadPath_BadPattern ?kn_BadPattern_BadPattern ?kn_BadPort_BadPattern ?kn_BadRule_BadPattern ?kn_BadScheme_BadPattern ?kn_BadHost_BadPort ?kn_BadPage_BadPort ?kn_BadPath_BadPort ?kn_BadPattern_BadPort ?kn_BadPort_BadPort ?kn_BadRule_BadPort ?kn_BadScheme_BadPort ?kn_BadHost_BadRule ?kn_BadPage_BadRule ?kn_BadPath_BadRule ?kn_BadPattern_BadRule ?kn_BadPort_BadRule ?kn_BadRule_BadRule ?kn_BadScheme_BadRule ?kn_BadHost_BadScheme ?kn_BadPage_BadScheme ?kn_BadPath_BadScheme ?kn_BadPattern_BadScheme ?kn_BadPort_BadScheme ?kn_BadRule_BadScheme ?kn_BadScheme_BadScheme ?z_abs ?z_enumerate ?z_int ?z_isinstance ?z_len ?z_list ?z_max ?z_min ?z_range ?z_repr ?z_str ?z_tuple ?g_ALL_PORTS ?gl_ALL_PORTS ?g_CHARACTERS ?g_GAP ?g_HOST ?g_HOST_LIMITS ?gl_HOST_LIMITS ?g_LONGEST_LABEL ?g_LONGEST_TEXT ?g_MOST_LABELS ?g_MOST_NEAR ?g_MOST_PORT ?g_PATH ?g_PATH_LIMITS ?gl_PATH_LIMITS
    (case aC_HostPattern => k_is)
    (case pg_HostPattern => k_is)
    (case hd_HostPattern => k_is)
    (case po_HostPattern => k_is)
    (case sa_HostPattern => k_is)
    (case ca_HostPattern => k_is)
    (case cn_HostPattern => k_is)
    (case ct_HostPattern => k_is)
    (case cm_HostPattern => k_is)
    (case nf_HostPattern_text => k_is)
    (case nf_HostPattern_level => k_is)
    (case nf_HostPattern_head => k_is)
    (case nf_HostPattern_tail => k_is)
    (case nf_HostPattern_gap => k_is)
    (case mk_HostPattern => k_is)
    (case kc_HostPattern => k_is)
    (case ai_HostPattern => k_is)
    (case fi_HostPattern => k_is)
    (case aC_Page => k_is)
    (case pg_Page => k_is)
    (case hd_Page => k_is)
    (case po_Page => k_is)
    (case sa_Page => k_is)
    (case ca_Page => k_is)
    (case cn_Page => k_is)
    (case ct_Page => k_is)
    (case cm_Page => k_is)
    (case nf_Page_scheme => k_is)
    (case nf_Page_host => k_is)
    (case nf_Page_port => k_is)
    (case nf_Page_path => k_is)
    (case nf_Page_text => k_is)
    (case aC_PathPattern => k_is)
    (case pg_PathPattern => k_is)
    (case hd_PathPattern => k_is)
    (case po_PathPattern => k_is)
    (case sa_PathPattern => k_is)
    (case ca_PathPattern => k_is)
    (case cn_PathPattern => k_is)
    (case ct_PathPattern => k_is)
    (case cm_PathPattern => k_is)
    (case nf_PathPattern_text => k_is)
    (case nf_PathPattern_level => k_is)
    (case nf_PathPattern_head => k_is)
    (case nf_PathPattern_tail => k_is)
    (case nf_PathPattern_gap => k_is)
    (case mk_PathPattern => k_is)
    (case kc_PathPattern => k_is)
    (case ai_PathPattern => k_is)
    (case fi_PathPattern => k_is)
    (case aC_Rule => k_is)
    (case pg_Rule => k_is)
    (case hd_Rule => k_is)
    (case po_Rule => k_is)
    (case sa_Rule => k_is)
    (case ca_Rule => k_is)
    (case cn_Rule => k_is)
    (case ct_Rule => k_is)
    (case cm_Rule => k_is)
    (case nf_Rule_text => k_is)
    (case nf_Rule_sign => k_is)
    (case nf_Rule_scheme => k_is)
    (case nf_Rule_written_ports => k_is)
    (case nf_Rule_ports => k_is)
    (case nf_Rule_near => k_is)
    (case nf_Rule_host => k_is)
    (case nf_Rule_path => k_is)
    (case mk_Rule => k_is)
    (case kc_Rule => k_is)
    (case ai_Rule => k_is)
    (case fi_Rule => k_is)
    (case pa_Rule_closeness => k_is)
    (case pg_Rule_closeness => k_is)
    (case pt_Rule_closeness => k_is)
    (case pc_Rule_closeness => k_is)
    (case pa_HostPattern_fixed => k_is)
    (case pg_HostPattern_fixed => k_is)
    (case pt_HostPattern_fixed => k_is)
    (case pc_HostPattern_fixed => k_is)
    (case pa_PathPattern_fixed => k_is)
    (case pg_PathPattern_fixed => k_is)
    (case pt_PathPattern_fixed => k_is)
    (case pc_PathPattern_fixed => k_is)
    (case pa_Rule_is_offer => k_is)
    (case pg_Rule_is_offer => k_is)
    (case pt_Rule_is_offer => k_is)
    (case pc_Rule_is_offer => k_is)
    (case qe_HostPattern => k_is)
    (case qf_HostPattern => k_is)
    (case qn_HostPattern => k_is)
    (case qb_HostPattern_NoneType => k_is)
    (case qb_HostPattern_bool => k_is)
    (case qb_HostPattern_int => k_is)
    (case qb_HostPattern_str => k_is)
    (case qb_HostPattern_tuple => k_is)
    (case qb_HostPattern_list => k_is)
    (case qb_HostPattern_dict => k_is)
    (case qo_HostPattern_HostPattern => k_is)
    (case qo_HostPattern_Page => k_is)
    (case qo_HostPattern_PathPattern => k_is)
    (case qo_HostPattern_Rule => k_is)
    (case qe_Page => k_is)
    (case qf_Page => k_is)
    (case qn_Page => k_is)
    (case qb_Page_NoneType => k_is)
    (case qb_Page_bool => k_is)
    (case qb_Page_int => k_is)
    (case qb_Page_str => k_is)
    (case qb_Page_tuple => k_is)
    (case qb_Page_list => k_is)
    (case qb_Page_dict => k_is)
    (case qo_Page_HostPattern => k_is)
    (case qo_Page_Page => k_is)
    (case qo_Page_PathPattern => k_is)
    (case qo_Page_Rule => k_is)
    (case qe_PathPattern => k_is)
    (case qf_PathPattern => k_is)
    (case qn_PathPattern => k_is)
    (case qb_PathPattern_NoneType => k_is)
    (case qb_PathPattern_bool => k_is)
    (case qb_PathPattern_int => k_is)
    (case qb_PathPattern_str => k_is)
    (case qb_PathPattern_tuple => k_is)
    (case qb_PathPattern_list => k_is)
    (case qb_PathPattern_dict => k_is)
    (case qo_PathPattern_HostPattern => k_is)
    (case qo_PathPattern_Page => k_is)
    (case qo_PathPattern_PathPattern => k_is)
    (case qo_PathPattern_Rule => k_is)
    (case qe_Rule => k_is)
    (case qf_Rule => k_is)
    (case qn_Rule => k_is)
    (case qb_Rule_NoneType => k_is)
    (case qb_Rule_bool => k_is)
    (case qb_Rule_int => k_is)
    (case qb_Rule_str => k_is)
    (case qb_Rule_tuple => k_is)
    (case qb_Rule_list => k_is)
    (case qb_Rule_dict => k_is)
    (case qo_Rule_HostPattern => k_is)
    (case qo_Rule_Page => k_is)
    (case qo_Rule_PathPattern => k_is)
    (case qo_Rule_Rule => k_is)
    (case ic_HostPattern => k_is)
    (case tc_HostPattern => k_is)
    (case sC_HostPattern_Page => first | rfl | k_is)
    (case sC_HostPattern_HostPattern => first | rfl | k_is)
    (case sC_HostPattern_PathPattern => first | rfl | k_is)
    (case sC_HostPattern_Rule => first | rfl | k_is)
    (case sb_HostPattern_NoneType => k_is)
    (case sb_HostPattern_bool => k_is)
    (case sb_HostPattern_int => k_is)
    (case sb_HostPattern_str => k_is)
    (case sb_HostPattern_tuple => k_is)
    (case sb_HostPattern_list => k_is)
    (case sb_HostPattern_dict => k_is)
    (case ic_Page => k_is)
    (case tc_Page => k_is)
    (case sC_Page_Page => first | rfl | k_is)
    (case sC_Page_HostPattern => first | rfl | k_is)
    (case sC_Page_PathPattern => first | rfl | k_is)
    (case sC_Page_Rule => first | rfl | k_is)
    (case sb_Page_NoneType => k_is)
    (case sb_Page_bool => k_is)
    (case sb_Page_int => k_is)
    (case sb_Page_str => k_is)
    (case sb_Page_tuple => k_is)
    (case sb_Page_list => k_is)
    (case sb_Page_dict => k_is)
    (case ic_PathPattern => k_is)
    (case tc_PathPattern => k_is)
    (case sC_PathPattern_Page => first | rfl | k_is)
    (case sC_PathPattern_HostPattern => first | rfl | k_is)
    (case sC_PathPattern_PathPattern => first | rfl | k_is)
    (case sC_PathPattern_Rule => first | rfl | k_is)
    (case sb_PathPattern_NoneType => k_is)
    (case sb_PathPattern_bool => k_is)
    (case sb_PathPattern_int => k_is)
    (case sb_PathPattern_str => k_is)
    (case sb_PathPattern_tuple => k_is)
    (case sb_PathPattern_list => k_is)
    (case sb_PathPattern_dict => k_is)
    (case ic_Rule => k_is)
    (case tc_Rule => k_is)
    (case sC_Rule_Page => first | rfl | k_is)
    (case sC_Rule_HostPattern => first | rfl | k_is)
    (case sC_Rule_PathPattern => first | rfl | k_is)
    (case sC_Rule_Rule => first | rfl | k_is)
    (case sb_Rule_NoneType => k_is)
    (case sb_Rule_bool => k_is)
    (case sb_Rule_int => k_is)
    (case sb_Rule_str => k_is)
    (case sb_Rule_tuple => k_is)
    (case sb_Rule_list => k_is)
    (case sb_Rule_dict => k_is)
    (case aC_Pattern => k_is)
    (case ai_Pattern => k_is)
    (case zsuper => k_is)
    (case tpany => k_is)
    (case a0 => k_is)
    (case l0 => k_is)
    (case c0 => k_is)
    (case k0 => k_is)
    (case a1 => k_is)
    (case l1 => k_is)
    (case c1 => k_is)
    (case k1 => k_is)
    (case a2 => k_is)
    (case l2 => k_is)
    (case c2 => k_is)
    (case k2 => k_is)
    (case a3 => k_is)
    (case l3 => k_is)
    (case c3 => k_is)
    (case k3 => k_is)
    (case a4 => k_is)
    (case l4 => k_is)
    (case c4 => k_is)
    (case k4 => k_is)
    (case a5 => k_is)
    (case l5 => k_is)
    (case c5 => k_is)
    (case k5 => k_is)
    (case l6 => k_is)
    (case c6 => k_is)
    (case k6 => k_is)
    (case l7 => k_is)
    (case c7 => k_is)
    (case k7 => k_is)
    (case l8 => k_is)
    (case c8 => k_is)
    (case k8 => k_is)
    (case l9 => k_is)
    (case c9 => k_is)
    (case k9 => k_is)
    (case l10 => k_is)
    (case c10 => k_is)
    (case k10 => k_is)
    (case l11 => k_is)
    (case c11 => k_is)
    (case k11 => k_is)
    (case l12 => k_is)
    (case c12 => k_is)
    (case k12 => k_is)
    (case l13 => k_is)
    (case c13 => k_is)
    (case k13 => k_is)
    (case a14 => k_is)
    (case l14 => k_is)
    (case c14 => k_is)
    (case k14 => k_is)
    (case a15 => k_is)
    (case l15 => k_is)
    (case c15 => k_is)
    (case k15 => k_is)
    (case a16 => k_is)
    (case l16 => k_is)
    (case c16 => k_is)
    (case k16 => k_is)
    (case a17 => k_is)
    (case l17 => k_is)
    (case c17 => k_is)
    (case k17 => k_is)
    (case a18 => k_is)
    (case l18 => k_is)
    (case c18 => k_is)
    (case k18 => k_is)
    (case a19 => k_is)
    (case l19 => k_is)
    (case c19 => k_is)
    (case k19 => k_is)
    (case a20 => k_is)
    (case l20 => k_is)
    (case c20 => k_is)
    (case k20 => k_is)
    (case a21 => k_is)
    (case l21 => k_is)
    (case c21 => k_is)
    (case k21 => k_is)
    (case a22 => k_is)
    (case l22 => k_is)
    (case c22 => k_is)
    (case k22 => k_is)
    (case a23 => k_is)
    (case l23 => k_is)
    (case c23 => k_is)
    (case k23 => k_is)
    (case a24 => k_is)
    (case l24 => k_is)
    (case c24 => k_is)
    (case k24 => k_is)
    (case l25 => k_is)
    (case c25 => k_is)
    (case k25 => k_is)
    (case a26 => k_is)
    (case l26 => k_is)
    (case c26 => k_is)
    (case k26 => k_is)
    (case a27 => k_is)
    (case l27 => k_is)
    (case c27 => k_is)
    (case k27 => k_is)
    (case l28 => k_is)
    (case c28 => k_is)
    (case k28 => k_is)
    (case lc28 => k_is)
    (case hv28 => first | rfl | kernel_rfl)
    (case hf28 => first | rfl | decide +kernel | kernel_rfl)
    (case hcc28 => k_is)
    (case hcl28 => k_is)
    (case hm28 => k_is)
    (case l29 => k_is)
    (case c29 => k_is)
    (case k29 => k_is)
    (case lc29 => k_is)
    (case hv29 => first | rfl | kernel_rfl)
    (case hf29 => first | rfl | decide +kernel | kernel_rfl)
    (case hcc29 => k_is)
    (case hcl29 => k_is)
    (case hm29 => k_is)
    (case a30 => k_is)
    (case l30 => k_is)
    (case c30 => k_is)
    (case k30 => k_is)
    (case a31 => k_is)
    (case l31 => k_is)
    (case c31 => k_is)
    (case k31 => k_is)
    (case a32 => k_is)
    (case l32 => k_is)
    (case c32 => k_is)
    (case k32 => k_is)
    (case a33 => k_is)
    (case l33 => k_is)
    (case c33 => k_is)
    (case k33 => k_is)
    (case l34 => k_is)
    (case c34 => k_is)
    (case k34 => k_is)
    (case a35 => k_is)
    (case l35 => k_is)
    (case c35 => k_is)
    (case k35 => k_is)
    (case aC_BadHost => k_is)
    (case xL_BadHost => k_is)
    (case sa_BadHost => k_is)
    (case ga_BadHost => k_is)
    (case gg_BadHost => k_is)
    (case nb_BadHost => k_is)
    (case ai_BadHost => k_is)
    (case ti_BadHost => k_is)
    (case li_BadHost => k_is)
    (case ci_BadHost => k_is)
    (case kC_BadHost => k_is)
    (case eC_BadHost => k_is)
    (case tC_BadHost => k_is)
    (case hC_BadHost => k_is)
    (case iC_BadHost => k_is)
    (case sC_BadHost => first | rfl | k_is)
    (case aC_BadPage => k_is)
    (case xL_BadPage => k_is)
    (case sa_BadPage => k_is)
    (case ga_BadPage => k_is)
    (case gg_BadPage => k_is)
    (case nb_BadPage => k_is)
    (case ai_BadPage => k_is)
    (case ti_BadPage => k_is)
    (case li_BadPage => k_is)
    (case ci_BadPage => k_is)
    (case kC_BadPage => k_is)
    (case eC_BadPage => k_is)
    (case tC_BadPage => k_is)
    (case hC_BadPage => k_is)
    (case iC_BadPage => k_is)
    (case sC_BadPage => first | rfl | k_is)
    (case aC_BadPath => k_is)
    (case xL_BadPath => k_is)
    (case sa_BadPath => k_is)
    (case ga_BadPath => k_is)
    (case gg_BadPath => k_is)
    (case nb_BadPath => k_is)
    (case ai_BadPath => k_is)
    (case ti_BadPath => k_is)
    (case li_BadPath => k_is)
    (case ci_BadPath => k_is)
    (case kC_BadPath => k_is)
    (case eC_BadPath => k_is)
    (case tC_BadPath => k_is)
    (case hC_BadPath => k_is)
    (case iC_BadPath => k_is)
    (case sC_BadPath => first | rfl | k_is)
    (case aC_BadPattern => k_is)
    (case xL_BadPattern => k_is)
    (case sa_BadPattern => k_is)
    (case ga_BadPattern => k_is)
    (case gg_BadPattern => k_is)
    (case nb_BadPattern => k_is)
    (case ai_BadPattern => k_is)
    (case ti_BadPattern => k_is)
    (case li_BadPattern => k_is)
    (case ci_BadPattern => k_is)
    (case kC_BadPattern => k_is)
    (case eC_BadPattern => k_is)
    (case tC_BadPattern => k_is)
    (case hC_BadPattern => k_is)
    (case iC_BadPattern => k_is)
    (case sC_BadPattern => first | rfl | k_is)
    (case aC_BadPort => k_is)
    (case xL_BadPort => k_is)
    (case sa_BadPort => k_is)
    (case ga_BadPort => k_is)
    (case gg_BadPort => k_is)
    (case nb_BadPort => k_is)
    (case ai_BadPort => k_is)
    (case ti_BadPort => k_is)
    (case li_BadPort => k_is)
    (case ci_BadPort => k_is)
    (case kC_BadPort => k_is)
    (case eC_BadPort => k_is)
    (case tC_BadPort => k_is)
    (case hC_BadPort => k_is)
    (case iC_BadPort => k_is)
    (case sC_BadPort => first | rfl | k_is)
    (case aC_BadRule => k_is)
    (case xL_BadRule => k_is)
    (case sa_BadRule => k_is)
    (case ga_BadRule => k_is)
    (case gg_BadRule => k_is)
    (case nb_BadRule => k_is)
    (case ai_BadRule => k_is)
    (case ti_BadRule => k_is)
    (case li_BadRule => k_is)
    (case ci_BadRule => k_is)
    (case kC_BadRule => k_is)
    (case eC_BadRule => k_is)
    (case tC_BadRule => k_is)
    (case hC_BadRule => k_is)
    (case iC_BadRule => k_is)
    (case sC_BadRule => first | rfl | k_is)
    (case aC_BadScheme => k_is)
    (case xL_BadScheme => k_is)
    (case sa_BadScheme => k_is)
    (case ga_BadScheme => k_is)
    (case gg_BadScheme => k_is)
    (case nb_BadScheme => k_is)
    (case ai_BadScheme => k_is)
    (case ti_BadScheme => k_is)
    (case li_BadScheme => k_is)
    (case ci_BadScheme => k_is)
    (case kC_BadScheme => k_is)
    (case eC_BadScheme => k_is)
    (case tC_BadScheme => k_is)
    (case hC_BadScheme => k_is)
    (case iC_BadScheme => k_is)
    (case sC_BadScheme => first | rfl | k_is)
    (case kn_BadHost_BadHost => k_is)
    (case kn_BadPage_BadHost => k_is)
    (case kn_BadPath_BadHost => k_is)
    (case kn_BadPattern_BadHost => k_is)
    (case kn_BadPort_BadHost => k_is)
    (case kn_BadRule_BadHost => k_is)
    (case kn_BadScheme_BadHost => k_is)
    (case kn_BadHost_BadPage => k_is)
    (case kn_BadPage_BadPage => k_is)
    (case kn_BadPath_BadPage => k_is)
    (case kn_BadPattern_BadPage => k_is)
    (case kn_BadPort_BadPage => k_is)
    (case kn_BadRule_BadPage => k_is)
    (case kn_BadScheme_BadPage => k_is)
    (case kn_BadHost_BadPath => k_is)
    (case kn_BadPage_BadPath => k_is)
    (case kn_BadPath_BadPath => k_is)
    (case kn_BadPattern_BadPath => k_is)
    (case kn_BadPort_BadPath => k_is)
    (case kn_BadRule_BadPath => k_is)
    (case kn_BadScheme_BadPath => k_is)
    (case kn_BadHost_BadPattern => k_is)
    (case kn_BadPage_BadPattern => k_is)
    (case kn_BadPath_BadPattern => k_is)
    (case kn_BadPattern_BadPattern => k_is)
    (case kn_BadPort_BadPattern => k_is)
    (case kn_BadRule_BadPattern => k_is)
    (case kn_BadScheme_BadPattern => k_is)
    (case kn_BadHost_BadPort => k_is)
    (case kn_BadPage_BadPort => k_is)
    (case kn_BadPath_BadPort => k_is)
    (case kn_BadPattern_BadPort => k_is)
    (case kn_BadPort_BadPort => k_is)
    (case kn_BadRule_BadPort => k_is)
    (case kn_BadScheme_BadPort => k_is)
    (case kn_BadHost_BadRule => k_is)
    (case kn_BadPage_BadRule => k_is)
    (case kn_BadPath_BadRule => k_is)
    (case kn_BadPattern_BadRule => k_is)
    (case kn_BadPort_BadRule => k_is)
    (case kn_BadRule_BadRule => k_is)
    (case kn_BadScheme_BadRule => k_is)
    (case kn_BadHost_BadScheme => k_is)
    (case kn_BadPage_BadScheme => k_is)
    (case kn_BadPath_BadScheme => k_is)
    (case kn_BadPattern_BadScheme => k_is)
    (case kn_BadPort_BadScheme => k_is)
    (case kn_BadRule_BadScheme => k_is)
    (case kn_BadScheme_BadScheme => k_is)
    (case z_abs => k_is)
    (case z_enumerate => k_is)
    (case z_int => k_is)
    (case z_isinstance => k_is)
    (case z_len => k_is)
    (case z_list => k_is)
    (case z_max => k_is)
    (case z_min => k_is)
    (case z_range => k_is)
    (case z_repr => k_is)
    (case z_str => k_is)
    (case z_tuple => k_is)
    (case g_ALL_PORTS => k_is)
    (case gl_ALL_PORTS => k_is)
    (case g_CHARACTERS => k_is)
    (case g_GAP => k_is)
    (case g_HOST => k_is)
    (case g_HOST_LIMITS => k_is)
    (case gl_HOST_LIMITS => k_is)
    (case g_LONGEST_LABEL => k_is)
    (case g_LONGEST_TEXT => k_is)
    (case g_MOST_LABELS => k_is)
    (case g_MOST_NEAR => k_is)
    (case g_MOST_PORT => k_is)
    (case g_PATH => k_is)
    (case g_PATH_LIMITS => k_is)
    (case gl_PATH_LIMITS => k_is)
    (case topsup => first | rfl | decide +kernel | kernel_rfl)
    (case tb28 => k_is)
    (case is28 => first | kernel_rfl | rfl | decide +kernel)
    (case tb29 => k_is)
    (case is29 => first | kernel_rfl | rfl | decide +kernel)
