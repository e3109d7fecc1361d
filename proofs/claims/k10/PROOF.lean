import PyProof.Rows.All
import Wide.All
import OpenK.AllK
import Wide.FinOn
import HandS.ForMost
import HandS.ForExc
import HandS.CallSlots
import HandS.TupAny
import KE.GoesNew
import HandS.IsInst
import HandS.Style
import HandS.Deep
import PySem.Challenge.RW_betweencoats_k10_cores_and_their_tails
set_option Elab.async false
set_option linter.all false
set_option maxRecDepth 100000
set_option maxHeartbeats 4000000
/-! The layer: what a text of Python does, said of plain data. -/
namespace BC
open PySem PySem.Spec PyProof.Rows L2

def Ex (H H' : Hp) : Prop := ∀ a o, H a = some o → H' a = some o
theorem Ex.refl (K0 : Hp) : Ex K0 K0 := fun _ _ h9 => h9
theorem Ex.trans {H H1 H2 : Hp} (a : Ex H H1) (b : Ex H1 H2) : Ex H H2 := fun x o h => b x o (a x o h)
theorem Ex.new {H : Hp} {p : Addr} {o : HO} (h : H p = none) : Ex H (upd H p o) := fun a u e => by
  rw [upd_ne (ne_of_none e h)]
  exact e
theorem Ex.rd {H H' : Hp} {a : Addr} {u : HO} (e : Ex H H') (h : Rd H a u) : Rd H' a u := by
  rcases h with h | ⟨o, h⟩
  · exact Or.inl (e a _ h)
  · exact Or.inr ⟨o, e a _ h⟩
theorem Ex.l {K : PySem.W.Frag} {H H' : Hp} {a : Addr} {xs : List V} (e : Ex H H') (h : SqL K H a xs) : SqL K H' a xs := by
  rcases h with h | h
  · exact Or.inl (e.rd h)
  · exact Or.inr h
theorem Ex.t {K : PySem.W.Frag} {H H' : Hp} {a : Addr} {xs : List V} (e : Ex H H') (h : SqT K H a xs) : SqT K H' a xs := by
  rcases h with h | h
  · exact Or.inl (e.rd h)
  · exact Or.inr h
theorem Ex.nn {H H' : Hp} {p : Addr} (e : Ex H H') (h : H' p = none) : H p = none := by
  cases q : H p with
  | none => rfl
  | some o =>
    rw [e p o q] at h
    cases h

/-! ### plain data and how values bear it -/
class Rp (α : Type) where
  rp : PySem.W.Frag → α → V → Hp → Prop
  mono : ∀ {K x v H H'}, Ex H H' → rp K x v H → rp K x v H'
instance : Rp Int := ⟨fun _ i v _ => v = .int i, fun _ h => h⟩
instance : Rp Bool := ⟨fun _ i v _ => v = .bl i, fun _ h => h⟩
instance : Rp Str := ⟨fun _ i v _ => v = .str i, fun _ h => h⟩
instance : Rp Unit := ⟨fun _ _ v _ => v = .non, fun _ h => h⟩
/-- all of a row -/
def Al (α : Type) [Rp α] (K : PySem.W.Frag) (H : Hp) : List α → List V → Prop
  | [], vs => vs = []
  | x :: xs, vs => ∃ v r, vs = v :: r ∧ Rp.rp K x v H ∧ Al α K H xs r
section
variable {α : Type} [Rp α] {K : PySem.W.Frag} {H H' : Hp}
theorem Al.mono (e : Ex H H') : ∀ {xs : List α} {vs : List V}, Al α K H xs vs → Al α K H' xs vs
  | [], _, h => h
  | _ :: _, _, ⟨v, r, e1, h1, h2⟩ => ⟨v, r, e1, Rp.mono e h1, Al.mono e h2⟩
theorem Al.nil : Al α K H [] [] := rfl
theorem Al.cons {x : α} {xs : List α} {v : V} {vs : List V} (h : Rp.rp K x v H) (t : Al α K H xs vs) : Al α K H (x :: xs) (v :: vs) := ⟨v, vs, rfl, h, t⟩
theorem Al.len : ∀ {xs : List α} {vs : List V}, Al α K H xs vs → vs.length = xs.length
  | [], _, h => by rw [show _ = ([] : List V) from h]; rfl
  | _ :: _, _, ⟨v, r, e1, h1, h2⟩ => by rw [e1, List.length_cons, List.length_cons, Al.len h2]
theorem Al.app : ∀ {xs ys : List α} {vs ws : List V}, Al α K H xs vs → Al α K H ys ws → Al α K H (xs ++ ys) (vs ++ ws)
  | [], _, _, _, h, t => by rw [show _ = ([] : List V) from h]; exact t
  | _ :: _, _, _, _, ⟨v, r, e1, h1, h2⟩, t => by rw [e1]; exact ⟨v, _, rfl, h1, Al.app h2 t⟩
theorem Al.get : ∀ {xs : List α} {vs : List V} {i : Nat} {x : α}, Al α K H xs vs → xs[i]? = some x → ∃ v, vs[i]? = some v ∧ Rp.rp K x v H
  | [], _, _, _, _, e => by simp at e
  | _ :: _, _, 0, _, ⟨v, r, e1, h1, h2⟩, e => by
    simp at e
    subst e
    exact ⟨v, by rw [e1]; rfl, h1⟩
  | _ :: xs, _, i + 1, x, ⟨v, r, e1, h1, h2⟩, e => by
    obtain ⟨u, a, b⟩ := Al.get (i := i) (x := x) h2 (by simpa using e)
    exact ⟨u, by rw [e1]; simpa using a, b⟩
theorem Al.take : ∀ {xs : List α} {vs : List V} (n : Nat), Al α K H xs vs → Al α K H (xs.take n) (vs.take n)
  | _, _, 0, _ => rfl
  | [], _, n + 1, h => by rw [show _ = ([] : List V) from h]; rfl
  | _ :: _, _, n + 1, ⟨v, r, e1, h1, h2⟩ => by rw [e1]; exact ⟨v, _, rfl, h1, Al.take n h2⟩
theorem Al.drop : ∀ {xs : List α} {vs : List V} (n : Nat), Al α K H xs vs → Al α K H (xs.drop n) (vs.drop n)
  | _, _, 0, h => h
  | [], _, n + 1, h => by rw [show _ = ([] : List V) from h]; rfl
  | _ :: _, _, n + 1, ⟨v, r, e1, h1, h2⟩ => by rw [e1]; exact Al.drop n h2
theorem Al.set {y : α} {w : V} (hy : Rp.rp K y w H) : ∀ {xs : List α} {vs : List V} (n : Nat), Al α K H xs vs → Al α K H (xs.set n y) (vs.set n w)
  | [], _, n, h => by rw [show _ = ([] : List V) from h]; rfl
  | _ :: _, _, 0, ⟨v, r, e1, h1, h2⟩ => by rw [e1]; exact ⟨w, _, rfl, hy, h2⟩
  | _ :: _, _, n + 1, ⟨v, r, e1, h1, h2⟩ => by rw [e1]; exact ⟨v, _, rfl, h1, Al.set hy n h2⟩
theorem Al.rev {xs : List α} {vs : List V} (h : Al α K H xs vs) : Al α K H xs.reverse vs.reverse := by
  induction xs generalizing vs with
  | nil => rw [show _ = ([] : List V) from h]; rfl
  | cons x xs ih =>
    obtain ⟨v, r, e1, h1, h2⟩ := h
    rw [e1, List.reverse_cons, List.reverse_cons]
    exact Al.app (ih h2) (Al.cons h1 Al.nil)
end
/-- a Python list (a plain List is a tuple) -/
structure Lst (α : Type) where
  l : List α
instance {α : Type} [Rp α] : Rp (List α) := ⟨fun K xs v H => ∃ a vs, v = .ref a ∧ SqT K H a vs ∧ Al α K H xs vs, fun e ⟨a, vs, h1, h2, h3⟩ => ⟨a, vs, h1, e.t h2, h3.mono e⟩⟩
instance {α : Type} [Rp α] : Rp (Lst α) := ⟨fun K xs v H => ∃ a vs, v = .ref a ∧ H a = some (.lst vs) ∧ Al α K H xs.l vs, fun e ⟨a, vs, h1, h2, h3⟩ => ⟨a, vs, h1, e _ _ h2, h3.mono e⟩⟩
instance {α β : Type} [Rp α] [Rp β] : Rp (α × β) := ⟨fun K x v H => ∃ a u w, v = .ref a ∧ SqT K H a [u, w] ∧ Rp.rp K x.1 u H ∧ Rp.rp K x.2 w H, fun e ⟨a, u, w, h1, h2, h3, h4⟩ => ⟨a, u, w, h1, e.t h2, Rp.mono e h3, Rp.mono e h4⟩⟩
structure T3 (α β γ : Type) where
  a : α
  b : β
  c : γ
instance {α β γ : Type} [Rp α] [Rp β] [Rp γ] : Rp (T3 α β γ) := ⟨fun K x v H => ∃ a u w z, v = .ref a ∧ SqT K H a [u, w, z] ∧ Rp.rp K x.a u H ∧ Rp.rp K x.b w H ∧ Rp.rp K x.c z H,
  fun e ⟨a, u, w, z, h1, h2, h3, h4, h5⟩ => ⟨a, u, w, z, h1, e.t h2, Rp.mono e h3, Rp.mono e h4, Rp.mono e h5⟩⟩
instance {α : Type} [Rp α] : Rp (Option α) := ⟨fun K x v H => match x with
  | none => v = .non
  | some y => Rp.rp K y v H, fun {K x v H H'} e h => by
  cases x with
  | none => exact h
  | some y => exact Rp.mono (α := α) e h⟩

/-- a value's predicate -/
structure VP where
  p : PySem.W.Frag → V → Hp → Prop
  mono : ∀ {K v H H'}, Ex H H' → p K v H → p K v H'
def rv {α : Type} [Rp α] (x : α) : VP := ⟨fun K v H => Rp.rp K x v H, fun e h => Rp.mono e h⟩

/-! ### worlds: what never changes, what stands, whose it is -/
structure Wd where
  Hi : Hp
  H : Hp
  O : Addr → Option Nat
  pa : Nat → Option Addr
structure Wd.Ok (w : Wd) : Prop where
  sub : Ex w.Hi w.H
  ho : ∀ a i, w.O a = some i → w.Hi a = none ∧ w.H a ≠ none
structure Le (w w' : Wd) : Prop where
  hi : Ex w.Hi w'.Hi
  kp : ∀ b o, w.H b = some o → w.O b = none → w'.H b = some o ∧ w'.O b = none ∧ w'.Hi b = w.Hi b
  dm : ∀ b, w.H b ≠ none → w'.H b ≠ none
  pa : w'.pa = w.pa
theorem Le.refl (w : Wd) : Le w w := ⟨Ex.refl _, fun _ _ h k => ⟨h, k, rfl⟩, fun _ h => h, rfl⟩
theorem Le.trans {w w1 w2 : Wd} (a : Le w w1) (b : Le w1 w2) : Le w w2 where
  hi := a.hi.trans b.hi
  kp := fun c o h k => by
    obtain ⟨h1, k1, e1⟩ := a.kp c o h k
    obtain ⟨h2, k2, e2⟩ := b.kp c o h1 k1
    exact ⟨h2, k2, e2.trans e1⟩
  dm := fun c h => b.dm c (a.dm c h)
  pa := b.pa.trans a.pa
structure Slot where
  p : PySem.W.Frag → Nat → Option V → Wd → Prop
  mono : ∀ {K i s w w'}, p K i s w → Ex w.Hi w'.Hi → (∀ a, w.O a = some i → w'.O a = some i ∧ w'.H a = w.H a) → w'.pa = w.pa → p K i s w'
def un : Slot := ⟨fun _ _ _ _ => True, fun h _ _ _ => h⟩
def im (P : VP) : Slot := ⟨fun K _ s w => ∃ v, s = some v ∧ P.p K v w.Hi, fun ⟨v, e, h⟩ x _ _ => ⟨v, e, P.mono x h⟩⟩
/-- a list of one's own -/
def own {α : Type} [Rp α] (xs : List α) : Slot := ⟨fun K i s w => ∃ a vs, s = some (.ref a) ∧ w.O a = some i ∧ w.H a = some (.lst vs) ∧ Al α K w.Hi xs vs,
  fun ⟨a, vs, e, o, h, l⟩ x k _ => ⟨a, vs, e, (k a o).1, (k a o).2.trans h, l.mono x⟩⟩
/-- a list that was handed in to be changed -/
def par {α : Type} [Rp α] (xs : List α) : Slot := ⟨fun K i s w => ∃ a vs, s = some (.ref a) ∧ w.pa i = some a ∧ w.O a = some i ∧ w.H a = some (.lst vs) ∧ Al α K w.Hi xs vs,
  fun ⟨a, vs, e, q, o, h, l⟩ x k z => ⟨a, vs, e, by rw [z]; exact q, (k a o).1, (k a o).2.trans h, l.mono x⟩⟩
structure Rep (K : PySem.W.Frag) (env : List Slot) (σ : L2.St) (w : Wd) : Prop where
  ok : w.Ok
  len : σ.length = env.length
  sl : ∀ (i : Nat) (s : Slot), env[i]? = some s → ∃ x, σ[i]? = some x ∧ s.p K i x w
section
variable {K : PySem.W.Frag} {env env' : List Slot} {σ : L2.St} {w w' : Wd}
theorem Rep.to (R : Rep K env σ w) (ok : w'.Ok) (hi : Ex w.Hi w'.Hi) (k : ∀ a i, w.O a = some i → w'.O a = some i ∧ w'.H a = w.H a) (pa : w'.pa = w.pa) : Rep K env σ w' :=
  ⟨ok, R.len, fun i s e => let ⟨x, e1, h⟩ := R.sl i s e; ⟨x, e1, s.mono h hi (fun a => k a i) pa⟩⟩
/-- a new thing that never changes -/
def Wd.add (w : Wd) (p : Addr) (o : HO) : Wd := { w with Hi := upd w.Hi p o, H := upd w.H p o }
/-- a new thing that stands beside -/
def Wd.put (w : Wd) (p : Addr) (o : HO) : Wd := { w with H := upd w.H p o }
/-- a new thing of slot i -/
def Wd.new (w : Wd) (i : Nat) (p : Addr) (o : HO) : Wd := { w with H := upd w.H p o, O := fun b => if b = p then some i else w.O b }
theorem Wd.Ok.fresh (ok : w.Ok) {p : Addr} (h : w.H p = none) : w.Hi p = none ∧ w.O p = none := by
  refine ⟨ok.sub.nn h, ?_⟩
  cases q : w.O p with
  | none => rfl
  | some i => exact absurd h (ok.ho p i q).2
theorem Ex.both {H H' : Hp} {p : Addr} {o : HO} (e : Ex H H') : Ex (upd H p o) (upd H' p o) := fun a u h => by
  by_cases q : a = p
  · subst q
    rw [upd_same] at h ⊢
    exact h
  · rw [upd_ne q] at h ⊢
    exact e a u h
theorem Ex.put {H H' : Hp} {p : Addr} {o : HO} (e : Ex H H') (h : H p = none) : Ex H (upd H' p o) := fun a u q => by
  rw [upd_ne (ne_of_none q h)]
  exact e a u q
theorem upd_dom {H : Hp} {p : Addr} {o : HO} {b : Addr} (h : H b ≠ none) : upd H p o b ≠ none := by
  by_cases q : b = p
  · subst q
    rw [upd_same]
    exact fun z => by cases z
  · rw [upd_ne q]
    exact h
theorem add_ok (ok : w.Ok) {p : Addr} {o : HO} (h : w.H p = none) : (w.add p o).Ok := by
  obtain ⟨h1, h2⟩ := ok.fresh h
  refine ⟨ok.sub.both, fun a i q => ?_⟩
  have ne : a ≠ p := fun z => by
    subst z
    rw [show (w.add a o).O = w.O from rfl, h2] at q
    cases q
  refine ⟨?_, upd_dom (ok.ho a i q).2⟩
  show upd w.Hi p o a = none
  rw [upd_ne ne]
  exact (ok.ho a i q).1
theorem put_ok (ok : w.Ok) {p : Addr} {o : HO} (h : w.H p = none) : (w.put p o).Ok := by
  obtain ⟨h1, h2⟩ := ok.fresh h
  exact ⟨ok.sub.put h1, fun a i q => ⟨(ok.ho a i q).1, upd_dom (ok.ho a i q).2⟩⟩
theorem new_ok (ok : w.Ok) {i : Nat} {p : Addr} {o : HO} (h : w.H p = none) : (w.new i p o).Ok := by
  obtain ⟨h1, h2⟩ := ok.fresh h
  refine ⟨ok.sub.put h1, fun a j q => ?_⟩
  by_cases e : a = p
  · subst e
    refine ⟨h1, ?_⟩
    show upd w.H a o a ≠ none
    rw [upd_same]
    exact fun z => by cases z
  · have q' : w.O a = some j := by
      have : (if a = p then some i else w.O a) = some j := q
      rw [if_neg e] at this
      exact this
    exact ⟨(ok.ho a j q').1, upd_dom (ok.ho a j q').2⟩
theorem add_le (ok : w.Ok) {p : Addr} {o : HO} (h : w.H p = none) : Le w (w.add p o) := by
  obtain ⟨h1, h2⟩ := ok.fresh h
  refine ⟨Ex.new h1, fun b u q k => ?_, fun b q => upd_dom q, rfl⟩
  have ne : b ≠ p := ne_of_none q h
  exact ⟨(upd_ne ne).trans q, k, upd_ne ne⟩
theorem put_le (ok : w.Ok) {p : Addr} {o : HO} (h : w.H p = none) : Le w (w.put p o) := by
  refine ⟨Ex.refl _, fun b u q k => ?_, fun b q => upd_dom q, rfl⟩
  have ne : b ≠ p := ne_of_none q h
  exact ⟨(upd_ne ne).trans q, k, rfl⟩
theorem new_le (ok : w.Ok) {i : Nat} {p : Addr} {o : HO} (h : w.H p = none) : Le w (w.new i p o) := by
  refine ⟨Ex.refl _, fun b u q k => ?_, fun b q => upd_dom q, rfl⟩
  have ne : b ≠ p := ne_of_none q h
  exact ⟨(upd_ne ne).trans q, (if_neg ne).trans k, rfl⟩
theorem Rep.add (R : Rep K env σ w) {p : Addr} {o : HO} (h : w.H p = none) : Rep K env σ (w.add p o) := by
  obtain ⟨h1, h2⟩ := R.ok.fresh h
  refine R.to (add_ok R.ok h) (Ex.new h1) (fun a i q => ⟨q, ?_⟩) rfl
  exact upd_ne fun z => by subst z; rw [h2] at q; cases q
theorem Rep.put (R : Rep K env σ w) {p : Addr} {o : HO} (h : w.H p = none) : Rep K env σ (w.put p o) := by
  obtain ⟨h1, h2⟩ := R.ok.fresh h
  refine R.to (put_ok R.ok h) (Ex.refl _) (fun a i q => ⟨q, ?_⟩) rfl
  exact upd_ne fun z => by subst z; rw [h2] at q; cases q
theorem Rep.new (R : Rep K env σ w) {i : Nat} {p : Addr} {o : HO} (h : w.H p = none) : Rep K env σ (w.new i p o) := by
  obtain ⟨h1, h2⟩ := R.ok.fresh h
  refine R.to (new_ok R.ok h) (Ex.refl _) (fun a j q => ?_) rfl
  have ne : a ≠ p := fun z => by subst z; rw [h2] at q; cases q
  exact ⟨(if_neg ne).trans q, upd_ne ne⟩
/-- a slot is bound -/
theorem Rep.set (R : Rep K env σ w) {i : Nat} {s : Slot} {x : Option V} (h : s.p K i x w) : Rep K (env.set i s) (σ.set i x) w := by
  refine ⟨R.ok, by rw [List.length_set, List.length_set]; exact R.len, fun j t e => ?_⟩
  have hlt : j < env.length := by
    have := (List.getElem?_eq_some_iff.mp e).1
    rw [List.length_set] at this
    exact this
  by_cases q : i = j
  · subst q
    rw [List.getElem?_set_self hlt] at e
    cases e
    exact ⟨x, List.getElem?_set_self (by rw [R.len]; exact hlt), h⟩
  · rw [List.getElem?_set_ne q] at e
    rw [List.getElem?_set_ne q]
    exact R.sl j t e
/-- slots forgotten -/
theorem Rep.weak (R : Rep K env σ w) (hl : env'.length = env.length) (h : ∀ (i : Nat) (s : Slot), env'[i]? = some s → env[i]? = some s ∨ s = un) : Rep K env' σ w := by
  refine ⟨R.ok, by rw [hl]; exact R.len, fun i s e => ?_⟩
  rcases h i s e with q | q
  · exact R.sl i s q
  · have hlt : i < σ.length := by
      rw [R.len, ← hl]
      exact (List.getElem?_eq_some_iff.mp e).1
    exact ⟨σ[i], List.getElem?_eq_getElem hlt, by rw [q]; trivial⟩
end

/-! ### judgements: expressions -/
def tE (K : PySem.W.Frag) (env env' : List Slot) (P : VP) : TE := fun σ H Q => ∃ w : Wd, w.H = H ∧ Rep K env σ w ∧ ∀ v w', Rep K env' σ w' → Le w w' → P.p K v w'.Hi → Q v w'.H
abbrev HE (X : Cx) (e : Expr) (env env' : List Slot) (P : VP) : Prop := PE X e (tE X.K env env' P)
def tT (K : PySem.W.Frag) (env env' : List Slot) (b : Bool) : TT := fun σ H Q => ∃ w : Wd, w.H = H ∧ Rep K env σ w ∧ ∀ w', Rep K env' σ w' → Le w w' → Q b w'.H
abbrev HB (X : Cx) (e : Expr) (env env' : List Slot) (b : Bool) : Prop := PT X e (tT X.K env env' b)
abbrev HW (X : Cx) (e : Expr) (env env' : List Slot) (b : Bool) : Prop := PW X e (tT X.K env env' b)
def AlP (K : PySem.W.Frag) (H : Hp) : List VP → List V → Prop
  | [], vs => vs = []
  | P :: Ps, vs => ∃ v r, vs = v :: r ∧ P.p K v H ∧ AlP K H Ps r
theorem AlP.mono {K : PySem.W.Frag} {H H' : Hp} (e : Ex H H') : ∀ {Ps : List VP} {vs : List V}, AlP K H Ps vs → AlP K H' Ps vs
  | [], _, h => h
  | P :: _, _, ⟨v, r, e1, h1, h2⟩ => ⟨v, r, e1, P.mono e h1, AlP.mono e h2⟩
def tA (K : PySem.W.Frag) (env env' : List Slot) (Ps : List VP) : TA := fun σ H Q => ∃ w : Wd, w.H = H ∧ Rep K env σ w ∧ ∀ vs w', Rep K env' σ w' → Le w w' → AlP K w'.Hi Ps vs → Q vs w'.H
abbrev HA (X : Cx) (es : List Expr) (env env' : List Slot) (Ps : List VP) : Prop := PA X es (tA X.K env env' Ps)
/-- a fresh list -/
def tL {α : Type} [Rp α] (K : PySem.W.Frag) (env env' : List Slot) (xs : List α) : TE := fun σ H Q => ∃ w : Wd, w.H = H ∧ Rep K env σ w ∧ ∀ p vs w', Rep K env' σ w' → Le w w' → w'.H p = none → Al α K w'.Hi xs vs → Q (.ref p) (upd w'.H p (.lst vs))
abbrev HL {α : Type} [Rp α] (X : Cx) (e : Expr) (env env' : List Slot) (xs : List α) : Prop := PE X e (tL X.K env env' xs)
theorem _root_.L2.PE.imp {X : Cx} {e : Expr} {t t' : TE} (h : PE X e t) (k : ∀ σ H Q, t' σ H Q → t σ H Q) : PE X e t' := ⟨fun pins s σ H Q I q => h.run pins s σ H Q I (k σ H Q q)⟩
theorem _root_.L2.PT.imp {X : Cx} {e : Expr} {t t' : TT} (h : PT X e t) (k : ∀ σ H Q, t' σ H Q → t σ H Q) : PT X e t' := ⟨fun pins s σ H Q I q => h.run pins s σ H Q I (k σ H Q q)⟩
theorem _root_.L2.PW.imp {X : Cx} {e : Expr} {t t' : TT} (h : PW X e t) (k : ∀ σ H Q, t' σ H Q → t σ H Q) : PW X e t' := ⟨fun wh pins s σ H Q I q => h.run wh pins s σ H Q I (k σ H Q q)⟩
theorem _root_.L2.PA.imp {X : Cx} {es : List Expr} {t t' : TA} (h : PA X es t) (k : ∀ σ H Q, t' σ H Q → t σ H Q) : PA X es t' := ⟨fun pos pins s σ H Q I q => h.run pos pins s σ H Q I (k σ H Q q)⟩
theorem _root_.L2.PS.imp {X : Cx} {e : Stmt} {t t' : TS} (h : PS X e t) (k : ∀ D σ H, t' D σ H → t D σ H) : PS X e t' := ⟨fun pins s σ H D I q => h.run pins s σ H D I (k D σ H q)⟩
theorem _root_.L2.PSs.imp {X : Cx} {e : List Stmt} {t t' : TS} (h : PSs X e t) (k : ∀ D σ H, t' D σ H → t D σ H) : PSs X e t' := ⟨fun pins s σ H D I q => h.run pins s σ H D I (k D σ H q)⟩
section
variable {X : Cx} {env env1 env2 env3 : List Slot} {P R S : VP} {a b e : Expr} {pos : Pos}
theorem he_to (h : HE X e env env1 P) (k : ∀ K v H, P.p K v H → R.p K v H) : HE X e env env1 R :=
  h.imp fun σ H Q ⟨w, e1, R1, q⟩ => ⟨w, e1, R1, fun v w' R' l p => q v w' R' l (k _ _ _ p)⟩
theorem he_eq {α : Type} [Rp α] {x y : α} (h : HE X e env env1 (rv x)) (k : x = y) : HE X e env env1 (rv y) := by rw [← k]; exact h
theorem he_env (h : HE X e env env1 P) (k : env1 = env2) : HE X e env env2 P := by rw [← k]; exact h
theorem hb_eq {c d : Bool} (h : HB X e env env1 c) (k : c = d) : HB X e env env1 d := by rw [← k]; exact h
/-! names and constants -/
theorem he_var (i : Nat) {x : Str} (hi : env[i]? = some (im P)) (hN : X.N[i]? = some x := by rfl)
    (hv : Vis X.env.scope x := by first | exact Or.inl rfl | exact Or.inr (Or.inl rfl) | exact Or.inr (Or.inr rfl)) (hd : (x == ("__debug__" : Str)) = false := by decide) (hcd : (x == ("__classdict__" : Str)) = false := by decide) : HE X (.Name x pos) env env P :=
  (pe_var hN hv hd hcd).imp fun σ H Q ⟨w, e1, R1, q⟩ => by
    subst e1
    obtain ⟨x, h1, v, h2, h3⟩ := R1.sl i _ hi
    exact ⟨v, by rw [h1, h2], q v w R1 (Le.refl w) h3⟩
theorem he_c {v : V} (h : PE X e (tC v)) (hp : ∀ K H, P.p K v H) : HE X e env env P := h.imp fun σ H Q ⟨w, e1, R1, q⟩ => by
  subst e1
  exact q v w R1 (Le.refl w) (hp _ _)
theorem he_int {i : Int} {j} : HE X (.Constant (.int i) j pos) env env (rv i) := he_c pe_int fun _ _ => rfl
theorem he_bl {i : Bool} {j} : HE X (.Constant (.bool i) j pos) env env (rv i) := he_c pe_bl fun _ _ => rfl
theorem he_str {i : Str} {j} : HE X (.Constant (.str i) j pos) env env (rv i) := he_c pe_str fun _ _ => rfl
theorem he_non {j} : HE X (.Constant .none j pos) env env (rv ()) := he_c pe_non fun _ _ => rfl
theorem he_gint {x : Str} {i : Int} (hm : ∃ t, X.mg x = some (.int i t)) (hg : Gl X x := by rfl) (hd : (x == ("__debug__" : Str)) = false := by decide) : HE X (.Name x pos) env env (rv i) := by
  obtain ⟨t, hm⟩ := hm
  exact he_c (pe_glob (v := .int i) hg hm ⟨t, rfl⟩ hd) fun _ _ => rfl
/-! operators -/
def OpV (X : Cx) (r : R2) (P R S : VP) : Prop := ∀ env σ x y w, Rep X.K env σ w → P.p X.K x w.Hi → R.p X.K y w.Hi → ∀ Q : VK, (∀ v w', Rep X.K env σ w' → Le w w' → S.p X.K v w'.Hi → Q v w'.H) → r x y w.H Q
theorem to_op {r : R2} {ta tb : TE} {K : PySem.W.Frag} (hK : K = X.K) (ha : ta = tE K env env1 P) (hb : tb = tE K env1 env2 R) (h : OpV X r P R S) : ∀ σ H Q, tE X.K env env2 S σ H Q → tOp r ta tb σ H Q := by
  subst hK ha hb
  rintro σ H Q ⟨w, rfl, R1, q⟩
  exact ⟨w, rfl, R1, fun x w1 R2 l1 p1 => ⟨w1, rfl, R2, fun y w2 R3 l2 p2 => h env2 σ x y w2 R3 (P.mono l2.hi p1) p2 Q fun v w3 R4 l3 p3 => q v w3 R4 ((l1.trans l2).trans l3) p3⟩⟩
theorem he_op {op : Operator} {r : R2} (ho : OpR X (binaryOp op) r) (h : OpV X r P R S) (ha : HE X a env env1 P) (hb : HE X b env1 env2 R) : HE X (.BinOp a op b pos) env env2 S :=
  (pe_op ho ha hb).imp (to_op rfl rfl rfl h)
theorem he_cmp {op : CmpOp} {r : R2} (ho : OpR X (compareOp op) r) (h : OpV X r P R S) (hm : behindInMarks op b = false) (ha : HE X a env env1 P) (hb : HE X b env1 env2 R) : HE X (.Compare a [op] [b] pos) env env2 S :=
  (pe_cmpR ho ha hb hm).imp (to_op rfl rfl rfl h)
theorem hb_cmp {op : CmpOp} {r : R2} {c : Bool} (ho : OpR X (compareOp op) r) (h : OpV X r P R (rv c)) (hm : behindInMarks op b = false) (ha : HE X a env env1 P) (hb : HE X b env1 env2 R) : HB X (.Compare a [op] [b] pos) env env2 c :=
  (pt_cmpR ho ha hb hm).imp fun σ H Q ⟨w, e1, R1, q⟩ => by
    refine to_op rfl rfl rfl h σ H _ ⟨w, e1, R1, fun v w' R' l p => ⟨c, p, q w' R' l⟩⟩
theorem ov_I {g : Int → Int → V} {i j : Int} {S : VP} (h : ∀ K H, S.p K (g i j) H) : OpV X (rI0 g) (rv i) (rv j) S := fun env σ x y w R1 hx hy Q q => ⟨i, j, hx, hy, q _ w R1 (Le.refl w) (h _ _)⟩
theorem ov_C {C : Int → Int → Prop} {g : Int → Int → V} {i j : Int} {S : VP} (hc : C i j) (h : ∀ K H, S.p K (g i j) H) : OpV X (rI C g) (rv i) (rv j) S := fun env σ x y w R1 hx hy Q q => ⟨i, j, hx, hy, hc, q _ w R1 (Le.refl w) (h _ _)⟩
section
variable {i j : Int}
theorem he_add (ha : HE X a env env1 (rv i)) (hb : HE X b env1 env2 (rv j)) : HE X (.BinOp a .Add b pos) env env2 (rv (i + j)) := he_op op_add (ov_I fun _ _ => rfl) ha hb
theorem he_sub (ha : HE X a env env1 (rv i)) (hb : HE X b env1 env2 (rv j)) : HE X (.BinOp a .Sub b pos) env env2 (rv (i - j)) := he_op op_sub (ov_I fun _ _ => rfl) ha hb
theorem he_mul (hc : CMul i j) (ha : HE X a env env1 (rv i)) (hb : HE X b env1 env2 (rv j)) : HE X (.BinOp a .Mult b pos) env env2 (rv (i * j)) := he_op op_mul (ov_C hc fun _ _ => rfl) ha hb
theorem he_fdiv (hc : CDiv i j) (ha : HE X a env env1 (rv i)) (hb : HE X b env1 env2 (rv j)) : HE X (.BinOp a .FloorDiv b pos) env env2 (rv (i / j)) := he_op op_fdiv (ov_C hc fun _ _ => rfl) ha hb
theorem he_mod (hc : 0 < j) (ha : HE X a env env1 (rv i)) (hb : HE X b env1 env2 (rv j)) : HE X (.BinOp a .Mod b pos) env env2 (rv (i % j)) := he_op op_mod (ov_C hc fun _ _ => rfl) ha hb
theorem he_pow (hc : CPow i j) (ha : HE X a env env1 (rv i)) (hb : HE X b env1 env2 (rv j)) : HE X (.BinOp a .Pow b pos) env env2 (rv (i ^ j.toNat)) := he_op op_pow (ov_C hc fun _ _ => rfl) ha hb
theorem he_neg (ha : HE X a env env1 (rv i)) : HE X (.UnaryOp .USub a pos) env env1 (rv (-i)) := (pe_un un_neg ha).imp fun σ H Q ⟨w, e1, R1, q⟩ => ⟨w, e1, R1, fun v w' R' l p => ⟨i, p, q _ w' R' l rfl⟩⟩
theorem he_lt (ha : HE X a env env1 (rv i)) (hb : HE X b env1 env2 (rv j)) : HE X (.Compare a [.Lt] [b] pos) env env2 (rv (decide (i < j))) := he_cmp op_lt (ov_I fun _ _ => rfl) (nomark _) ha hb
theorem he_le (ha : HE X a env env1 (rv i)) (hb : HE X b env1 env2 (rv j)) : HE X (.Compare a [.LtE] [b] pos) env env2 (rv (decide (i ≤ j))) := he_cmp op_le (ov_I fun _ _ => rfl) (nomark _) ha hb
theorem he_gt (ha : HE X a env env1 (rv i)) (hb : HE X b env1 env2 (rv j)) : HE X (.Compare a [.Gt] [b] pos) env env2 (rv (decide (j < i))) := he_cmp op_gt (ov_I fun _ _ => rfl) (nomark _) ha hb
theorem he_ge (ha : HE X a env env1 (rv i)) (hb : HE X b env1 env2 (rv j)) : HE X (.Compare a [.GtE] [b] pos) env env2 (rv (decide (j ≤ i))) := he_cmp op_ge (ov_I fun _ _ => rfl) (nomark _) ha hb
theorem hb_lt (ha : HE X a env env1 (rv i)) (hb : HE X b env1 env2 (rv j)) : HB X (.Compare a [.Lt] [b] pos) env env2 (decide (i < j)) := hb_cmp op_lt (ov_I fun _ _ => rfl) (nomark _) ha hb
theorem hb_le (ha : HE X a env env1 (rv i)) (hb : HE X b env1 env2 (rv j)) : HB X (.Compare a [.LtE] [b] pos) env env2 (decide (i ≤ j)) := hb_cmp op_le (ov_I fun _ _ => rfl) (nomark _) ha hb
theorem hb_gt (ha : HE X a env env1 (rv i)) (hb : HE X b env1 env2 (rv j)) : HB X (.Compare a [.Gt] [b] pos) env env2 (decide (j < i)) := hb_cmp op_gt (ov_I fun _ _ => rfl) (nomark _) ha hb
theorem hb_ge (ha : HE X a env env1 (rv i)) (hb : HE X b env1 env2 (rv j)) : HB X (.Compare a [.GtE] [b] pos) env env2 (decide (j ≤ i)) := hb_cmp op_ge (ov_I fun _ _ => rfl) (nomark _) ha hb
end
/-! == and != of scalars -/
class Sc (α : Type) [Rp α] where
  dec : DecidableEq α
  eq : ∀ (K : PySem.W.Frag) (x y : α) (u v : V) (H : Hp), Rp.rp K x u H → Rp.rp K y v H → scal u v = true ∧ (u = v ↔ x = y)
instance : Sc Int := ⟨inferInstance, fun K x y u v H h1 h2 => by rw [show u = .int x from h1, show v = .int y from h2]; exact ⟨rfl, by simp⟩⟩
instance : Sc Bool := ⟨inferInstance, fun K x y u v H h1 h2 => by rw [show u = .bl x from h1, show v = .bl y from h2]; exact ⟨rfl, by simp⟩⟩
instance : Sc Str := ⟨inferInstance, fun K x y u v H h1 h2 => by rw [show u = .str x from h1, show v = .str y from h2]; exact ⟨rfl, by simp⟩⟩
theorem ov_eq {α : Type} [Rp α] [s : Sc α] [DecidableEq α] {x y : α} : OpV X rEq (rv x) (rv y) (rv (decide (x = y))) := fun env σ u v w R1 hx hy Q q => by
  obtain ⟨h1, h2⟩ := s.eq _ _ _ _ _ _ hx hy
  exact ⟨h1, q _ w R1 (Le.refl w) (show V.bl _ = V.bl _ by congr 1; exact decide_eq_decide.mpr h2)⟩
theorem ov_ne {α : Type} [Rp α] [s : Sc α] [DecidableEq α] {x y : α} : OpV X rNe (rv x) (rv y) (rv (!decide (x = y))) := fun env σ u v w R1 hx hy Q q => by
  obtain ⟨h1, h2⟩ := s.eq _ _ _ _ _ _ hx hy
  exact ⟨h1, q _ w R1 (Le.refl w) (show V.bl _ = V.bl _ by congr 2; exact decide_eq_decide.mpr h2)⟩
section
variable {α : Type} [Rp α] [Sc α] [DecidableEq α] {x y : α}
theorem he_eqS (ha : HE X a env env1 (rv x)) (hb : HE X b env1 env2 (rv y)) : HE X (.Compare a [.Eq] [b] pos) env env2 (rv (decide (x = y))) := he_cmp op_eq ov_eq (nomark _) ha hb
theorem he_neS (ha : HE X a env env1 (rv x)) (hb : HE X b env1 env2 (rv y)) : HE X (.Compare a [.NotEq] [b] pos) env env2 (rv (!decide (x = y))) := he_cmp op_ne ov_ne (nomark _) ha hb
theorem hb_eqS (ha : HE X a env env1 (rv x)) (hb : HE X b env1 env2 (rv y)) : HB X (.Compare a [.Eq] [b] pos) env env2 (decide (x = y)) := hb_cmp op_eq ov_eq (nomark _) ha hb
theorem hb_neS (ha : HE X a env env1 (rv x)) (hb : HE X b env1 env2 (rv y)) : HB X (.Compare a [.NotEq] [b] pos) env env2 (!decide (x = y)) := hb_cmp op_ne ov_ne (nomark _) ha hb
end
/-! a chain of two comparisons of rng -/
def VB (f : Int → Int → Bool) (r : R2) : Prop := r = rI0 fun i j => .bl (f i j)
theorem to_chain {f g : Int → Int → Bool} {ta tb tc : TE} {i j k : Int} {env3 : List Slot} (ha : ta = tE X.K env env1 (rv i)) (hb : tb = tE X.K env1 env2 (rv j)) (hc : tc = tE X.K env2 env3 (rv k)) (h3 : env3 = env2) :
    ∀ σ H Q, tE X.K env env2 (rv (f i j && g j k)) σ H Q → tChain (rI0 fun i j => .bl (f i j)) (rI0 fun i j => .bl (g i j)) ta tb tc σ H Q := by
  subst ha hb hc h3
  rintro σ H Q ⟨w, rfl, R1, q⟩
  refine ⟨w, rfl, R1, fun x w1 R2 l1 p1 => ⟨w1, rfl, R2, fun y w2 R3 l2 p2 => ⟨i, j, p1, p2, f i j, rfl, ?_⟩⟩⟩
  cases e1 : f i j with
  | true =>
    rw [if_pos rfl]
    refine ⟨w2, rfl, R3, fun z w3 R4 l3 p3 => ⟨j, k, p2, p3, ?_⟩⟩
    exact q _ w3 R4 ((l1.trans l2).trans l3) (by rw [e1]; rfl)
  | false =>
    rw [if_neg Bool.false_ne_true]
    exact q _ w2 R3 (l1.trans l2) (by rw [e1]; rfl)
theorem he_chain {op op' : CmpOp} {f g : Int → Int → Bool} {c : Expr} {i j k : Int} (ho : OpR X (compareOp op) (rI0 fun i j => .bl (f i j))) (ho' : OpR X (compareOp op') (rI0 fun i j => .bl (g i j))) (hp : ∀ ta tb tc, PE X a ta → PE X b tb → PE X c tc → PE X (.Compare a [op, op'] [b, c] pos) (tChain (rI0 fun i j => .bl (f i j)) (rI0 fun i j => .bl (g i j)) ta tb tc))
    (ha : HE X a env env1 (rv i)) (hb : HE X b env1 env2 (rv j)) (hc : HE X c env2 env2 (rv k)) : HE X (.Compare a [op, op'] [b, c] pos) env env2 (rv (f i j && g j k)) :=
  (hp _ _ _ ha hb hc).imp (to_chain rfl rfl rfl rfl)
/-! and, or, not, conditional expressions -/
theorem hb_val {c : Bool} (h : HE X e env env1 (rv c)) (he : ∀ whole, isTrue e X.env whole = (do let v ← whole; standAt e.pos; holding [v] (truthy v)) := by intro _; rfl) : HB X e env env1 c :=
  (pt_val h he).imp fun σ H Q ⟨w, e1, R1, q⟩ => ⟨w, e1, R1, fun v w' R' l p => ⟨c, p, q w' R' l⟩⟩
theorem hb_not {c : Bool} (h : HB X a env env1 c) : HB X (.UnaryOp .Not a pos) env env1 (!c) :=
  (pt_not h).imp fun σ H Q ⟨w, e1, R1, q⟩ => ⟨w, e1, R1, fun w' R' l => q w' R' l⟩
theorem he_not {c : Bool} (h : HE X a env env1 (rv c)) : HE X (.UnaryOp .Not a pos) env env1 (rv (!c)) :=
  (pe_not h).imp fun σ H Q ⟨w, e1, R1, q⟩ => ⟨w, e1, R1, fun v w' R' l p => ⟨c, p, q _ w' R' l rfl⟩⟩
theorem hw1 {c : Bool} (h : HB X a env env1 c) : HW X (.BoolOp .And [a] pos) env env1 c := pw_and1 h
theorem hwo1 {c : Bool} (h : HB X a env env1 c) : HW X (.BoolOp .Or [a] pos) env env1 c := pw_or1 h
/-- what is never come to -/
theorem pe_no : PE X e (fun _ _ _ => False) := ⟨fun _ _ _ _ _ _ h => h.elim⟩
theorem pt_no : PT X e (fun _ _ _ => False) := ⟨fun _ _ _ _ _ _ h => h.elim⟩
theorem pw_no : PW X e (fun _ _ _ => False) := ⟨fun _ _ _ _ _ _ _ h => h.elim⟩
theorem pss_no {ss : List Stmt} : PSs X ss (fun _ _ _ => False) := ⟨fun _ _ _ _ _ _ h => h.elim⟩
/-- a and b: the second asked where the first holds -/
theorem hw_and {c d : Bool} {rest : List Expr} (ha : HB X a env env1 c) (hb : c = true → HW X (.BoolOp .And (b :: rest) pos) env1 env2 d) (hn : c = false → env1 = env2 := by intros; rfl) : HW X (.BoolOp .And (a :: b :: rest) pos) env env2 (c && d) := by
  cases c with
  | true => exact (pw_and ha (hb rfl)).imp fun σ H Q ⟨w, e1, R1, q⟩ => ⟨w, e1, R1, fun w' R' l => by
      refine iteT ?_
      exact ⟨w', rfl, R', fun w2 R2 l2 => q w2 R2 (l.trans l2)⟩⟩
  | false => exact (pw_and ha pw_no).imp fun σ H Q ⟨w, e1, R1, q⟩ => ⟨w, e1, R1, fun w' R' l => by
      refine iteF ?_
      rw [hn rfl] at R'
      exact q w' R' l⟩
theorem hw_or {c d : Bool} {rest : List Expr} (ha : HB X a env env1 c) (hb : c = false → HW X (.BoolOp .Or (b :: rest) pos) env1 env2 d) (hn : c = true → env1 = env2 := by intros; rfl) : HW X (.BoolOp .Or (a :: b :: rest) pos) env env2 (c || d) := by
  cases c with
  | false => exact (pw_or ha (hb rfl)).imp fun σ H Q ⟨w, e1, R1, q⟩ => ⟨w, e1, R1, fun w' R' l => by
      refine iteF ?_
      exact ⟨w', rfl, R', fun w2 R2 l2 => q w2 R2 (l.trans l2)⟩⟩
  | true => exact (pw_or ha pw_no).imp fun σ H Q ⟨w, e1, R1, q⟩ => ⟨w, e1, R1, fun w' R' l => by
      refine iteT ?_
      rw [hn rfl] at R'
      exact q w' R' l⟩
theorem hb_w {c : Bool} (h : HW X e env env1 c) : HB X e env env1 c := h.pt
/-! as values -/
theorem he_one {op : BoolOp} {c : Bool} (h : HE X a env env1 (rv c)) : HE X (.BoolOp op [a] pos) env env1 (rv c) := pe_one h
theorem he_and {c d : Bool} {rest : List Expr} (ha : HE X a env env1 (rv c)) (hb : c = true → HE X (.BoolOp .And (b :: rest) pos) env1 env2 (rv d)) (hn : c = false → env1 = env2 := by intros; rfl) : HE X (.BoolOp .And (a :: b :: rest) pos) env env2 (rv (c && d)) := by
  cases c with
  | true => exact (pe_and ha (hb rfl)).imp fun σ H Q ⟨w, e1, R1, q⟩ => ⟨w, e1, R1, fun v w' R' l p => ⟨true, p, by
      refine iteT ?_
      exact ⟨w', rfl, R', fun v2 w2 R2 l2 p2 => q v2 w2 R2 (l.trans l2) p2⟩⟩⟩
  | false => exact (pe_and ha pe_no).imp fun σ H Q ⟨w, e1, R1, q⟩ => ⟨w, e1, R1, fun v w' R' l p => ⟨false, p, by
      refine iteF ?_
      rw [hn rfl] at R'
      exact q _ w' R' l rfl⟩⟩
theorem he_or {c d : Bool} {rest : List Expr} (ha : HE X a env env1 (rv c)) (hb : c = false → HE X (.BoolOp .Or (b :: rest) pos) env1 env2 (rv d)) (hn : c = true → env1 = env2 := by intros; rfl) : HE X (.BoolOp .Or (a :: b :: rest) pos) env env2 (rv (c || d)) := by
  cases c with
  | false => exact (pe_or ha (hb rfl)).imp fun σ H Q ⟨w, e1, R1, q⟩ => ⟨w, e1, R1, fun v w' R' l p => ⟨false, p, by
      refine iteF ?_
      exact ⟨w', rfl, R', fun v2 w2 R2 l2 p2 => q v2 w2 R2 (l.trans l2) p2⟩⟩⟩
  | true => exact (pe_or ha pe_no).imp fun σ H Q ⟨w, e1, R1, q⟩ => ⟨w, e1, R1, fun v w' R' l p => ⟨true, p, by
      refine iteT ?_
      rw [hn rfl] at R'
      exact q _ w' R' l rfl⟩⟩
theorem he_if {t : Expr} {c : Bool} (ht : HB X t env env1 c) (h1 : c = true → HE X a env1 env2 P) (h2 : c = false → HE X b env1 env2 P) : HE X (.IfExp t a b pos) env env2 P := by
  cases c with
  | true => exact (pe_ifExp ht (h1 rfl) pe_no).imp fun σ H Q ⟨w, e1, R1, q⟩ => ⟨w, e1, R1, fun w' R' l => by
      refine iteT ?_
      exact ⟨w', rfl, R', fun v2 w2 R2 l2 p2 => q v2 w2 R2 (l.trans l2) p2⟩⟩
  | false => exact (pe_ifExp ht pe_no (h2 rfl)).imp fun σ H Q ⟨w, e1, R1, q⟩ => ⟨w, e1, R1, fun w' R' l => by
      refine iteF ?_
      exact ⟨w', rfl, R', fun v2 w2 R2 l2 p2 => q v2 w2 R2 (l.trans l2) p2⟩⟩
theorem he_ifv {α : Type} [Rp α] {x y : α} {t : Expr} {c : Bool} (ht : HB X t env env1 c) (h1 : c = true → HE X a env1 env2 (rv x)) (h2 : c = false → HE X b env1 env2 (rv y)) : HE X (.IfExp t a b pos) env env2 (rv (if c = true then x else y)) :=
  he_if ht (fun h => by rw [if_pos h]; exact h1 h) fun h => by rw [if_neg (by rw [h]; exact Bool.false_ne_true)]; exact h2 h
/-! ### argument lists, tuples, lists -/
theorem ha_nil : HA X [] env env [] := pa_nil.imp fun σ H Q ⟨w, e1, R1, q⟩ => by
  subst e1
  exact q [] w R1 (Le.refl w) rfl
theorem ha_cons {es : List Expr} {Ps : List VP} (h : HE X e env env1 P) (t : HA X es env1 env2 Ps) (hs : starEach (e :: es) X.env = (false, eval e X.env) :: starEach es X.env := by rfl) : HA X (e :: es) env env2 (P :: Ps) :=
  (pa_cons h t hs).imp fun σ H Q ⟨w, e1, R1, q⟩ => ⟨w, e1, R1, fun v w' R' l p => ⟨w', rfl, R', fun vs w2 R2 l2 p2 => q (v :: vs) w2 R2 (l.trans l2) ⟨v, vs, rfl, P.mono l2.hi p, p2⟩⟩⟩
def rvs {α : Type} [Rp α] (xs : List α) : List VP := xs.map rv
theorem alP_al {α : Type} [Rp α] {K : PySem.W.Frag} {H : Hp} : ∀ {xs : List α} {vs : List V}, AlP K H (rvs xs) vs → Al α K H xs vs
  | [], _, h => h
  | _ :: _, _, ⟨v, r, e1, h1, h2⟩ => ⟨v, r, e1, h1, alP_al h2⟩
theorem alP_len {K : PySem.W.Frag} {H : Hp} : ∀ {Ps : List VP} {vs : List V}, AlP K H Ps vs → vs.length = Ps.length
  | [], _, h => by rw [show _ = ([] : List V) from h]; rfl
  | _ :: _, _, ⟨v, r, e1, h1, h2⟩ => by rw [e1, List.length_cons, List.length_cons, alP_len h2]
/-- arguments of one kind -/
def HAl {α : Type} [Rp α] (X : Cx) (es : List Expr) (env env' : List Slot) (xs : List α) : Prop := HA X es env env' (rvs xs)
theorem al_nil {α : Type} [Rp α] : HAl (α := α) X [] env env [] := ha_nil
theorem al_cons {α : Type} [Rp α] {x : α} {xs : List α} {es : List Expr} (h : HE X e env env1 (rv x)) (t : HAl X es env1 env2 xs) (hs : starEach (e :: es) X.env = (false, eval e X.env) :: starEach es X.env := by rfl) : HAl X (e :: es) env env2 (x :: xs) := ha_cons h t hs
/-- a tuple display: any wish that a new tuple of such things fulfils -/
theorem he_tup' {es : List Expr} {Ps : List VP} {x1} (h : HA X es env env1 Ps) (hz : Ps.length ≤ 1000) (hP : ∀ p vs H, H p = some (.tup vs) → AlP X.K H Ps vs → P.p X.K (.ref p) H) : HE X (.Tuple es x1 pos) env env1 P :=
  (pe_tup h).imp fun σ H Q ⟨w, e1, R1, q⟩ => ⟨w, e1, R1, fun vs w' R' l p => ⟨by rw [alP_len p]; exact Nat.le_trans hz (by decide), fun a ha => by
    have h1 := (R'.ok.fresh ha).1
    exact q (.ref a) (w'.add a (.tup vs)) (R'.add ha) (l.trans (add_le R'.ok ha)) (hP a vs _ upd_same (p.mono (Ex.new h1)))⟩⟩
theorem he_tup {α : Type} [Rp α] {es : List Expr} {xs : List α} {x1} (h : HAl X es env env1 xs) (hz : xs.length ≤ 1000 := by first | decide | exact Nat.le_of_ble_eq_true rfl) : HE X (.Tuple es x1 pos) env env1 (rv xs) :=
  he_tup' h (by unfold rvs; rw [List.length_map]; exact hz) fun p vs H hp ha => ⟨p, vs, rfl, SqT.of hp, alP_al ha⟩
theorem he_pair {α β : Type} [Rp α] [Rp β] {x : α} {y : β} {x1} (ha : HE X a env env1 (rv x)) (hb : HE X b env1 env2 (rv y)) (hs : starEach [a, b] X.env = (false, eval a X.env) :: starEach [b] X.env := by rfl) (hs2 : starEach [b] X.env = (false, eval b X.env) :: starEach [] X.env := by rfl) : HE X (.Tuple [a, b] x1 pos) env env2 (rv (x, y)) :=
  he_tup' (ha_cons ha (ha_cons hb ha_nil hs2) hs) (by show 2 ≤ 1000; decide) fun p vs H hp ⟨u, r, e1, h1, z, r2, e2, h2, e3⟩ => by
    subst e1 e2
    rw [show r2 = [] from e3] at hp
    exact ⟨p, u, z, rfl, SqT.of hp, h1, h2⟩
theorem hl_lst {α : Type} [Rp α] {es : List Expr} {xs : List α} (h : HAl X es env env1 xs) (hz : xs.length ≤ 1000 := by first | decide | exact Nat.le_of_ble_eq_true rfl) : HL X (.List es pos) env env1 xs :=
  (pe_lst h).imp fun σ H Q ⟨w, e1, R1, q⟩ => ⟨w, e1, R1, fun vs w' R' l p => ⟨by rw [alP_len p]; unfold rvs; rw [List.length_map]; exact Nat.le_trans hz (by decide), fun a ha => q a vs w' R' l ha (alP_al p)⟩⟩
/-- a fresh list kept as it is -/
theorem he_lst {α : Type} [Rp α] {xs : List α} (h : HL X e env env1 xs) : HE X e env env1 (rv (Lst.mk xs)) := h.imp fun σ H Q ⟨w, e1, R1, q⟩ => ⟨w, e1, R1, fun a vs w' R' l ha p => by
  have h1 := (R'.ok.fresh ha).1
  exact q (.ref a) (w'.add a (.lst vs)) (R'.add ha) (l.trans (add_le R'.ok ha)) ⟨a, vs, rfl, upd_same, p.mono (Ex.new h1)⟩⟩
/-! ### len, items -/
def Sq (α : Type) [Rp α] (xs : List α) (P : VP) : Prop := ∀ K v H, P.p K v H → ∃ a vs, v = .ref a ∧ (SqL K H a vs ∨ SqT K H a vs) ∧ Al α K H xs vs
theorem sq_tup {α : Type} [Rp α] {xs : List α} : Sq α xs (rv xs) := fun K v H ⟨a, vs, h1, h2, h3⟩ => ⟨a, vs, h1, .inr h2, h3⟩
theorem sq_lst {α : Type} [Rp α] {xs : Lst α} : Sq α xs.l (rv xs) := fun K v H ⟨a, vs, h1, h2, h3⟩ => ⟨a, vs, h1, .inl (SqL.of h2), h3⟩
theorem he_len {α : Type} [Rp α] {xs : List α} {p : Pos} (h : HE X e env env1 P) (sq : Sq α xs P) (hm : X.mg "len" = none) (hg : Gl X "len" := by rfl) (hs : starEach [e] X.env = (false, eval e X.env) :: starEach [] X.env := by rfl) (hpl : (backTo pos (starEach [] X.env)).any (·.1) = false := by rfl) :
    HE X (.Call (.Name "len" p) [e] [] pos) env env1 (rv (xs.length : Int)) :=
  (pe_callB call_len_seq hg hm PySem.boot_len (pa_cons h pa_nil hs) (he := hs) (hpl := hpl)).imp fun σ H Q ⟨w, e1, R1, q⟩ => ⟨w, e1, R1, fun v w' R' l p => by
    obtain ⟨a, vs, e2, h2, h3⟩ := sq _ _ _ p
    subst e2
    refine ⟨a, vs, rfl, h2.imp (Ex.l R'.ok.sub) (Ex.t R'.ok.sub), ?_⟩
    rw [h3.len]
    exact q _ w' R' l rfl⟩
theorem atI_map {α : Type} [Rp α] {K : PySem.W.Frag} {H : Hp} {xs : List α} {vs : List V} {i : Int} {x : α} (h : Al α K H xs vs) (e : atI xs i = some x) : ∃ v, atI vs i = some v ∧ Rp.rp K x v H := by
  unfold atI at e ⊢
  rw [h.len]
  cases q : ixN xs.length i with
  | none => rw [q] at e; cases e
  | some j =>
    rw [q] at e
    exact h.get e
theorem ov_ixT {α : Type} [Rp α] {xs : List α} {i : Int} {x : α} (hx : atI xs i = some x) : OpV X (rIxT X.K) (rv xs) (rv i) (rv x) := fun env σ u v w R1 ⟨a, vs, e1, h1, h2⟩ hy Q q => by
  obtain ⟨z, e2, h3⟩ := atI_map h2 hx
  exact ⟨a, vs, i, z, e1, hy, Ex.t R1.ok.sub h1, e2, q z w R1 (Le.refl w) h3⟩
theorem ov_ixL {α : Type} [Rp α] {xs : Lst α} {i : Int} {x : α} (hx : atI xs.l i = some x) : OpV X (rIxL X.K) (rv xs) (rv i) (rv x) := fun env σ u v w R1 ⟨a, vs, e1, h1, h2⟩ hy Q q => by
  obtain ⟨z, e2, h3⟩ := atI_map h2 hx
  exact ⟨a, vs, i, z, e1, hy, SqL.of (R1.ok.sub _ _ h1), e2, q z w R1 (Le.refl w) h3⟩
theorem he_ixT {α : Type} [Rp α] {xs : List α} {i : Int} {x : α} (hx : atI xs i = some x) (ha : HE X a env env1 (rv xs)) (hb : HE X b env1 env2 (rv i)) (hs : PlainIx b := by intro _ _; rfl) : HE X (.Subscript a b pos) env env2 (rv x) :=
  (pe_ix ix_tup ha hb hs).imp (to_op rfl rfl rfl (ov_ixT hx))
theorem he_ixL {α : Type} [Rp α] {xs : Lst α} {i : Int} {x : α} (hx : atI xs.l i = some x) (ha : HE X a env env1 (rv xs)) (hb : HE X b env1 env2 (rv i)) (hs : PlainIx b := by intro _ _; rfl) : HE X (.Subscript a b pos) env env2 (rv x) :=
  (pe_ix ix_list ha hb hs).imp (to_op rfl rfl rfl (ov_ixL hx))
end

/-! ### statements -/
inductive Oc where
  | nx (e : List Slot)
  | rt (P : VP) (e : List Slot)
  | bk (e : List Slot)
  | ct (e : List Slot)
  | er (c : Addr) (P : VP) (e : List Slot)
  | rl (Ps : List VP) (e : List Slot)
def Oc.sat (K : PySem.W.Frag) (We : WX) (w0 : Wd) (D : Ends) : Oc → Prop
  | .nx e => ∀ σ w, Rep K e σ w → Le w0 w → D.nx σ w.H
  | .rt P e => ∀ σ v w, Rep K e σ w → Le w0 w → P.p K v w.Hi → D.rt v w.H
  | .bk e => ∀ σ w, Rep K e σ w → Le w0 w → D.bk σ w.H
  | .ct e => ∀ σ w, Rep K e σ w → Le w0 w → D.ct σ w.H
  | .er c P e => ∀ σ w d v, Rep K e σ w → Le w0 w → w.H d = some (.xd [("what", v)]) → w.O d = none → w.Hi d = none → P.p K v w.Hi → We (.ref c) (some d) σ w.H
  | .rl Ps e => ∀ σ p vs w, Rep K e σ w → Le w0 w → w.H p = none → AlP K w.Hi Ps vs → D.rt (.ref p) (upd w.H p (.lst vs))
def Oc.fin : Oc → Prop
  | .nx _ => False
  | _ => True
def Oc.out : Oc → Prop
  | .rt _ _ => True
  | .er _ _ _ => True
  | .rl _ _ => True
  | _ => False
theorem Oc.sat_le {K : PySem.W.Frag} {We : WX} {w0 w1 : Wd} {D : Ends} (l : Le w0 w1) : ∀ {oc : Oc}, oc.sat K We w0 D → oc.sat K We w1 D
  | .nx _, h => fun σ w R q => h σ w R (l.trans q)
  | .rt _ _, h => fun σ v w R q => h σ v w R (l.trans q)
  | .bk _, h => fun σ w R q => h σ w R (l.trans q)
  | .ct _, h => fun σ w R q => h σ w R (l.trans q)
  | .er _ _ _, h => fun σ w d v R q => h σ w d v R (l.trans q)
  | .rl _ _, h => fun σ p vs w R q => h σ p vs w R (l.trans q)
def tS (K : PySem.W.Frag) (We : WX) (env : List Slot) (oc : Oc) : TS := fun D σ H => ∃ w : Wd, w.H = H ∧ Rep K env σ w ∧ oc.sat K We w D
abbrev HS (X : Cx) (We : WX) (st : Stmt) (env : List Slot) (oc : Oc) : Prop := PS X st (tS X.K We env oc)
abbrev HSs (X : Cx) (We : WX) (ss : List Stmt) (env : List Slot) (oc : Oc) : Prop := PSs X ss (tS X.K We env oc)
section
variable {X : Cx} {We : WX} {env env1 env2 env3 : List Slot} {P R S : VP} {a b e : Expr} {s : Stmt} {r A B : List Stmt} {pos : Pos} {oc : Oc}
theorem hs_nil : HSs X We [] env (.nx env) := pss_nil.imp fun D σ H ⟨w, e1, R1, q⟩ => by
  subst e1
  exact q σ w R1 (Le.refl w)
theorem hs_cons (h : HS X We s env (.nx env1)) (t : HSs X We r env1 oc) : HSs X We (s :: r) env oc := (pss_cons h t).imp fun D σ H ⟨w, e1, R1, q⟩ =>
  ⟨w, e1, R1, fun σ' w' R' l => ⟨w', rfl, R', Oc.sat_le (oc := oc) l q⟩⟩
theorem hs_end (h : HS X We s env oc) (hf : oc.fin) : HSs X We (s :: r) env oc := (pss_cons h pss_no).imp fun D σ H ⟨w, e1, R1, q⟩ => by
  refine ⟨w, e1, R1, ?_⟩
  cases oc with
  | nx e => exact hf.elim
  | rt P e => exact q
  | bk e => exact q
  | ct e => exact q
  | er c P e => exact q
  | rl Ps e => exact q
theorem hs_one (h : HS X We s env oc) : HSs X We [s] env oc := pss_one h
theorem hs_eq {oc' : Oc} (h : HSs X We r env oc) (k : oc = oc') : HSs X We r env oc' := by rw [← k]; exact h
/-- what a def lets out is let out of a body in which nothing is let out -/
theorem st_set (i : Nat) {x : Str} {pos' : Pos} (he : HE X e env env1 P) (hN : X.N.Nodup) (hi : X.N[i]? = some x := by rfl) (hx : Loc X.env.scope x := by first | exact Or.inl rfl | exact Or.inr rfl) (hs : swapsWith e (some (.Name x pos')) pos.line X.env = pure false := by rfl)
    (hf : X.fn x = true ∨ X.env.scope.names.lookup x = some .local := by first | exact .inl rfl | exact .inr rfl | assumption) : HS X We (.Assign [.Name x pos'] e pos) env (.nx (env1.set i (im P))) :=
  (ps_set hN hi hx he hs hf).imp fun D σ H ⟨w, e1, R1, q⟩ => ⟨w, e1, R1, fun v w' R' l p => q _ w' (R'.set ⟨v, rfl, p⟩) l⟩
theorem st_own {α : Type} [Rp α] {xs : List α} (i : Nat) {x : Str} {pos' : Pos} (he : HL X e env env1 xs) (hN : X.N.Nodup) (hi : X.N[i]? = some x := by rfl) (hx : Loc X.env.scope x := by first | exact Or.inl rfl | exact Or.inr rfl) (hs : swapsWith e (some (.Name x pos')) pos.line X.env = pure false := by rfl)
    (hf : X.fn x = true ∨ X.env.scope.names.lookup x = some .local := by first | exact .inl rfl | exact .inr rfl | assumption) : HS X We (.Assign [.Name x pos'] e pos) env (.nx (env1.set i (own xs))) :=
  (ps_set hN hi hx he hs hf).imp fun D σ H ⟨w, e1, R1, q⟩ => ⟨w, e1, R1, fun p vs w' R' l hp al => q _ (w'.new i p (.lst vs)) ((R'.new hp).set ⟨p, vs, rfl, if_pos rfl, upd_same, al⟩) (l.trans (new_le R'.ok hp))⟩
theorem st_expr (he : HE X e env env1 P) (hs : swapsWith e none pos.line X.env = pure false := by rfl) : HS X We (.Expr e pos) env (.nx env1) :=
  (ps_expr he hs).imp fun D σ H ⟨w, e1, R1, q⟩ => ⟨w, e1, R1, fun v w' R' l p => q _ w' R' l⟩
theorem st_ret (he : HE X e env env1 P) : HS X We (.Return (some e) pos) env (.rt P env1) :=
  (ps_ret he).imp fun D σ H ⟨w, e1, R1, q⟩ => ⟨w, e1, R1, fun v w' R' l p => q σ v w' R' l p⟩
theorem st_retN : HS X We (.Return none pos) env (.rt (rv ()) env) := ps_retN.imp fun D σ H ⟨w, e1, R1, q⟩ => by
  subst e1
  exact q σ .non w R1 (Le.refl w) rfl
theorem st_pass : HS X We (.Pass pos) env (.nx env) := ps_pass.imp fun D σ H ⟨w, e1, R1, q⟩ => by
  subst e1
  exact q σ w R1 (Le.refl w)
theorem st_break : HS X We (.Break pos) env (.bk env) := ps_break.imp fun D σ H ⟨w, e1, R1, q⟩ => by
  subst e1
  exact q σ w R1 (Le.refl w)
theorem st_cont : HS X We (.Continue pos) env (.ct env) := ps_continue.imp fun D σ H ⟨w, e1, R1, q⟩ => by
  subst e1
  exact q σ w R1 (Le.refl w)
theorem st_if {c : Bool} (hc : HB X e env env1 c) (h1 : c = true → HSs X We A env1 oc) (h2 : c = false → HSs X We B env1 oc) : HS X We (.If e A B pos) env oc := by
  cases c with
  | true => exact (ps_if hc (h1 rfl) pss_no).imp fun D σ H ⟨w, e1, R1, q⟩ => ⟨w, e1, R1, fun w' R' l => iteT ⟨w', rfl, R', Oc.sat_le (oc := oc) l q⟩⟩
  | false => exact (ps_if hc pss_no (h2 rfl)).imp fun D σ H ⟨w, e1, R1, q⟩ => ⟨w, e1, R1, fun w' R' l => iteF ⟨w', rfl, R', Oc.sat_le (oc := oc) l q⟩⟩
/-- an if whose ways go on with the rest, or end -/
def Cut (X : Cx) (We : WX) (A r : List Stmt) (env : List Slot) (oc : Oc) : Prop := (oc.fin ∧ HSs X We A env oc) ∨ ∃ e1, HSs X We A env (.nx e1) ∧ HSs X We r e1 oc
theorem cut_end (h : HSs X We A env oc) (hf : oc.fin) : Cut X We A r env oc := .inl ⟨hf, h⟩
theorem cut_go (h : HSs X We A env (.nx env1)) (t : HSs X We r env1 oc) : Cut X We A r env oc := .inr ⟨env1, h, t⟩
theorem cut_nil (t : HSs X We r env oc) : Cut X We [] r env oc := .inr ⟨env, hs_nil, t⟩
theorem hs_cut {c : Bool} (hc : HB X e env env1 c) (h1 : c = true → Cut X We A r env1 oc) (h2 : c = false → Cut X We B r env1 oc) : HSs X We (.If e A B pos :: r) env oc := by
  cases c with
  | true =>
    rcases h1 rfl with ⟨hf, h⟩ | ⟨e1, h, t⟩
    · exact hs_end (st_if hc (fun _ => h) fun z => by cases z) hf
    · exact hs_cons (st_if hc (fun _ => h) fun z => by cases z) t
  | false =>
    rcases h2 rfl with ⟨hf, h⟩ | ⟨e1, h, t⟩
    · exact hs_end (st_if hc (fun z => by cases z) fun _ => h) hf
    · exact hs_cons (st_if hc (fun z => by cases z) fun _ => h) t
/-- an if both of whose ways go on, joined -/
theorem hs_join {c : Bool} (hc : HB X e env env1 c) (h1 : c = true → HSs X We A env1 (.nx env2)) (h2 : c = false → HSs X We B env1 (.nx env2)) (t : HSs X We r env2 oc) : HSs X We (.If e A B pos :: r) env oc :=
  hs_cons (st_if hc h1 h2) t
/-! ghost steps: a list of one's own changes no more -/
def Wd.frz (w : Wd) (a : Addr) (o : HO) : Wd := { w with Hi := upd w.Hi a o, O := fun b => if b = a then none else w.O b }
theorem hs_freeze {α : Type} [Rp α] {xs : List α} (i : Nat) (hi : env[i]? = some (own xs)) (h : HSs X We r (env.set i (im (rv (Lst.mk xs)))) oc) : HSs X We r env oc := h.imp fun D σ H ⟨w, e1, R1, q⟩ => by
  obtain ⟨x, hx, a, vs, e2, ho, hH, al⟩ := R1.sl i _ hi
  subst e1 e2
  have hn : w.Hi a = none := (R1.ok.ho a i ho).1
  have ok : (w.frz a (.lst vs)).Ok := by
    refine ⟨fun b u hb => ?_, fun b j hb => ?_⟩
    · by_cases z : b = a
      · subst z
        have : upd w.Hi b (.lst vs) b = some u := hb
        rw [upd_same] at this
        cases this
        exact hH
      · have : upd w.Hi a (.lst vs) b = some u := hb
        rw [upd_ne z] at this
        exact R1.ok.sub b u this
    · by_cases z : b = a
      · have : (if b = a then none else w.O b) = some j := hb
        rw [if_pos z] at this
        cases this
      · have : (if b = a then none else w.O b) = some j := hb
        rw [if_neg z] at this
        exact ⟨(upd_ne z).trans (R1.ok.ho b j this).1, (R1.ok.ho b j this).2⟩
  have R2 : Rep X.K (env.set i (im (rv (Lst.mk xs)))) σ (w.frz a (.lst vs)) := by
    refine ⟨ok, by rw [List.length_set]; exact R1.len, fun j s hs => ?_⟩
    by_cases z : i = j
    · subst z
      have hlt : i < env.length := (List.getElem?_eq_some_iff.mp hi).1
      rw [List.getElem?_set_self hlt] at hs
      cases hs
      exact ⟨_, hx, .ref a, rfl, a, vs, rfl, upd_same, al.mono (Ex.new hn)⟩
    · rw [List.getElem?_set_ne z] at hs
      obtain ⟨y, hy, hp⟩ := R1.sl j s hs
      refine ⟨y, hy, s.mono hp (Ex.new hn) (fun c hc => ⟨?_, rfl⟩) rfl⟩
      have nc : c ≠ a := fun zz => by
        subst zz
        rw [ho] at hc
        cases hc
        exact z rfl
      exact (if_neg nc).trans hc
  have l : Le w (w.frz a (.lst vs)) := by
    refine ⟨Ex.new hn, fun b u hb hk => ?_, fun b hb => hb, rfl⟩
    have nc : b ≠ a := fun zz => by
      subst zz
      rw [ho] at hk
      cases hk
    exact ⟨hb, (if_neg nc).trans hk, upd_ne nc⟩
  exact ⟨w.frz a (.lst vs), rfl, R2, Oc.sat_le (oc := oc) l q⟩
/-- slots forgotten -/
theorem hs_weak {env' : List Slot} (h : HSs X We r env' oc) (hl : env'.length = env.length) (k : ∀ (i : Nat) (s : Slot), env'[i]? = some s → env[i]? = some s ∨ s = un) : HSs X We r env oc := h.imp fun D σ H ⟨w, e1, R1, q⟩ => ⟨w, e1, R1.weak hl k, q⟩
end
/-! ### targets -/
/-- alike but at some slots -/
def But (is : List Nat) (σ σ' : L2.St) : Prop := σ'.length = σ.length ∧ ∀ j, j ∉ is → σ'[j]? = σ[j]?
theorem But.refl (is : List Nat) (σ : L2.St) : But is σ σ := ⟨rfl, fun _ _ => rfl⟩
theorem But.set {is : List Nat} {σ : L2.St} {i : Nat} {x : Option V} (h : i ∈ is) : But is σ (σ.set i x) := ⟨List.length_set, fun j hj => List.getElem?_set_ne fun e => hj (by rw [← e]; exact h)⟩
theorem But.trans {is js : List Nat} {σ σ1 σ2 : L2.St} (a : But is σ σ1) (b : But js σ1 σ2) : But (is ++ js) σ σ2 := ⟨b.1.trans a.1, fun j hj => by
  rw [List.mem_append, not_or] at hj
  exact (b.2 j hj.2).trans (a.2 j hj.1)⟩
def tG (K : PySem.W.Frag) (P : VP) (env env' : List Slot) (is : List Nat) : TG := fun v σ H Q => ∃ w : Wd, w.H = H ∧ Rep K env σ w ∧ P.p K v w.Hi ∧ ∀ σ' w', Rep K env' σ' w' → Le w w' → But is σ σ' → Q σ' w'.H
abbrev HG (X : Cx) (tg : Expr) (P : VP) (env env' : List Slot) (is : List Nat) : Prop := PG X tg (tG X.K P env env' is)
theorem _root_.L2.PG.imp {X : Cx} {e : Expr} {t t' : TG} (h : PG X e t) (k : ∀ v σ H Q, t' v σ H Q → t v σ H Q) : PG X e t' := ⟨fun pins s σ H v u Q I r q => h.run pins s σ H v u Q I r (k v σ H Q q)⟩
section
variable {X : Cx} {We : WX} {env env1 env2 env3 : List Slot} {P R S : VP} {a b e : Expr} {s : Stmt} {r A B : List Stmt} {pos : Pos} {oc : Oc}
theorem hg_name (i : Nat) {x : Str} (hN : X.N.Nodup) (hi : X.N[i]? = some x := by rfl) (hx : Loc X.env.scope x := by first | exact Or.inl rfl | exact Or.inr rfl) (hf : X.fn x = true ∨ X.env.scope.names.lookup x = some .local := by first | exact .inl rfl | exact .inr rfl | assumption) : HG X (.Name x pos) P env (env.set i (im P)) [i] :=
  (pg_name hN hi hx hf).imp fun v σ H Q ⟨w, e1, R1, p, q⟩ => by
    subst e1
    exact q _ w (R1.set ⟨v, rfl, p⟩) (Le.refl w) (But.set List.mem_cons_self)
theorem hg_pair {α β : Type} [Rp α] [Rp β] {x : α} {y : β} {ea eb : Expr} {k : Nat} {is js : List Nat} (hc : X.calm = true) (ha : HG X ea (rv x) env env1 is) (hb : HG X eb (rv y) env1 env2 js)
    (hs : (assignEach [ea, eb] X.env).map (·.2) = assign ea X.env :: (assignEach [eb] X.env).map (·.2) := by rfl) (hs2 : (assignEach [eb] X.env).map (·.2) = assign eb X.env :: (assignEach [] X.env).map (·.2) := by rfl)
    (hn : (assignEach [ea, eb] X.env).length = 2 := by rfl) (hst : (assignEach [ea, eb] X.env).findIdx? (·.1) = none := by rfl) : HG X (.Tuple [ea, eb] k pos) (rv (x, y)) env env2 (is ++ js) :=
  (pg_tup hc (pgs_cons ha (pgs_cons hb pgs_nil hs2) hs) hn hst).imp fun v σ H Q ⟨w, e1, R1, ⟨t, u, z, e2, h1, h2, h3⟩, q⟩ => by
    subst e1
    exact ⟨t, [u, z], e2, Ex.t R1.ok.sub h1, rfl, u, [z], rfl, w, rfl, R1, h2, fun σ' w' R' l B1 => ⟨z, [], rfl, w', rfl, R', Rp.mono l.hi h3, fun σ2 w2 R2 l2 B2 => ⟨rfl, q σ2 w2 R2 (l.trans l2) (B1.trans B2)⟩⟩⟩
theorem st_asg {tg : Expr} {is : List Nat} (he : HE X e env env1 P) (hg : HG X tg P env1 env2 is) (hs : swapsWithSole [tg] e pos.line X.env = pure false := by rfl) (hw : swappedStores [tg] e X.env = pure none := by rfl)
    (h1 : (assignEach [tg] X.env).map (·.2) = [assign tg X.env] := by rfl) : HS X We (.Assign [tg] e pos) env (.nx env2) :=
  (ps_asg he hg hs hw h1).imp fun D σ H ⟨w, e1, R1, q⟩ => ⟨w, e1, R1, fun v w' R' l p => ⟨w', rfl, R', p, fun σ2 w2 R2 l2 _ => q σ2 w2 R2 (l.trans l2)⟩⟩
end
/-! ### any of a family -/
def tSAny (X : Cx) (We : WX) (ss : List Stmt) : TS := fun D σ H => ∃ env oc, HSs X We ss env oc ∧ ∃ w : Wd, w.H = H ∧ Rep X.K env σ w ∧ oc.sat X.K We w D
theorem pss_any {X : Cx} {We : WX} {ss : List Stmt} : PSs X ss (tSAny X We ss) := ⟨fun pins s σ H D I ⟨_, _, h, q⟩ => h.run pins s σ H D I q⟩
def tGAny (X : Cx) (tg : Expr) : TG := fun v σ H Q => ∃ P env env' is, HG X tg P env env' is ∧ ∃ w : Wd, w.H = H ∧ Rep X.K env σ w ∧ P.p X.K v w.Hi ∧ ∀ σ' w', Rep X.K env' σ' w' → Le w w' → But is σ σ' → Q σ' w'.H
theorem pg_any {X : Cx} {tg : Expr} : PG X tg (tGAny X tg) := ⟨fun pins s σ H v u Q I r ⟨_, _, _, _, h, q⟩ => h.run pins s σ H v u Q I r q⟩
def tTAny (X : Cx) (e : Expr) : TT := fun σ H Q => ∃ env env' b, HB X e env env' b ∧ ∃ w : Wd, w.H = H ∧ Rep X.K env σ w ∧ ∀ w', Rep X.K env' σ w' → Le w w' → Q b w'.H
theorem pt_any {X : Cx} {e : Expr} : PT X e (tTAny X e) := ⟨fun pins s σ H Q I ⟨_, _, _, h, q⟩ => h.run pins s σ H Q I q⟩
inductive Lp (X : Cx) (We : WX) (tg : Expr) (body : List Stmt) : List VP → List Slot → Oc → Prop
  | nil {env : List Slot} : Lp X We tg body [] env (.nx env)
  | cons {P : VP} {Ps : List VP} {env e1 e2 : List Slot} {is : List Nat} {oc : Oc} : HG X tg P env e1 is → HSs X We body e1 (.nx e2) → Lp X We tg body Ps e2 oc → Lp X We tg body (P :: Ps) env oc
  | cont {P : VP} {Ps : List VP} {env e1 e2 : List Slot} {is : List Nat} {oc : Oc} : HG X tg P env e1 is → HSs X We body e1 (.ct e2) → Lp X We tg body Ps e2 oc → Lp X We tg body (P :: Ps) env oc
  | brk {P : VP} {Ps : List VP} {env e1 e2 : List Slot} {is : List Nat} : HG X tg P env e1 is → HSs X We body e1 (.bk e2) → Lp X We tg body (P :: Ps) env (.nx e2)
  | exit {P : VP} {Ps : List VP} {env e1 : List Slot} {is : List Nat} {oc : Oc} : HG X tg P env e1 is → HSs X We body e1 oc → oc.out → Lp X We tg body (P :: Ps) env oc
inductive WlN (X : Cx) (We : WX) (c : Expr) (body : List Stmt) : Nat → List Slot → Oc → Prop
  | done {n : Nat} {env e1 : List Slot} : HB X c env e1 false → WlN X We c body n env (.nx e1)
  | turn {n : Nat} {env e1 e2 : List Slot} {oc : Oc} : HB X c env e1 true → HSs X We body e1 (.nx e2) → WlN X We c body n e2 oc → WlN X We c body (n + 1) env oc
  | cont {n : Nat} {env e1 e2 : List Slot} {oc : Oc} : HB X c env e1 true → HSs X We body e1 (.ct e2) → WlN X We c body n e2 oc → WlN X We c body (n + 1) env oc
  | brk {n : Nat} {env e1 e2 : List Slot} : HB X c env e1 true → HSs X We body e1 (.bk e2) → WlN X We c body n env (.nx e2)
  | exit {n : Nat} {env e1 : List Slot} {oc : Oc} : HB X c env e1 true → HSs X We body e1 oc → oc.out → WlN X We c body n env oc
def Wl (X : Cx) (We : WX) (c : Expr) (body : List Stmt) (env : List Slot) (oc : Oc) : Prop := ∃ n, WlN X We c body n env oc
/-! ### what is walked -/
structure Wk (K : PySem.W.Frag) (J : It) (xs : List VP) (w0 : Wd) : Prop where
  go : ∀ i w, Le w0 w → w.Ok → i < xs.length → J.go i w.H
  stop : ∀ i w, Le w0 w → w.Ok → i = xs.length → J.stop i w.H
  yld : ∀ i w x H' P, Le w0 w → w.Ok → xs[i]? = some P → J.yld i w.H x H' → ∃ w' : Wd, w'.H = H' ∧ Le w w' ∧ P.p K x w'.Hi ∧ ∀ env σ, Rep K env σ w → Rep K env σ w'
def tI (K : PySem.W.Frag) (env env' : List Slot) (xs : List VP) : TI := fun σ H R => ∃ w : Wd, w.H = H ∧ Rep K env σ w ∧ ∀ J w', Rep K env' σ w' → Le w w' → Wk K J xs w' → R J w'.H
abbrev HI (X : Cx) (tg iter : Expr) (env env' : List Slot) (xs : List VP) : Prop := PI X tg iter (tI X.K env env' xs)
theorem _root_.L2.PI.imp {X : Cx} {tg e : Expr} {t t' : TI} (h : PI X tg e t) (k : ∀ σ H R, t' σ H R → t σ H R) : PI X tg e t' := ⟨fun pins s σ H R I q => h.run pins s σ H R I (k σ H R q)⟩
theorem Al.getV {α : Type} [Rp α] {K : PySem.W.Frag} {H : Hp} {xs : List α} {vs : List V} {i : Nat} {P : VP} (h : Al α K H xs vs) (e : (rvs xs)[i]? = some P) : ∃ v, vs[i]? = some v ∧ P.p K v H := by
  unfold rvs at e
  rw [List.getElem?_map] at e
  cases q : xs[i]? with
  | none => rw [q] at e; cases e
  | some x =>
    rw [q] at e
    have e' : rv x = P := Option.some.inj e
    subst e'
    exact h.get q
theorem rvs_len {α : Type} [Rp α] (xs : List α) : (rvs xs).length = xs.length := by unfold rvs; rw [List.length_map]
theorem wk_tup {α : Type} [Rp α] {K : PySem.W.Frag} {a : Addr} {xs : List α} {vs : List V} {w0 : Wd} (h : SqT K w0.Hi a vs) (al : Al α K w0.Hi xs vs) : Wk K (Itt K a) (rvs xs) w0 where
  go := fun i w l ok hi => by
    rw [rvs_len, ← al.len] at hi
    exact ⟨vs, vs[i], Ex.t (l.hi.trans ok.sub) h, by simp [hi]⟩
  stop := fun i w l ok hi => by
    rw [rvs_len, ← al.len] at hi
    exact ⟨vs, Ex.t (l.hi.trans ok.sub) h, Nat.le_of_eq hi.symm⟩
  yld := fun i w x H' P l ok hi ⟨e, y⟩ => by
    obtain ⟨v, hv, hp⟩ := al.getV hi
    have := y vs (Ex.t (l.hi.trans ok.sub) h)
    rw [hv] at this
    cases this
    exact ⟨w, e.symm, Le.refl w, P.mono l.hi hp, fun _ _ R => R⟩
theorem wk_lst {α : Type} [Rp α] {K : PySem.W.Frag} {a : Addr} {xs : List α} {vs : List V} {w0 : Wd} (h : w0.Hi a = some (.lst vs)) (al : Al α K w0.Hi xs vs) : Wk K (Itl K a) (rvs xs) w0 where
  go := fun i w l ok hi => by
    rw [rvs_len, ← al.len] at hi
    exact ⟨vs, vs[i], SqL.of ((l.hi.trans ok.sub) _ _ h), by simp [hi]⟩
  stop := fun i w l ok hi => by
    rw [rvs_len, ← al.len] at hi
    exact ⟨vs, SqL.of ((l.hi.trans ok.sub) _ _ h), Nat.le_of_eq hi.symm⟩
  yld := fun i w x H' P l ok hi ⟨e, y⟩ => by
    obtain ⟨v, hv, hp⟩ := al.getV hi
    have := y vs (SqL.of ((l.hi.trans ok.sub) _ _ h))
    rw [hv] at this
    cases this
    exact ⟨w, e.symm, Le.refl w, P.mono l.hi hp, fun _ _ R => R⟩
def rng (lo : Int) (n : Nat) : List Int := (List.range n).map fun (i : Nat) => lo + (i : Int)
theorem rng_len (lo : Int) (n : Nat) : (rng lo n).length = n := by unfold rng; rw [List.length_map, List.length_range]
theorem rng_get {lo : Int} {n i : Nat} (h : i < n) : (rng lo n)[i]? = some (lo + (i : Int)) := by
  unfold rng
  rw [List.getElem?_map, List.getElem?_range h]
  rfl
theorem wk_rng {K : PySem.W.Frag} {lo : Int} {n : Nat} {w0 : Wd} : Wk K (Itr lo n) (rvs (rng lo n)) w0 where
  go := fun i w l ok hi => by
    rw [rvs_len, rng_len] at hi
    exact hi
  stop := fun i w l ok hi => by
    rw [rvs_len, rng_len] at hi
    exact Nat.le_of_eq hi.symm
  yld := fun i w x H' P l ok hi ⟨e, y⟩ => by
    unfold rvs at hi
    rw [List.getElem?_map] at hi
    cases q : (rng lo n)[i]? with
    | none => rw [q] at hi; cases hi
    | some z =>
      rw [q] at hi
      have e' : rv z = P := Option.some.inj hi
      subst e'
      have hn : i < n := by
        have := (List.getElem?_eq_some_iff.mp q).1
        rw [rng_len] at this
        exact this
      rw [rng_get hn] at q
      cases q
      exact ⟨w, e.symm, Le.refl w, y, fun _ _ R => R⟩
section
variable {X : Cx} {We : WX} {env env1 env2 env3 : List Slot} {P R S : VP} {a b e tg : Expr} {s : Stmt} {r A B : List Stmt} {pos : Pos} {oc : Oc}
theorem hi_tup {α : Type} [Rp α] {xs : List α} (h : HE X e env env1 (rv xs)) : HI X tg e env env1 (rvs xs) := (pi_tup h).imp fun σ H Q ⟨w, e1, R1, q⟩ => ⟨w, e1, R1, fun v w' R' l ⟨t, vs, e2, h1, h2⟩ =>
  ⟨t, e2, ⟨vs, Ex.t R'.ok.sub h1⟩, q _ w' R' l (wk_tup h1 h2)⟩⟩
theorem hi_lst {α : Type} [Rp α] {xs : Lst α} (h : HE X e env env1 (rv xs)) : HI X tg e env env1 (rvs xs.l) := (pi_list h).imp fun σ H Q ⟨w, e1, R1, q⟩ => ⟨w, e1, R1, fun v w' R' l ⟨t, vs, e2, h1, h2⟩ =>
  ⟨t, e2, ⟨vs, SqL.of (R'.ok.sub _ _ h1)⟩, q _ w' R' l (wk_lst h1 h2)⟩⟩
theorem hi_rng1 {j : Int} {p : Pos} (h : HE X e env env1 (rv j)) (hb : -(2 ^ 62) ≤ j ∧ j < 2 ^ 62) (hm : X.mg "range" = none) (hg : Gl X "range" := by rfl) (hs : starEach [e] X.env = (false, eval e X.env) :: starEach [] X.env := by rfl) (hs2 : starEach [e] X.env = [(false, eval e X.env)] := by rfl) :
    HI X tg (.Call (.Name "range" p) [e] [] pos) env env1 (rvs (rng 0 j.toNat)) := (pi_range1 hg hm (pa_cons h pa_nil hs) hs2).imp fun σ H Q ⟨w, e1, R1, q⟩ => ⟨w, e1, R1, fun v w' R' l p => ⟨j, by rw [show v = .int j from p], hb.1, hb.2, q _ w' R' l wk_rng⟩⟩
theorem hi_rng2 {i j : Int} {p : Pos} (h : HE X a env env1 (rv i)) (h' : HE X b env1 env2 (rv j)) (hb : -(2 ^ 62) ≤ i ∧ i < 2 ^ 62 ∧ -(2 ^ 62) ≤ j ∧ j < 2 ^ 62) (hm : X.mg "range" = none) (hg : Gl X "range" := by rfl)
    (hs : starEach [a, b] X.env = (false, eval a X.env) :: starEach [b] X.env := by rfl) (hs' : starEach [b] X.env = (false, eval b X.env) :: starEach [] X.env := by rfl)
    (hs2 : starEach [a, b] X.env = [(false, eval a X.env), (false, eval b X.env)] := by rfl) (hs3 : starEach [b] X.env = [(false, eval b X.env)] := by rfl) :
    HI X tg (.Call (.Name "range" p) [a, b] [] pos) env env2 (rvs (rng i (j - i).toNat)) := (pi_range2 hg hm (pa_cons h (pa_cons h' pa_nil hs') hs) hs2 hs3).imp fun σ H Q ⟨w, e1, R1, q⟩ => ⟨w, e1, R1, fun v w' R' l p => ⟨w', rfl, R', fun u w2 R2 l2 p2 =>
      ⟨i, j, by rw [show v = .int i from p, show u = .int j from p2], hb, q _ w2 R2 (l.trans l2) wk_rng⟩⟩⟩
/-! ### for -/
theorem Oc.sat_out {K : PySem.W.Frag} {w0 : Wd} {D D' : Ends} (h : oc.out) (q : oc.sat K We w0 D) (e : D'.rt = D.rt) : oc.sat K We w0 D' := by
  cases oc with
  | rt P e' => intro σ v w R l p; rw [e]; exact q σ v w R l p
  | er c P e' => exact q
  | rl Ps e' => intro σ p vs w R l hp al; rw [e]; exact q σ p vs w R l hp al
  | nx _ => exact h.elim
  | bk _ => exact h.elim
  | ct _ => exact h.elim
theorem st_for {xs : List VP} {iter : Expr} (hp : PassesOwn (model X.prog X.w) X.A X.env X.xe) (hc : X.calm = true) (hi : HI X tg iter env env1 xs) (hl : Lp X We tg A xs env1 oc) (hs : ∀ x, foldedSetIterable iter X.env x = pure x := by intro _; rfl) : HS X We (.For tg iter A [] pos) env oc := by
  refine (ps_for hp hc hi (pg_any (tg := tg)) (pss_any (We := We) (ss := A)) hs).imp fun D σ H ⟨w, e1, R1, q⟩ => ⟨w, e1, R1, fun J w1 R2 l1 wk => ?_⟩
  let Wn : Nat → Nat → L2.St → Hp → Prop := fun i m σ H => m = xs.length - i ∧ i ≤ xs.length ∧ ∃ (ev : List Slot) (w2 : Wd), w2.H = H ∧ Rep X.K ev σ w2 ∧ Le w1 w2 ∧ Lp X We tg A (xs.drop i) ev oc
  refine ⟨Wn, ⟨xs.length, rfl, Nat.zero_le _, env1, w1, rfl, R2, Le.refl _, hl⟩, ?_⟩
  rintro i m σ2 H2 ⟨rfl, hi, ev, w2, rfl, R3, l2, lp⟩
  by_cases hlt : i < xs.length
  · refine .inr ⟨wk.go i w2 l2 R3.ok hlt, fun σ' H' => ∃ m', m' < xs.length - i ∧ Wn (i + 1) m' σ' H', fun σ' H' h => h, fun x H3 y => ?_⟩
    have hx : xs[i]? = some xs[i] := by simp [hlt]
    obtain ⟨w3, rfl, l3, p3, k3⟩ := wk.yld i w2 x H3 _ l2 R3.ok hx y
    have R4 := k3 _ _ R3
    have hd : xs.drop i = xs[i] :: xs.drop (i + 1) := List.drop_eq_getElem_cons hlt
    rw [hd] at lp
    have go : ∀ {e2 : List Slot} {w4 : Wd} {σ4 : L2.St}, Lp X We tg A (xs.drop (i + 1)) e2 oc → Rep X.K e2 σ4 w4 → Le w3 w4 → ∃ m', m' < xs.length - i ∧ Wn (i + 1) m' σ4 w4.H := fun {e2 w4 σ4} k R l =>
      ⟨xs.length - (i + 1), by omega, rfl, hlt, e2, w4, rfl, R, l2.trans (l3.trans l), k⟩
    cases lp with
    | cons hg hb k => exact ⟨_, _, _, _, hg, w3, rfl, R4, p3, fun σ5 w5 R5 l5 _ => ⟨_, _, hb, w5, rfl, R5, fun σ6 w6 R6 l6 => go k R6 (l5.trans l6)⟩⟩
    | cont hg hb k => exact ⟨_, _, _, _, hg, w3, rfl, R4, p3, fun σ5 w5 R5 l5 _ => ⟨_, _, hb, w5, rfl, R5, fun σ6 w6 R6 l6 => go k R6 (l5.trans l6)⟩⟩
    | brk hg hb => exact ⟨_, _, _, _, hg, w3, rfl, R4, p3, fun σ5 w5 R5 l5 _ => ⟨_, _, hb, w5, rfl, R5, fun σ6 w6 R6 l6 => q σ6 w6 R6 ((((l1.trans l2).trans l3).trans l5).trans l6)⟩⟩
    | exit hg hb ho => exact ⟨_, _, _, _, hg, w3, rfl, R4, p3, fun σ5 w5 R5 l5 _ => ⟨_, _, hb, w5, rfl, R5, Oc.sat_out ho (Oc.sat_le (oc := oc) (((l1.trans l2).trans l3).trans l5) q) rfl⟩⟩
  · refine .inl ⟨wk.stop i w2 l2 R3.ok (Nat.le_antisymm hi (Nat.le_of_not_lt hlt)), ?_⟩
    rw [List.drop_eq_nil_of_le (Nat.le_of_not_lt hlt)] at lp
    cases lp with
    | nil => exact q σ2 w2 R3 (l1.trans l2)
/-! ### while -/
theorem wl_done (h : HB X e env env1 false) : Wl X We e A env (.nx env1) := ⟨0, .done h⟩
theorem wl_turn (h : HB X e env env1 true) (hb : HSs X We A env1 (.nx env2)) (k : Wl X We e A env2 oc) : Wl X We e A env oc := k.elim fun n k => ⟨n + 1, .turn h hb k⟩
theorem wl_cont (h : HB X e env env1 true) (hb : HSs X We A env1 (.ct env2)) (k : Wl X We e A env2 oc) : Wl X We e A env oc := k.elim fun n k => ⟨n + 1, .cont h hb k⟩
theorem wl_brk (h : HB X e env env1 true) (hb : HSs X We A env1 (.bk env2)) : Wl X We e A env (.nx env2) := ⟨0, .brk h hb⟩
theorem wl_exit (h : HB X e env env1 true) (hb : HSs X We A env1 oc) (ho : oc.out) : Wl X We e A env oc := ⟨0, .exit h hb ho⟩
theorem st_while (hp : PassesOwn (model X.prog X.w) X.A X.env X.xe) (hl : Wl X We e A env oc) : HS X We (.While e A [] pos) env oc := by
  refine (ps_while hp (pt_any (e := e)) (pss_any (We := We) (ss := A))).imp fun D σ H ⟨w, e1, R1, q⟩ => ?_
  obtain ⟨n, hl⟩ := hl
  let Wn : Nat → L2.St → Hp → Prop := fun m σ H => ∃ (ev : List Slot) (w2 : Wd), w2.H = H ∧ Rep X.K ev σ w2 ∧ Le w w2 ∧ WlN X We e A m ev oc
  refine ⟨Wn, ⟨n, env, w, e1, R1, Le.refl _, hl⟩, ?_⟩
  rintro m σ2 H2 ⟨ev, w2, rfl, R2, l2, lp⟩
  cases lp with
  | done h => exact ⟨_, _, _, h, w2, rfl, R2, fun w3 R3 l3 => iteF (q σ2 w3 R3 (l2.trans l3))⟩
  | turn h hb k => exact ⟨_, _, _, h, w2, rfl, R2, fun w3 R3 l3 => iteT ⟨Wn _, fun σ' H' hh => ⟨_, Nat.lt_succ_self _, hh⟩, _, _, hb, w3, rfl, R3, fun σ4 w4 R4 l4 => ⟨_, w4, rfl, R4, l2.trans (l3.trans l4), k⟩⟩⟩
  | cont h hb k => exact ⟨_, _, _, h, w2, rfl, R2, fun w3 R3 l3 => iteT ⟨Wn _, fun σ' H' hh => ⟨_, Nat.lt_succ_self _, hh⟩, _, _, hb, w3, rfl, R3, fun σ4 w4 R4 l4 => ⟨_, w4, rfl, R4, l2.trans (l3.trans l4), k⟩⟩⟩
  | brk h hb => exact ⟨_, _, _, h, w2, rfl, R2, fun w3 R3 l3 => iteT ⟨fun _ _ => False, fun _ _ hh => hh.elim, _, _, hb, w3, rfl, R3, fun σ4 w4 R4 l4 => q σ4 w4 R4 (l2.trans (l3.trans l4))⟩⟩
  | exit h hb ho => exact ⟨_, _, _, h, w2, rfl, R2, fun w3 R3 l3 => iteT ⟨fun _ _ => False, fun _ _ hh => hh.elim, _, _, hb, w3, rfl, R3, Oc.sat_out ho (Oc.sat_le (oc := oc) (l2.trans l3) q) rfl⟩⟩
end

/-! ### a list of one's own: read, changed -/
class Fl (α : Type) [Rp α] : Prop where
  flat : ∀ {K : PySem.W.Frag} {x : α} {v : V} {H H' : Hp}, Rp.rp K x v H → Rp.rp K x v H'
instance : Fl Int := ⟨fun h => h⟩
instance : Fl Bool := ⟨fun h => h⟩
instance : Fl Str := ⟨fun h => h⟩
instance : Fl Unit := ⟨fun h => h⟩
/-- the slots that hold a list that may change -/
structure Own {α : Type} [Rp α] (mk : List α → Slot) : Prop where
  ex : ∀ {K i s w} {xs : List α}, (mk xs).p K i s w → ∃ a vs, s = some (.ref a) ∧ w.O a = some i ∧ w.H a = some (.lst vs) ∧ Al α K w.Hi xs vs
  put : ∀ {K i s w w'} {xs ys : List α} {a : Addr} {vs : List V}, (mk xs).p K i s w → s = some (.ref a) → w'.O a = some i → w'.H a = some (.lst vs) → Al α K w'.Hi ys vs → w'.pa = w.pa → (mk ys).p K i s w'
theorem own_own {α : Type} [Rp α] : Own (α := α) own := ⟨fun h => h, fun _ e o h l _ => ⟨_, _, e, o, h, l⟩⟩
theorem own_par {α : Type} [Rp α] : Own (α := α) par := ⟨fun ⟨a, vs, e, q, o, h, l⟩ => ⟨a, vs, e, o, h, l⟩, fun ⟨a, vs, e, q, o, h, l⟩ e2 o2 h2 l2 z => ⟨_, _, e2, by
  rw [e] at e2
  cases e2
  rw [z]
  exact q, o2, h2, l2⟩⟩
/-- the list at a changed -/
def Wd.wr (w : Wd) (a : Addr) (o : HO) : Wd := { w with H := upd w.H a o }
theorem wr_rep {K : PySem.W.Frag} {env : List Slot} {σ : L2.St} {w : Wd} {i : Nat} {a : Addr} {vs : List V} {s : Slot} {x : Option V} (R : Rep K env σ w) (ho : w.O a = some i) (hx : σ[i]? = some x) (hs : s.p K i x (w.wr a (.lst vs))) : Rep K (env.set i s) σ (w.wr a (.lst vs)) ∧ Le w (w.wr a (.lst vs)) := by
  have hn := (R.ok.ho a i ho).1
  have ok : (w.wr a (.lst vs)).Ok := ⟨R.ok.sub.put hn, fun b j q => ⟨(R.ok.ho b j q).1, upd_dom (R.ok.ho b j q).2⟩⟩
  refine ⟨⟨ok, by rw [List.length_set]; exact R.len, fun j t e => ?_⟩, Ex.refl _, fun b u q k => ?_, fun b q => upd_dom q, rfl⟩
  · by_cases z : i = j
    · subst z
      have hlt : i < env.length := by
        have := (List.getElem?_eq_some_iff.mp e).1
        rw [List.length_set] at this
        exact this
      rw [List.getElem?_set_self hlt] at e
      cases e
      exact ⟨x, hx, hs⟩
    · rw [List.getElem?_set_ne z] at e
      obtain ⟨y, hy, hp⟩ := R.sl j t e
      refine ⟨y, hy, t.mono hp (Ex.refl _) (fun c hc => ⟨hc, ?_⟩) rfl⟩
      exact upd_ne fun zz => by
        subst zz
        rw [ho] at hc
        cases hc
        exact z rfl
  · refine ⟨(upd_ne fun zz => ?_).trans q, k, rfl⟩
    subst zz
    rw [ho] at k
    cases k
section
variable {X : Cx} {We : WX} {env env1 env2 env3 : List Slot} {P R S : VP} {a b e : Expr} {s : Stmt} {r A B : List Stmt} {pos apos : Pos} {oc : Oc} {α : Type} [Rp α] {mk : List α → Slot} {xs : List α}
/-- the name of such a list: its address -/
def tO (K : PySem.W.Frag) (env : List Slot) (i : Nat) : TE := fun σ H Q => ∃ w : Wd, w.H = H ∧ Rep K env σ w ∧ ∀ a, σ[i]? = some (some (.ref a)) → Q (.ref a) w.H
theorem pe_own (O : Own mk) (i : Nat) {x : Str} (hi : env[i]? = some (mk xs)) (hN : X.N[i]? = some x := by rfl)
    (hv : Vis X.env.scope x := by first | exact Or.inl rfl | exact Or.inr (Or.inl rfl) | exact Or.inr (Or.inr rfl)) (hd : (x == ("__debug__" : Str)) = false := by decide) (hcd : (x == ("__classdict__" : Str)) = false := by decide) : PE X (.Name x pos) (tO X.K env i) :=
  (pe_var hN hv hd hcd).imp fun σ H Q ⟨w, e1, R1, q⟩ => by
    subst e1
    obtain ⟨x, h1, h2⟩ := R1.sl i _ hi
    obtain ⟨a, vs, h3, _⟩ := O.ex h2
    subst h3
    exact ⟨.ref a, h1, q a h1⟩
theorem Rep.own {K : PySem.W.Frag} {σ : L2.St} {w : Wd} {i : Nat} {a : Addr} (R : Rep K env σ w) (O : Own mk) (hi : env[i]? = some (mk xs)) (ha : σ[i]? = some (some (.ref a))) : ∃ vs, (mk xs).p K i (some (.ref a)) w ∧ w.O a = some i ∧ w.H a = some (.lst vs) ∧ Al α K w.Hi xs vs := by
  obtain ⟨x, h1, h2⟩ := R.sl i _ hi
  rw [ha] at h1
  cases h1
  obtain ⟨a', vs, h3, h4, h5, h6⟩ := O.ex h2
  cases h3
  exact ⟨vs, h2, h4, h5, h6⟩
/-- reading, the answer flat -/
theorem he_lenO (O : Own mk) (i : Nat) {x : Str} {p q : Pos} (hi : env[i]? = some (mk xs)) (hm : X.mg "len" = none) (hN : X.N[i]? = some x := by rfl)
    (hv : Vis X.env.scope x := by first | exact Or.inl rfl | exact Or.inr (Or.inl rfl) | exact Or.inr (Or.inr rfl)) (hd : (x == ("__debug__" : Str)) = false := by decide) (hcd : (x == ("__classdict__" : Str)) = false := by decide)
    (hg : Gl X "len" := by rfl) (hs : starEach [.Name x q] X.env = (false, eval (.Name x q) X.env) :: starEach [] X.env := by rfl) (hpl : (backTo pos (starEach [] X.env)).any (·.1) = false := by rfl) :
    HE X (.Call (.Name "len" p) [.Name x q] [] pos) env env (rv (xs.length : Int)) :=
  (pe_callB call_len_seq hg hm PySem.boot_len (pa_cons (pe_own O i hi hN hv hd hcd) pa_nil hs) (he := hs) (hpl := hpl)).imp fun σ H Q ⟨w, e1, R1, q⟩ => ⟨w, e1, R1, fun a ha => by
    obtain ⟨vs, _, _, h5, h6⟩ := R1.own O hi ha
    refine ⟨a, vs, rfl, .inl (SqL.of h5), ?_⟩
    rw [h6.len]
    exact q _ w R1 (Le.refl w) rfl⟩
/-- an item -/
theorem he_ixO (O : Own mk) (i : Nat) {x : Str} {j : Int} {y : α} {q : Pos} (hi : env1[i]? = some (mk xs)) (h0 : env[i]? = some (mk xs)) (hx : atI xs j = some y) (hb : HE X b env env1 (rv j)) (hN : X.N[i]? = some x := by rfl)
    (hv : Vis X.env.scope x := by first | exact Or.inl rfl | exact Or.inr (Or.inl rfl) | exact Or.inr (Or.inr rfl)) (hd : (x == ("__debug__" : Str)) = false := by decide) (hcd : (x == ("__classdict__" : Str)) = false := by decide) (hs : PlainIx b := by intro _ _; rfl) : HE X (.Subscript (.Name x q) b pos) env env1 (rv y) :=
  (pe_ix ix_list (pe_own O i h0 hN hv hd hcd) hb hs).imp fun σ H Q ⟨w, e1, R1, q⟩ => ⟨w, e1, R1, fun a ha => ⟨w, rfl, R1, fun v w' R' l p => by
    obtain ⟨vs, _, _, h5, h6⟩ := R'.own O hi ha
    obtain ⟨z, e2, h3⟩ := atI_map h6 hx
    exact ⟨a, vs, j, z, rfl, p, SqL.of h5, e2, q z w' R' l h3⟩⟩⟩
/-- xs.append(e) -/
theorem st_append (O : Own mk) (i : Nat) {x : Str} {y : α} {q : Pos} (h0 : env[i]? = some (mk xs)) (hi : env1[i]? = some (mk xs)) (hz : xs.length ≤ 100000) (he : HE X e env env1 (rv y)) (hN : X.N[i]? = some x := by rfl)
    (hv : Vis X.env.scope x := by first | exact Or.inl rfl | exact Or.inr (Or.inl rfl) | exact Or.inr (Or.inr rfl)) (hd : (x == ("__debug__" : Str)) = false := by decide) (hcd : (x == ("__classdict__" : Str)) = false := by decide)
    (hs : swapsWith (.Call (.Attribute (.Name x q) "append" apos) [e] [] pos) none pos.line X.env = pure false := by rfl)
    (hbase : attributeBase (.Name x q) "append" X.env (eval (.Name x q) X.env) = eval (.Name x q) X.env := by rfl)
    (hfew : ((backTo pos (starEach [e] X.env)).all (fun x => !x.1) && (backToKw pos (keywordEach [] X.env)).all (fun x => x.1.isSome)
      && decide (([e] : List Expr).length + ([] : List Keyword).length + (if ([] : List Keyword).isEmpty then 0 else 1) < 30)) = true := by rfl)
    (hline : (apos.endLine == pos.line) = true := by rfl) (hst : starEach [e] X.env = (false, eval e X.env) :: starEach [] X.env := by rfl) (hplain : (backTo pos (starEach [] X.env)).any (·.1) = false := by rfl) :
    HS X We (.Expr (.Call (.Attribute (.Name x q) "append" apos) [e] [] pos) pos) env (.nx (env1.set i (mk (xs ++ [y])))) :=
  (ps_expr (pe_bm PySem.F.plainAttrs_list PySem.F.slot_list_append PySem.F.type_list_append mt_append (pe_own O i h0 hN hv hd hcd) (pa_cons he pa_nil hst) hbase hfew hline hst hplain) hs).imp fun D σ H ⟨w, e1, R1, q⟩ => ⟨w, e1, R1, fun a ha => by
    obtain ⟨vs, h3, h4, h5, h6⟩ := R1.own O h0 ha
    refine ⟨.inl ⟨rfl, vs, SqL.of h5⟩, w, rfl, R1, fun v w' R' l p => ?_⟩
    obtain ⟨vs', h3', h4', h5', h6'⟩ := R'.own O hi ha
    refine ⟨a, vs', v, rfl, rfl, h5', by rw [h6'.len]; exact Nat.lt_of_le_of_lt hz (by decide), ?_⟩
    obtain ⟨R2, l2⟩ := wr_rep (s := mk (xs ++ [y])) (vs := vs' ++ [v]) R' h4' ha (O.put h3' rfl h4' upd_same (h6'.app (Al.cons p Al.nil)) rfl)
    exact q σ _ R2 (l.trans l2)⟩
/-- xs.pop() as a statement -/
theorem st_pop (O : Own mk) (i : Nat) {x : Str} {y : α} {q : Pos} (h0 : env[i]? = some (mk (xs ++ [y]))) (hN : X.N[i]? = some x := by rfl)
    (hv : Vis X.env.scope x := by first | exact Or.inl rfl | exact Or.inr (Or.inl rfl) | exact Or.inr (Or.inr rfl)) (hd : (x == ("__debug__" : Str)) = false := by decide) (hcd : (x == ("__classdict__" : Str)) = false := by decide)
    (hs : swapsWith (.Call (.Attribute (.Name x q) "pop" apos) [] [] pos) none pos.line X.env = pure false := by rfl)
    (hbase : attributeBase (.Name x q) "pop" X.env (eval (.Name x q) X.env) = eval (.Name x q) X.env := by rfl) (hline : (apos.endLine == pos.line) = true := by rfl) :
    HS X We (.Expr (.Call (.Attribute (.Name x q) "pop" apos) [] [] pos) pos) env (.nx (env.set i (mk xs))) :=
  (ps_expr (pe_bm0 PySem.F.plainAttrs_list PySem.F.slot_list_pop PySem.F.type_list_pop mt_pop (pe_own O i h0 hN hv hd hcd) hbase hline) hs).imp fun D σ H ⟨w, e1, R1, q⟩ => ⟨w, e1, R1, fun a ha => by
    obtain ⟨vs, h3, h4, h5, h6⟩ := R1.own O h0 ha
    have hl : vs.length = xs.length + 1 := by rw [h6.len, List.length_append]; rfl
    obtain ⟨z, hz⟩ : ∃ z, vs[vs.length - 1]? = some z := ⟨_, List.getElem?_eq_getElem (by omega)⟩
    refine ⟨.inl ⟨rfl, vs, SqL.of h5⟩, a, vs, z, rfl, rfl, h5, hz, ?_⟩
    have al : Al α X.K w.Hi xs vs.dropLast := by
      have h7 := h6.take xs.length
      rw [List.take_left] at h7
      rw [List.dropLast_eq_take, hl]
      exact h7
    obtain ⟨R2, l2⟩ := wr_rep (s := mk xs) (vs := vs.dropLast) R1 h4 ha (O.put h3 rfl h4 upd_same al rfl)
    exact q σ _ R2 l2⟩
end

/-! ### items stored, slices, sums of rows -/
section
variable {X : Cx} {We : WX} {env env1 env2 env3 : List Slot} {P R S : VP} {a b e : Expr} {s : Stmt} {r A B : List Stmt} {pos apos : Pos} {oc : Oc} {α : Type} [Rp α] {mk : List α → Slot} {xs ys : List α}
theorem st_setO (O : Own mk) (i : Nat) {x : Str} {y : α} {q p2 : Pos} {j : Int} {k : Nat} (hi : env1[i]? = some (mk xs)) (hk : ixN xs.length j = some k) (he : HE X e env env1 (rv y)) (hb : HE X b env1 env1 (rv j)) (hN : X.N[i]? = some x := by rfl)
    (hv : Vis X.env.scope x := by first | exact Or.inl rfl | exact Or.inr (Or.inl rfl) | exact Or.inr (Or.inr rfl)) (hd : (x == ("__debug__" : Str)) = false := by decide) (hcd : (x == ("__classdict__" : Str)) = false := by decide)
    (hs : swapsWithSole [.Subscript (.Name x q) b p2] e pos.line X.env = pure false := by rfl) (hw : swappedStores [.Subscript (.Name x q) b p2] e X.env = pure none := by rfl)
    (h1 : (assignEach [.Subscript (.Name x q) b p2] X.env).map (·.2) = [assign (.Subscript (.Name x q) b p2) X.env] := by rfl)
    (ha : ∀ v, assign (.Subscript (.Name x q) b p2) X.env v = (do
      let ov ← holding [v] (eval (.Name x q) X.env)
      let iv ← holding [v, ov] (eval b X.env)
      standAt p2
      holding [v, ov, iv] (setItem ov iv v)
      release [v, ov, iv] []) := by intro _; rfl) : HS X We (.Assign [.Subscript (.Name x q) b p2] e pos) env (.nx (env1.set i (mk (xs.set k y)))) :=
  (ps_asg he (pg_sub (pe_own O i hi hN hv hd hcd) hb set_list ha) hs hw h1).imp fun D σ H ⟨w, e1, R1, qq⟩ => ⟨w, e1, R1, fun v w' R' l p => ⟨w', rfl, R', fun a ha => ⟨w', rfl, R', fun u w2 R2 l2 p2 => by
    obtain ⟨vs, h3, h4, h5, h6⟩ := R2.own O hi ha
    refine ⟨a, vs, j, k, rfl, p2, h5, by rw [h6.len]; exact hk, ?_⟩
    obtain ⟨R3, l3⟩ := wr_rep (s := mk (xs.set k y)) (vs := vs.set k v) R2 h4 ha (O.put h3 rfl h4 upd_same (Al.set (Rp.mono l2.hi p) k h6) rfl)
    exact qq σ _ R3 ((l.trans l2).trans l3)⟩⟩⟩
/-! slices -/
def tP (K : PySem.W.Frag) (env env' : List Slot) (o : Option Int) : TO := fun σ H Q => ∃ w : Wd, w.H = H ∧ Rep K env σ w ∧ ∀ w', Rep K env' σ w' → Le w w' → Q o w'.H
abbrev HO' (X : Cx) (e : Option Expr) (env env' : List Slot) (o : Option Int) : Prop := PO X e (tP X.K env env' o)
theorem _root_.L2.PO.imp {X : Cx} {e : Option Expr} {t t' : TO} (h : PO X e t) (k : ∀ σ H Q, t' σ H Q → t σ H Q) : PO X e t' := ⟨fun pins s σ H Q I q => h.run pins s σ H Q I (k σ H Q q)⟩
theorem ho_none : HO' X none env env none := po_none.imp fun σ H Q ⟨w, e1, R1, q⟩ => by
  subst e1
  exact q w R1 (Le.refl w)
theorem ho_some {i : Int} (h : HE X e env env1 (rv i)) : HO' X (some e) env env1 (some i) := (po_some h).imp fun σ H Q ⟨w, e1, R1, q⟩ => ⟨w, e1, R1, fun v w' R' l p => ⟨i, p, q w' R' l⟩⟩
def cut {β : Type} (xs : List β) (lo hi : Option Int) : List β := (xs.drop (HT.sIx xs.length 0 lo)).take (HT.sIx xs.length xs.length hi - HT.sIx xs.length 0 lo)
theorem Al.cut {K : PySem.W.Frag} {H : Hp} {xs : List α} {vs : List V} (h : Al α K H xs vs) (lo hi : Option Int) : Al α K H (cut xs lo hi) (cutV vs lo hi) := by
  unfold BC.cut cutV
  rw [h.len]
  exact (h.drop _).take _
theorem cut_whole {β : Type} {xs : List β} {lo hi : Option Int} (h : HT.sIx xs.length 0 lo = 0 ∧ HT.sIx xs.length xs.length hi = xs.length) : BC.cut xs lo hi = xs := by
  unfold BC.cut
  rw [h.1, h.2, List.drop_zero, Nat.sub_zero, List.take_length]
theorem he_slT {lo hi : Option Expr} {l h : Option Int} {p2 : Pos} (ha : HE X a env env1 (rv xs)) (hl : HO' X lo env1 env2 l) (hh : HO' X hi env2 env3 h) : HE X (.Subscript a (.Slice lo hi none p2) pos) env env3 (rv (cut xs l h)) :=
  (pe_slice sl_tupA ha hl hh).imp fun σ H Q ⟨w, e1, R1, q⟩ => ⟨w, e1, R1, fun v w1 R2 l1 ⟨t, vs, e2, h1, h2⟩ => ⟨w1, rfl, R2, fun w2 R3 l2 => ⟨w2, rfl, R3, fun w3 R4 l3 => by
    have h1' := Ex.t (l2.hi.trans l3.hi) h1
    have h2' := h2.mono (l2.hi.trans l3.hi)
    refine ⟨t, vs, e2, Ex.t R4.ok.sub h1', fun hw => ?_, fun hw p hp => ?_⟩
    · rw [h2.len] at hw
      refine q _ w3 R4 ((l1.trans l2).trans l3) ?_
      rw [cut_whole hw]
      exact ⟨t, vs, rfl, h1', h2'⟩
    · have h5 := (R4.ok.fresh hp).1
      exact q _ (w3.add p (.tup (cutV vs l h))) (R4.add hp) (((l1.trans l2).trans l3).trans (add_le R4.ok hp)) ⟨p, _, rfl, SqT.of upd_same, (h2'.cut l h).mono (Ex.new h5)⟩⟩⟩⟩
theorem hl_sl {lo hi : Option Expr} {l h : Option Int} {p2 : Pos} {ys : Lst α} (ha : HE X a env env1 (rv ys)) (hl : HO' X lo env1 env2 l) (hh : HO' X hi env2 env3 h) : HL X (.Subscript a (.Slice lo hi none p2) pos) env env3 (cut ys.l l h) :=
  (pe_slice sl_list ha hl hh).imp fun σ H Q ⟨w, e1, R1, q⟩ => ⟨w, e1, R1, fun v w1 R2 l1 ⟨t, vs, e2, h1, h2⟩ => ⟨w1, rfl, R2, fun w2 R3 l2 => ⟨w2, rfl, R3, fun w3 R4 l3 =>
    ⟨t, vs, e2, SqL.of (R4.ok.sub _ _ (l3.hi _ _ (l2.hi _ _ h1))), fun p hp => q p _ w3 R4 ((l1.trans l2).trans l3) hp ((h2.mono (l2.hi.trans l3.hi)).cut l h)⟩⟩⟩⟩
theorem hl_slO (O : Own mk) (i : Nat) {x : Str} {p1 : Pos} {lo hi : Option Expr} {l h : Option Int} {p2 : Pos} (h0 : env[i]? = some (mk xs)) (hi2 : env2[i]? = some (mk xs)) (hl : HO' X lo env env1 l) (hh : HO' X hi env1 env2 h) (hN : X.N[i]? = some x := by rfl)
    (hv : Vis X.env.scope x := by first | exact Or.inl rfl | exact Or.inr (Or.inl rfl) | exact Or.inr (Or.inr rfl)) (hd : (x == ("__debug__" : Str)) = false := by decide) (hcd : (x == ("__classdict__" : Str)) = false := by decide) : HL X (.Subscript (.Name x p1) (.Slice lo hi none p2) pos) env env2 (cut xs l h) :=
  (pe_slice sl_list (pe_own O i h0 hN hv hd hcd) hl hh).imp fun σ H Q ⟨w, e1, R1, q⟩ => ⟨w, e1, R1, fun a ha => ⟨w, rfl, R1, fun w1 R2 l1 => ⟨w1, rfl, R2, fun w2 R3 l2 => by
    obtain ⟨vs, h3, h4, h5, h6⟩ := R3.own O hi2 ha
    exact ⟨a, vs, rfl, SqL.of h5, fun p hp => q p _ w2 R3 (l1.trans l2) hp (h6.cut l h)⟩⟩⟩⟩
/-! rows joined -/
theorem ov_catT (hz : xs.length + ys.length ≤ 100000) : OpV X (rCatA X.K) (rv xs) (rv ys) (rv (xs ++ ys)) := fun env σ x y w R1 ⟨t, vs, e1, h1, h2⟩ ⟨u, ws, e2, h3, h4⟩ Q q => by
    refine ⟨t, u, vs, ws, e1, e2, Ex.t R1.ok.sub h1, Ex.t R1.ok.sub h3, by rw [h2.len, h4.len]; exact Nat.le_trans hz (by decide), fun hn => ?_, fun hn hm => ?_, fun hn hm p hp => ?_⟩
    · have e3 : xs = [] := List.eq_nil_of_length_eq_zero (by rw [← h2.len, hn]; rfl)
      subst e3
      exact q _ w R1 (Le.refl w) ⟨u, ws, rfl, h3, h4⟩
    · have e3 : ys = [] := List.eq_nil_of_length_eq_zero (by rw [← h4.len, hm]; rfl)
      subst e3
      rw [List.append_nil] at q
      exact q _ w R1 (Le.refl w) ⟨t, vs, rfl, h1, h2⟩
    · have h5 := (R1.ok.fresh hp).1
      exact q _ (w.add p (.tup (vs ++ ws))) (R1.add hp) (add_le R1.ok hp) ⟨p, _, rfl, SqT.of upd_same, (h2.app h4).mono (Ex.new h5)⟩
theorem he_catT (hz : xs.length + ys.length ≤ 100000) (ha : HE X a env env1 (rv xs)) (hb : HE X b env1 env2 (rv ys)) : HE X (.BinOp a .Add b pos) env env2 (rv (xs ++ ys)) := he_op op_catA (ov_catT hz) ha hb
theorem hl_cat {xs ys : Lst α} (hz : xs.l.length + ys.l.length ≤ 100000) (ha : HE X a env env1 (rv xs)) (hb : HE X b env1 env2 (rv ys)) : HL X (.BinOp a .Add b pos) env env2 (xs.l ++ ys.l) :=
  (pe_op op_cat ha hb).imp fun σ H Q ⟨w, e1, R1, q⟩ => ⟨w, e1, R1, fun v w1 R2 l1 ⟨t, vs, e1, h1, h2⟩ => ⟨w1, rfl, R2, fun u w2 R3 l2 ⟨t2, ws, e2, h3, h4⟩ =>
    ⟨t, t2, vs, ws, e1, e2, R3.ok.sub _ _ (l2.hi _ _ h1), R3.ok.sub _ _ h3, by rw [h2.len, h4.len]; exact Nat.le_trans hz (by decide), fun p hp => q p _ w2 R3 (l1.trans l2) hp ((h2.mono l2.hi).app h4)⟩⟩⟩
/-! list of, tuple of -/
theorem he_tupleL {p : Pos} {ys : Lst α} (h : HE X e env env1 (rv ys)) (hm : X.mg "tuple" = none) (hg : Gl X "tuple" := by rfl) (hs : starEach [e] X.env = (false, eval e X.env) :: starEach [] X.env := by rfl) (hpl : (backTo pos (starEach [] X.env)).any (·.1) = false := by rfl) :
    HE X (.Call (.Name "tuple" p) [e] [] pos) env env1 (rv ys.l) :=
  (pe_callTy call_tuple_of hg hm (by decide +kernel) (pa_cons h pa_nil hs) (he := hs) (hpl := hpl)).imp fun σ H Q ⟨w, e1, R1, q⟩ => ⟨w, e1, R1, fun v w' R' l ⟨t, vs, e2, h1, h2⟩ => by
    refine ⟨t, vs, by rw [e2], .inl ⟨SqL.of (R'.ok.sub _ _ h1), fun p hp => ?_⟩⟩
    have h5 := (R'.ok.fresh hp).1
    exact q _ (w'.add p (.tup vs)) (R'.add hp) (l.trans (add_le R'.ok hp)) ⟨p, _, rfl, SqT.of upd_same, h2.mono (Ex.new h5)⟩⟩
theorem he_tupleT {p : Pos} (h : HE X e env env1 (rv xs)) (hm : X.mg "tuple" = none) (hg : Gl X "tuple" := by rfl) (hs : starEach [e] X.env = (false, eval e X.env) :: starEach [] X.env := by rfl) (hpl : (backTo pos (starEach [] X.env)).any (·.1) = false := by rfl) :
    HE X (.Call (.Name "tuple" p) [e] [] pos) env env1 (rv xs) :=
  (pe_callTy call_tuple_of hg hm (by decide +kernel) (pa_cons h pa_nil hs) (he := hs) (hpl := hpl)).imp fun σ H Q ⟨w, e1, R1, q⟩ => ⟨w, e1, R1, fun v w' R' l ⟨t, vs, e2, h1, h2⟩ =>
    ⟨t, vs, by rw [e2], .inr ⟨Ex.t R'.ok.sub h1, q _ w' R' l ⟨t, vs, rfl, h1, h2⟩⟩⟩⟩
theorem he_tupleO (O : Own mk) (i : Nat) {x : Str} {p p1 : Pos} (h0 : env[i]? = some (mk xs)) (hm : X.mg "tuple" = none) (hN : X.N[i]? = some x := by rfl)
    (hv : Vis X.env.scope x := by first | exact Or.inl rfl | exact Or.inr (Or.inl rfl) | exact Or.inr (Or.inr rfl)) (hd : (x == ("__debug__" : Str)) = false := by decide) (hcd : (x == ("__classdict__" : Str)) = false := by decide)
    (hg : Gl X "tuple" := by rfl) (hs : starEach [.Name x p1] X.env = (false, eval (.Name x p1) X.env) :: starEach [] X.env := by rfl) (hpl : (backTo pos (starEach [] X.env)).any (·.1) = false := by rfl) :
    HE X (.Call (.Name "tuple" p) [.Name x p1] [] pos) env env (rv xs) :=
  (pe_callTy call_tuple_of hg hm (by decide +kernel) (pa_cons (pe_own O i h0 hN hv hd hcd) pa_nil hs) (he := hs) (hpl := hpl)).imp fun σ H Q ⟨w, e1, R1, q⟩ => ⟨w, e1, R1, fun a ha => by
    obtain ⟨vs, _, _, h5, h6⟩ := R1.own O h0 ha
    refine ⟨a, vs, rfl, .inl ⟨SqL.of h5, fun p hp => ?_⟩⟩
    have h7 := (R1.ok.fresh hp).1
    exact q _ (w.add p (.tup vs)) (R1.add hp) (add_le R1.ok hp) ⟨p, _, rfl, SqT.of upd_same, h6.mono (Ex.new h7)⟩⟩
theorem hl_list {p : Pos} (h : HE X e env env1 P) (sq : Sq α xs P) (hm : X.mg "list" = none) (hg : Gl X "list" := by rfl) (hs : starEach [e] X.env = (false, eval e X.env) :: starEach [] X.env := by rfl) (hpl : (backTo pos (starEach [] X.env)).any (·.1) = false := by rfl) :
    HL X (.Call (.Name "list" p) [e] [] pos) env env1 xs :=
  (pe_callTy call_list_of hg hm (by decide +kernel) (pa_cons h pa_nil hs) (he := hs) (hpl := hpl)).imp fun σ H Q ⟨w, e1, R1, q⟩ => ⟨w, e1, R1, fun v w' R' l pp => by
    obtain ⟨a, vs, e2, h2, h3⟩ := sq _ _ _ pp
    exact ⟨a, vs, by rw [e2], h2.imp (Ex.l R'.ok.sub) (Ex.t R'.ok.sub), fun p hp => q p _ w' R' l hp h3⟩⟩
end
/-! ### comprehensions -/
abbrev blkX (X : Cx) (scope : Scope) (s : Shared) (H : Hp) (C : Addr) (cl : List (Str × Addr)) (fp : List Addr) : Cx := X.blk s H scope (compEnvC scope cl C X.env) fp
abbrev HTs (X : Cx) (ifs : List Expr) (env env' : List Slot) (b : Bool) : Prop := PTs X ifs (tT X.K env env' b)
theorem hts_nil {X : Cx} {env : List Slot} : HTs X [] env env true := ⟨fun pins s σ H Q I ⟨w, e1, R1, q⟩ => pts_nil.run pins s σ H Q I (by subst e1; exact q w R1 (Le.refl w))⟩
theorem hts_one {X : Cx} {env env1 : List Slot} {c : Expr} {b : Bool} (h : HB X c env env1 b) : HTs X [c] env env1 b := pts_one h
/-- the slots of a block's own names forgotten -/
def wipeE (env : List Slot) : List Nat → List Slot
  | [] => env
  | v :: vs => (wipeE env vs).set v un
theorem wipeE_length (env : List Slot) : ∀ vs : List Nat, (wipeE env vs).length = env.length
  | [] => rfl
  | v :: vs => by unfold wipeE; rw [List.length_set, wipeE_length env vs]
theorem wipeE_get {env : List Slot} {j : Nat} {s : Slot} : ∀ {vs : List Nat}, (wipeE env vs)[j]? = some s → (j ∈ vs ∧ s = un) ∨ (j ∉ vs ∧ env[j]? = some s)
  | [], h => .inr ⟨by simp, h⟩
  | v :: vs, h => by
    unfold wipeE at h
    by_cases z : v = j
    · subst z
      have hlt : v < (wipeE env vs).length := by
        have := (List.getElem?_eq_some_iff.mp h).1
        rw [List.length_set] at this
        exact this
      rw [List.getElem?_set_self hlt] at h
      cases h
      exact .inl ⟨List.mem_cons_self, rfl⟩
    · rw [List.getElem?_set_ne z] at h
      rcases wipeE_get h with ⟨h1, h2⟩ | ⟨h1, h2⟩
      · exact .inl ⟨List.mem_cons_of_mem _ h1, h2⟩
      · exact .inr ⟨fun hm => (List.mem_cons.mp hm).elim (fun e => z e.symm) h1, h2⟩
/-- from slots to slots alike but at the block's own -/
theorem Rep.wiped {K : PySem.W.Frag} {env : List Slot} {σ σ' : L2.St} {w : Wd} {vs : List Nat} (R : Rep K env σ w) (B : But vs σ σ') : Rep K (wipeE env vs) σ' w := by
  refine ⟨R.ok, by rw [wipeE_length, B.1]; exact R.len, fun j s h => ?_⟩
  rcases wipeE_get h with ⟨h1, h2⟩ | ⟨h1, h2⟩
  · have hlt : j < σ'.length := by
      rw [B.1, R.len, ← wipeE_length env vs]
      exact (List.getElem?_eq_some_iff.mp h).1
    exact ⟨σ'[j], List.getElem?_eq_getElem hlt, by rw [h2]; trivial⟩
  · obtain ⟨x, h3, h4⟩ := R.sl j s h2
    exact ⟨x, (B.2 j h1).trans h3, h4⟩
theorem wipe_but (σ : L2.St) : ∀ vs : List Nat, But vs σ (wipe σ vs)
  | [] => But.refl _ _
  | v :: vs => by
    unfold wipe
    have h := (wipe_but σ vs).trans (But.set (is := [v]) (σ := wipe σ vs) (x := none) List.mem_cons_self)
    exact ⟨h.1, fun j hj => h.2 j (by rw [List.mem_append]; rintro (h1 | h1); exact hj (List.mem_cons_of_mem _ h1); exact hj (by rw [List.mem_singleton] at h1; rw [h1]; exact List.mem_cons_self))⟩
theorem wipe_none (σ : L2.St) {j : Nat} : ∀ {vs : List Nat}, j ∈ vs → j < σ.length → (wipe σ vs)[j]? = some none
  | [], h, _ => by simp at h
  | v :: vs, h, hl => by
    unfold wipe
    by_cases z : v = j
    · subst z
      rw [List.getElem?_set_self (by rw [wipe_length]; exact hl)]
    · rw [List.getElem?_set_ne z]
      exact wipe_none σ ((List.mem_cons.mp h).resolve_left fun e => z e.symm) hl
theorem wipe_eq {σ σ' : L2.St} {vs : List Nat} (B : But vs (wipe σ vs) σ') : wipe σ' vs = wipe σ vs := by
  have hl : σ'.length = σ.length := B.1.trans (wipe_length σ vs)
  refine List.ext_getElem? fun j => ?_
  by_cases hj : j ∈ vs
  · by_cases hlt : j < σ.length
    · rw [wipe_none σ' hj (by rw [hl]; exact hlt), wipe_none σ hj hlt]
    · rw [List.getElem?_eq_none (by rw [wipe_length, hl]; omega), List.getElem?_eq_none (by rw [wipe_length]; omega)]
  · rw [(wipe_but σ' vs).2 j hj, B.2 j hj]
inductive Cl (X : Cx) (scope : Scope) (tg elt : Expr) (ifs : List Expr) (vs : List Nat) : List VP → List Slot → List VP → List Slot → Prop
  | nil {env : List Slot} : Cl X scope tg elt ifs vs [] env [] env
  | yes {P R : VP} {Ps Rs : List VP} {env e1 e2 e3 ef : List Slot} : (∀ s H C cl fp, HG (blkX X scope s H C cl fp) tg P env e1 vs) → (∀ s H C cl fp, HTs (blkX X scope s H C cl fp) ifs e1 e2 true) → (∀ s H C cl fp, HE (blkX X scope s H C cl fp) elt e2 e3 R) →
      Cl X scope tg elt ifs vs Ps (wipeE e3 vs) Rs ef → Cl X scope tg elt ifs vs (P :: Ps) env (R :: Rs) ef
  | no {P : VP} {Ps Rs : List VP} {env e1 e2 ef : List Slot} : (∀ s H C cl fp, HG (blkX X scope s H C cl fp) tg P env e1 vs) → (∀ s H C cl fp, HTs (blkX X scope s H C cl fp) ifs e1 e2 false) →
      Cl X scope tg elt ifs vs Ps (wipeE e2 vs) Rs ef → Cl X scope tg elt ifs vs (P :: Ps) env Rs ef
theorem HG.sub {X : Cx} {tg : Expr} {P : VP} {env env' : List Slot} {is js : List Nat} (h : HG X tg P env env' is) (k : ∀ i ∈ is, i ∈ js) : HG X tg P env env' js := h.imp fun v σ H Q ⟨w, e1, R1, p, q⟩ => ⟨w, e1, R1, p, fun σ' w' R' l B => q σ' w' R' l ⟨B.1, fun j hj => B.2 j fun hi => hj (k j hi)⟩⟩
def cG (X : Cx) (scope : Scope) (tg : Expr) (vs : List Nat) : TG := fun v σ H Q => ∃ P env env', (∀ s H C cl fp, HG (blkX X scope s H C cl fp) tg P env env' vs) ∧ ∃ w : Wd, w.H = H ∧ Rep X.K env σ w ∧ P.p X.K v w.Hi ∧ ∀ σ' w', Rep X.K env' σ' w' → Le w w' → But vs σ σ' → Q σ' w'.H
def cT (X : Cx) (scope : Scope) (ifs : List Expr) : TT := fun σ H Q => ∃ env env' b, (∀ s H C cl fp, HTs (blkX X scope s H C cl fp) ifs env env' b) ∧ ∃ w : Wd, w.H = H ∧ Rep X.K env σ w ∧ ∀ w', Rep X.K env' σ w' → Le w w' → Q b w'.H
def cE (X : Cx) (scope : Scope) (elt : Expr) : TE := fun σ H Q => ∃ env env' P, (∀ s H C cl fp, HE (blkX X scope s H C cl fp) elt env env' P) ∧ ∃ w : Wd, w.H = H ∧ Rep X.K env σ w ∧ ∀ v w', Rep X.K env' σ w' → Le w w' → P.p X.K v w'.Hi → Q v w'.H
/-- a comprehension's outcome: the slots ahead and behind -/
structure LcEnv (vs : List Nat) (env envf envo : List Slot) : Prop where
  len : envo.length = envf.length
  out : ∀ j s, envo[j]? = some s → (j ∉ vs ∧ envf[j]? = some s) ∨ (j ∈ vs ∧ (s = un ∨ ∃ P, s = im P ∧ env[j]? = some (im P)))
theorem lc_env {vs : List Nat} {env envf : List Slot} : LcEnv vs env envf (wipeE envf vs) := ⟨wipeE_length _ _, fun j s h => by
  rcases wipeE_get h with ⟨h1, h2⟩ | ⟨h1, h2⟩
  · exact .inr ⟨h1, .inl h2⟩
  · exact .inl ⟨h1, h2⟩⟩
section
variable {X : Cx} {We : WX} {env env1 envf envo : List Slot} {P : VP} {elt tg iter : Expr} {ifs : List Expr} {scope : Scope} {own' : List (Str × Nat)} {pos : Pos} {xs : List VP}
def tLP (K : PySem.W.Frag) (env env' : List Slot) (Rs : List VP) : TE := fun σ H Q => ∃ w : Wd, w.H = H ∧ Rep K env σ w ∧ ∀ p vs w', Rep K env' σ w' → Le w w' → w'.H p = none → AlP K w'.Hi Rs vs → Q (.ref p) (upd w'.H p (.lst vs))
theorem AlP.app {K : PySem.W.Frag} {H : Hp} {P : VP} {v : V} (hv : P.p K v H) : ∀ {Ps : List VP} {vs : List V}, AlP K H Ps vs → AlP K H (Ps ++ [P]) (vs ++ [v])
  | [], _, h => by rw [show _ = ([] : List V) from h]; exact ⟨v, [], rfl, hv, rfl⟩
  | _ :: _, _, ⟨u, r, e1, h1, h2⟩ => by rw [e1]; exact ⟨u, _, rfl, h1, AlP.app hv h2⟩
theorem to_lc {Rs : List VP} {vs : List Nat} (hz : xs.length ≤ 100000) (cl : Cl X scope tg elt ifs vs xs (wipeE env1 vs) Rs envf) (ho : LcEnv vs env1 envf envo) : ∀ σ H Q, tLP X.K env envo Rs σ H Q → tLc (tI X.K env env1 xs) (cG X scope tg vs) (cT X scope ifs) (cE X scope elt) vs σ H Q := by
  rintro σ H Q ⟨w, e1, R1, q⟩
  refine ⟨w, e1, R1, fun J w1 R2 l1 wk D hD => ?_⟩
  obtain ⟨hDi, hDo⟩ := R2.ok.fresh hD
  let Wn : Nat → Nat → Hp → Prop := fun i m H => m = xs.length - i ∧ i ≤ xs.length ∧ ∃ (ev : List Slot) (w2 : Wd) (acc : List V) (Ds Rr : List VP), w2.H = H ∧ Rep X.K ev (wipe σ vs) w2 ∧ Le w1 w2 ∧ H D = some (.lst acc) ∧ w2.O D = none ∧ w2.Hi D = none ∧ AlP X.K w2.Hi Ds acc ∧ acc.length ≤ i ∧ Cl X scope tg elt ifs vs (xs.drop i) ev Rr envf ∧ Rs = Ds ++ Rr
  refine ⟨Wn, ⟨xs.length, rfl, Nat.zero_le _, wipeE env1 vs, w1.put D (.lst []), [], [], Rs, rfl, (R2.put hD).wiped (wipe_but σ vs), put_le R2.ok hD, upd_same, hDo, hDi, rfl, Nat.le_refl _, cl, rfl⟩, ?_⟩
  rintro i m H2 ⟨rfl, hi, ev, w2, acc, Ds, Rr, rfl, R3, l2, hA, hO, hHi, al, hlen, lp, eR⟩
  by_cases hlt : i < xs.length
  · refine .inr ⟨wk.go i w2 l2 R3.ok hlt, fun H' => ∃ m', m' < xs.length - i ∧ Wn (i + 1) m' H', fun H' h => h, fun x H3 y => ?_⟩
    have hx : xs[i]? = some xs[i] := by simp [hlt]
    obtain ⟨w3, rfl, l3, p3, k3⟩ := wk.yld i w2 x H3 _ l2 R3.ok hx y
    have R4 := k3 _ _ R3
    have hd : xs.drop i = xs[i] :: xs.drop (i + 1) := List.drop_eq_getElem_cons hlt
    rw [hd] at lp
    cases lp with
    | yes hg ht he k =>
      refine ⟨_, _, _, hg, w3, rfl, R4, p3, fun σ5 w5 R5 l5 B5 => ⟨wipe_eq B5, _, _, _, ht, w5, rfl, R5, fun w6 R6 l6 => iteT ⟨_, _, _, he, w6, rfl, R6, fun v w7 R7 l7 p7 => ?_⟩⟩⟩
      have lt := ((l3.trans l5).trans l6).trans l7
      obtain ⟨h1, h2, h3⟩ := lt.kp D _ hA hO
      refine ⟨acc, h1, Nat.lt_of_le_of_lt (Nat.le_trans hlen (Nat.le_trans (Nat.le_of_lt hlt) hz)) (by decide), xs.length - (i + 1), by omega, rfl, hlt, wipeE _ vs, w7.wr D (.lst (acc ++ [v])), acc ++ [v], Ds ++ [_], _, rfl, ?_, ?_, upd_same, h2, h3.trans hHi, (al.mono lt.hi).app p7, by rw [List.length_append]; exact Nat.succ_le_succ hlen, k, by rw [eR, List.append_assoc]; rfl⟩
      · have R8 : Rep X.K _ (wipe σ vs) w7 := R7.wiped ⟨B5.1.symm, fun j hj => (B5.2 j hj).symm⟩
        refine R8.to ⟨R8.ok.sub.put (h3.trans hHi), fun b j qq => ⟨(R8.ok.ho b j qq).1, upd_dom (R8.ok.ho b j qq).2⟩⟩ (Ex.refl _) (fun c j qq => ⟨qq, upd_ne fun z => ?_⟩) rfl
        subst z
        rw [h2] at qq
        cases qq
      · have l8 := l2.trans lt
        refine ⟨l8.hi, fun b u hb hk => ?_, fun b hb => upd_dom (l8.dm b hb), l8.pa⟩
        obtain ⟨g1, g2, g3⟩ := l8.kp b u hb hk
        exact ⟨(upd_ne (ne_of_none hb hD)).trans g1, g2, g3⟩
    | no hg ht k =>
      refine ⟨_, _, _, hg, w3, rfl, R4, p3, fun σ5 w5 R5 l5 B5 => ⟨wipe_eq B5, _, _, _, ht, w5, rfl, R5, fun w6 R6 l6 => iteF ?_⟩⟩
      have lt := (l3.trans l5).trans l6
      obtain ⟨h1, h2, h3⟩ := lt.kp D _ hA hO
      exact ⟨xs.length - (i + 1), by omega, rfl, hlt, wipeE _ vs, w6, acc, Ds, _, rfl, R6.wiped ⟨B5.1.symm, fun j hj => (B5.2 j hj).symm⟩, l2.trans lt, h1, h2, h3.trans hHi, al.mono lt.hi, Nat.le_succ_of_le hlen, k, eR⟩
  · refine .inl ⟨wk.stop i w2 l2 R3.ok (Nat.le_antisymm hi (Nat.le_of_not_lt hlt)), ?_⟩
    rw [List.drop_eq_nil_of_le (Nat.le_of_not_lt hlt)] at lp
    cases lp with
    | nil =>
      rw [List.append_nil] at eR
      subst eR
      have eH : w2.H = upd (fun b => if b = D then none else w2.H b) D (.lst acc) := by
        funext b
        by_cases z : b = D
        · subst z
          rw [upd_same]
          exact hA
        · rw [upd_ne z, if_neg z]
      rw [eH]
      have dne : ∀ {b : Addr} {u : HO}, w1.H b = some u → b ≠ D := fun hb => ne_of_none hb hD
      have ok' : Wd.Ok { w2 with H := fun b => if b = D then none else w2.H b } := by
        refine ⟨fun b u hb => ?_, fun b j qq => ⟨(R3.ok.ho b j qq).1, ?_⟩⟩
        · have nb : b ≠ D := fun z => by
            subst z
            have : w2.Hi b = some u := hb
            rw [hHi] at this
            cases this
          exact (if_neg nb).trans (R3.ok.sub b u hb)
        · have nb : b ≠ D := fun z => by
            subst z
            have : w2.O b = some j := qq
            rw [hO] at this
            cases this
          show (if b = D then none else w2.H b) ≠ none
          rw [if_neg nb]
          exact (R3.ok.ho b j qq).2
      have kO : ∀ c j, w2.O c = some j → c ≠ D := fun c j qq z => by
        subst z
        rw [hO] at qq
        cases qq
      have R5 : Rep X.K envf (wipe σ vs) { w2 with H := fun b => if b = D then none else w2.H b } := R3.to ok' (Ex.refl _) (fun c j qq => ⟨qq, if_neg (kO c j qq)⟩) rfl
      have l5 : Le w1 { w2 with H := fun b => if b = D then none else w2.H b } := by
        refine ⟨l2.hi, fun b u hb hk => ?_, fun b hb => ?_, l2.pa⟩
        · obtain ⟨g1, g2, g3⟩ := l2.kp b u hb hk
          exact ⟨(if_neg (dne hb)).trans g1, g2, g3⟩
        · cases qq : w1.H b with
          | none => exact absurd qq hb
          | some u =>
            show (if b = D then none else w2.H b) ≠ none
            rw [if_neg (dne qq)]
            exact l2.dm b hb
      refine q D acc { w2 with H := fun b => if b = D then none else w2.H b } ?_ (l1.trans l5) (if_pos rfl) al
      refine ⟨ok', by rw [ho.len, ← R5.len, wipe_length], fun j s hs => ?_⟩
      rcases ho.out j s hs with ⟨h1, h2⟩ | ⟨h1, h2 | ⟨P', h2, h3⟩⟩
      · obtain ⟨x, h3, h4⟩ := R5.sl j s h2
        exact ⟨x, ((wipe_but σ vs).2 j h1).symm.trans h3, h4⟩
      · have hl : j < σ.length := by
          rw [← wipe_length σ vs, R5.len, ← ho.len]
          exact (List.getElem?_eq_some_iff.mp hs).1
        exact ⟨σ[j], List.getElem?_eq_getElem hl, by rw [h2]; trivial⟩
      · obtain ⟨x, h4, v, h5, h6⟩ := R2.sl j _ h3
        exact ⟨x, h4, by rw [h2]; exact ⟨v, h5, P'.mono l5.hi h6⟩⟩
theorem hlp_lc {Rs : List VP} (hc : X.calm = true) (hN : X.N.Nodup) (hi : HI X tg iter env env1 xs) (ok : BlkOk X.N X.env.scope scope own') (hz : xs.length ≤ 100000) (cl : Cl X scope tg elt ifs (own'.map (·.2)) xs (wipeE env1 (own'.map (·.2))) Rs envf) (ho : LcEnv (own'.map (·.2)) env1 envf envo)
    (hs : ∀ x, foldedSetIterable iter X.env x = pure x := by intro _; rfl) : PE X (.ListComp elt [⟨tg, iter, ifs, 0⟩] scope pos) (tLP X.K env envo Rs) :=
  (pe_lc (g := cG X scope tg (own'.map (·.2))) (tt := cT X scope ifs) (te := cE X scope elt) hc hN hi ok (fun _ _ _ _ _ => ⟨fun pins s σ H v u Q I r ⟨_, _, _, h, q⟩ => (h _ _ _ _ _).run pins s σ H v u Q I r q⟩) (fun _ _ _ _ _ => ⟨fun pins s σ H Q I ⟨_, _, _, h, q⟩ => (h _ _ _ _ _).run pins s σ H Q I q⟩)
    (fun _ _ _ _ _ => ⟨fun pins s σ H Q I ⟨_, _, _, h, q⟩ => (h _ _ _ _ _).run pins s σ H Q I q⟩) hs).imp (to_lc hz cl ho)
theorem hl_lc {α : Type} [Rp α] {ys : List α} (hc : X.calm = true) (hN : X.N.Nodup) (hi : HI X tg iter env env1 xs) (ok : BlkOk X.N X.env.scope scope own') (hz : xs.length ≤ 100000) (cl : Cl X scope tg elt ifs (own'.map (·.2)) xs (wipeE env1 (own'.map (·.2))) (rvs ys) envf) (ho : LcEnv (own'.map (·.2)) env1 envf envo)
    (hs : ∀ x, foldedSetIterable iter X.env x = pure x := by intro _; rfl) : HL X (.ListComp elt [⟨tg, iter, ifs, 0⟩] scope pos) env envo ys :=
  (hlp_lc hc hN hi ok hz cl ho hs).imp fun σ H Q ⟨w, e1, R1, q⟩ => ⟨w, e1, R1, fun p vs w' R' l hp al => q p vs w' R' l hp (alP_al al)⟩
end

/-! ### enumerate(t), t a tuple -/
abbrev enO (p : Addr) : Obj := { cls := .type "enumerate", data := .fields #[.none, .bool false, .ref p, rawInt 0, .none, .none] }
set_option maxHeartbeats 1000000 in
theorem enum_meets {v : Value} {o : Obj} {F : Heap → Prop} (B : Begins v o F) :
    Meets (Builtin.«enumerate.__new__» ⟨[.type "enumerate", v], []⟩) (fun _ R s => F s.heap ∧ R (.ok (.ret (.ref (s.heap.push o).objs.size))) { s with heap := (s.heap.push o).push (enO s.heap.objs.size) }) :=
  .of_wp fun prog w A R s ⟨f1, fin⟩ => by
    obtain ⟨hp, g, d, tk, os⟩ := s
    have hsub := sub_enumerate
    have it : ∀ {A' : Around} {E Q : Value → Shared → Prop}, Q (.ref hp.objs.size) ⟨hp.push o, g, d, tk, os⟩ → wpAny (model prog w) A' (pyIter v) Q E ⟨hp, g, d, tk, os⟩ := fun q => B.iter prog w _ _ ⟨hp, g, d, tk, os⟩ _ f1 q
    wp_walk using it
    refine wpAny_stack_any fun _ => wpAny_pure ?_
    split
    · rename_i c _ _ _ _ _
      cases (c == Value.type "enumerate") <;> (wp_walk using it; exact ⟨_, rfl, fin⟩)
    · wp_walk using it
      exact ⟨_, rfl, fin⟩
theorem enum_call {prog : Program} {w : World} {A : Around} {E : Value → Shared → Prop} {s : Shared} {v : Value} {o : Obj} {Fh : Heap → Prop} {Q : Value → Shared → Prop} (B : Begins v o Fh) (f1 : Fh s.heap)
    (k : ∀ h', IsEnum h' (s.heap.objs.size + 1) s.heap.objs.size 0 .none → h'.get? s.heap.objs.size = some o → (∀ b u, s.heap.get? b = some u → h'.get? b = some u) → Q (.ref (s.heap.objs.size + 1)) { s with heap := h' }) :
    wpAny (model prog w) A (call (.type "enumerate") [v]) Q E s := by
  refine callType_new PySem.F.called_enumerate (by decide) (PySem.F.typeCall_enumerate_1 _) (PySem.F.newCall_enumerate_1 _) (fun x => PySem.F.args_object_init_2 x _) PySem.F.entry_enumerate_new (enum_meets B) ⟨f1, ?_⟩
  have sz : (s.heap.push o).objs.size = s.heap.objs.size + 1 := Heap.size_push ..
  have he := Heap.get?_push_size (s.heap.push o) (o := enO s.heap.objs.size) rfl
  show _ ∧ _
  rw [sz] at he ⊢
  exact ⟨⟨_, he, rfl⟩, k _ he (Heap.get?_push_of_some _ (Heap.get?_push_size _ B.free)) fun b u q => Heap.get?_push_of_some _ (Heap.get?_push_of_some _ q)⟩
def Itu (K : PySem.W.Frag) (a : Addr) : It :=
  ⟨fun i H => ∃ (xs : List V) (x : V), SqT K H a xs ∧ xs[i]? = some x, fun i H v H' => ∃ T x, v = .ref T ∧ H T = none ∧ H' = upd H T (.tup [.int (i : Nat), x]) ∧ ∀ xs, SqT K H a xs → xs[i]? = some x, fun i H => ∃ xs : List V, SqT K H a xs ∧ i = xs.length⟩
theorem turn_enumT {P : Program} {w : World} {K : PySem.W.Frag} {elts : List Expr} {kk : Nat} {tpos : Pos} (a e it : Addr) :
    Turn P w K (.Tuple elts kk tpos) (Itu K a) [e, it] e (fun i h => (∃ old, IsEnum h e it ((i : Nat) : Int) old) ∧ h.IsTupleIter it a i) where
  mem := List.mem_cons_self
  obj := fun i h ⟨⟨old, he⟩, ⟨o, ho, hc, hd⟩⟩ b hb => by
    rcases List.mem_cons.mp hb with z | z
    · rw [z]; exact ⟨_, he, fun v q => nomatch q⟩
    · rw [List.mem_singleton.mp z]; exact ⟨o, ho, fun v q => by rw [hd] at q; cases q⟩
  keep := fun i h h' ⟨⟨old, he⟩, hi⟩ k => ⟨⟨old, k e List.mem_cons_self _ he⟩, hi.at fun o q => k it (List.mem_cons_of_mem _ List.mem_cons_self) o q⟩
  item := by
    intro X hP hw hK hc i pins s σ H E I hf ⟨⟨old, he⟩, hit⟩ ⟨xs, x, hq, hx⟩
    subst hP hw hK
    obtain ⟨its, rv, p, hz⟩ := I.tuple hq
    obtain ⟨u, hu, ru⟩ := rv.get hx
    obtain ⟨oi, g1, g2, g3⟩ := id hit
    obtain ⟨oa, g4, g5, g6⟩ := id p
    have hei : e ≠ it := fun z => by
      subst z
      rw [show s.heap.get? e = _ from he] at g1
      cases g1
      exact absurd (Value.type.inj g2) (by decide)
    have hai : a ≠ it := fun z => by
      subst z
      rw [g4] at g1
      cases g1
      rw [g5] at g2
      exact absurd (Value.type.inj g2) (by decide)
    have hea : e ≠ a := fun z => by
      subst z
      rw [show s.heap.get? e = _ from he] at g4
      cases g4
      exact absurd (Value.type.inj g5) (by decide)
    have W := GoesN.enumFrom (elts := elts) (x1 := kk) (pos := tpos) (A := X.A) 0 (Draws.tuple (prog := X.prog) (w := X.w) (A := X.A.in1) (I.ok.hd hc) it a hai its.toArray) e hei (by simp [hei, hea]) List.mem_cons_self
    have hlt : i < its.toArray.size := by
      have := (List.getElem?_eq_some_iff.mp hu).1
      simpa using this
    refine W.goes i s _ E hlt ⟨⟨old, by rw [Int.zero_add]; exact he⟩, hit, p⟩ fun v h' tk ⟨T, t, y, ev, hT, hy, hTT⟩ st' kk' _ => ?_
    have ey : y = u := by
      have : its.toArray[i]? = some y := hy
      rw [List.getElem?_toArray, hu] at this
      exact (Option.some.inj this).symm
    subst ev ey
    obtain ⟨⟨old', he'⟩, hit', _⟩ := st'
    rw [Int.zero_add] at he' hTT
    have new : ObjOk X.prog X.w (upd H T (.tup [.int (i : Nat), x])) h' T (.tup [.int (i : Nat), x]) := ⟨by show 2 ≤ sizeLine; decide, [.int i t, y], .cons ⟨_, rfl⟩ (.cons ru .nil), hTT⟩
    have I1 : Inv X pins σ (upd H T (.tup [.int (i : Nat), x])) { s with heap := h', toks := tk } := I.turnedNew (ch := [e, it]) (fun b ob hb q => kk' b ob hb q) hf hT new
    refine ⟨.ref T, _, I1, rfl, ⟨T, x, rfl, I.hok.fresh hT, rfl, fun ys hy => by rw [I.tuple_inj hy hq]; exact hx⟩, ⟨⟨old', by rw [show ((i + 1 : Nat) : Int) = (i : Int) + 1 by omega]; exact he'⟩, hit'⟩, fun b hb => ?_⟩
    have hb' : b < s.heap.objs.size := by
      rcases List.mem_cons.mp hb with z | z
      · rw [z]; exact Heap.lt_size he
      · rw [List.mem_singleton.mp z]; exact Heap.lt_size g1
    rw [upd_ne (Nat.ne_of_lt (Nat.lt_of_lt_of_le hb' hT))]
    exact (hf b hb).1
  done := by
    intro X hP hw hK hc i pins s σ H E I hf ⟨⟨old, he⟩, hit⟩ ⟨xs, hq, hx⟩
    subst hP hw hK
    obtain ⟨its, rv, p, hz⟩ := I.tuple hq
    obtain ⟨oi, g1, g2, g3⟩ := id hit
    obtain ⟨oa, g4, g5, g6⟩ := id p
    have hei : e ≠ it := fun z => by
      subst z
      rw [show s.heap.get? e = _ from he] at g1
      cases g1
      exact absurd (Value.type.inj g2) (by decide)
    have hai : a ≠ it := fun z => by
      subst z
      rw [g4] at g1
      cases g1
      rw [g5] at g2
      exact absurd (Value.type.inj g2) (by decide)
    have hea : e ≠ a := fun z => by
      subst z
      rw [show s.heap.get? e = _ from he] at g4
      cases g4
      exact absurd (Value.type.inj g5) (by decide)
    have W := GoesN.enumFrom (elts := elts) (x1 := kk) (pos := tpos) (A := X.A) 0 (Draws.tuple (prog := X.prog) (w := X.w) (A := X.A.in1) (I.ok.hd hc) it a hai its.toArray) e hei (by simp [hei, hea]) List.mem_cons_self
    have hl : i = its.toArray.size := by
      rw [hx, rv.length]
      rfl
    refine W.stops s _ E ?_ fun h' tk kk' _ => I.turnedL (ch := [e, it]) (fun b o hb q => kk' b o hb q) hf
    rw [← hl]
    exact ⟨⟨old, by rw [Int.zero_add]; exact he⟩, hit, p⟩
  self := fun A i s Q E ⟨⟨_, he⟩, _⟩ h => wpAny_pyIter_enum he h
def iEnT (K : PySem.W.Frag) (ta : TA) : TI := fun σ H R => ta σ H fun vs H1 => ∃ a xs, vs = [.ref a] ∧ SqT K H1 a xs ∧ R (Itu K a) H1
theorem pi_enumT {X : Cx} {e : Expr} {ta : TA} {p pos tpos : Pos} {elts : List Expr} {kk : Nat} (hg : Gl X "enumerate") (hm : X.mg "enumerate" = none) (ha : PA X [e] ta) (hs : starEach [e] X.env = [(false, eval e X.env)] := by rfl) :
    PI X (.Tuple elts kk tpos) (.Call (.Name "enumerate" p) [e] [] pos) (iEnT X.K ta) := ⟨fun pins s σ H R I h => by
  refine Call_ (ld_blt I hg hm boot_enumerate (PyProof.Rows.callWith_type1 (thn (ha.run pos pins s σ H _ I h) fun us s1 ⟨vs, H1, I1, r1, a, xs, ex, hq, q⟩ => ?_) hs rfl))
  subst ex
  cases r1 with
  | cons r rr =>
    cases rr
    cases r
    obtain ⟨its, rv, p', hz⟩ := I1.tuple hq
    refine enum_call (begins_tuple a its.toArray) p' fun h' he hit hk => wpAny_pyIter_enum he ?_
    have I2 : Inv X pins σ H1 { s1 with heap := h' } := I1.kept (t' := s1.toks) hk
    refine ⟨s1.heap.objs.size + 1, [s1.heap.objs.size + 1, s1.heap.objs.size], _, _, H1, rfl, I2, turn_enumT a _ _, ⟨⟨.none, he⟩, _, hit, rfl, rfl⟩, fun b hb => ?_, q⟩
    have hle : s1.heap.objs.size ≤ b := by
      rcases List.mem_cons.mp hb with z | z
      · rw [z]
        exact Nat.le_succ _
      · rw [List.mem_singleton.mp z]
        exact Nat.le_refl _
    exact I1.fpOk hle (I1.hok.fresh hle)⟩
/-- the items with their numbers -/
def enr {α : Type} : Nat → List α → List (Int × α)
  | _, [] => []
  | k, x :: xs => ((k : Int), x) :: enr (k + 1) xs
theorem enr_len {α : Type} : ∀ (k : Nat) (xs : List α), (enr k xs).length = xs.length
  | _, [] => rfl
  | k, x :: xs => by rw [enr, List.length_cons, List.length_cons, enr_len]
theorem enr_get {α : Type} : ∀ (k : Nat) (xs : List α) (i : Nat), (enr k xs)[i]? = xs[i]?.map fun x => (((k + i : Nat) : Int), x)
  | _, [], i => by simp [enr]
  | k, x :: xs, 0 => by simp [enr]
  | k, x :: xs, i + 1 => by
    rw [enr, List.getElem?_cons_succ, List.getElem?_cons_succ, enr_get, show k + 1 + i = k + (i + 1) by omega]
theorem wk_enT {α : Type} [Rp α] {K : PySem.W.Frag} {a : Addr} {xs : List α} {vs : List V} {w0 : Wd} (h : SqT K w0.Hi a vs) (al : Al α K w0.Hi xs vs) : Wk K (Itu K a) (rvs (enr 0 xs)) w0 where
  go := fun i w l ok hi => by
    rw [rvs_len, enr_len, ← al.len] at hi
    exact ⟨vs, vs[i], Ex.t (l.hi.trans ok.sub) h, by simp [hi]⟩
  stop := fun i w l ok hi => by
    rw [rvs_len, enr_len, ← al.len] at hi
    exact ⟨vs, Ex.t (l.hi.trans ok.sub) h, hi⟩
  yld := fun i w x H' P l ok hi ⟨T, y, e1, hT, e2, hy⟩ => by
    have hv := hy vs (Ex.t (l.hi.trans ok.sub) h)
    unfold rvs at hi
    rw [List.getElem?_map, enr_get] at hi
    cases q : xs[i]? with
    | none => rw [q] at hi; cases hi
    | some z =>
      rw [q] at hi
      have e3 : rv (((0 + i : Nat) : Int), z) = P := Option.some.inj hi
      obtain ⟨v, h1, h2⟩ := al.get q
      rw [hv] at h1
      cases h1
      subst e1 e2 e3
      have hn := (ok.fresh hT).1
      refine ⟨w.add T (.tup [.int i, y]), rfl, add_le ok hT, ⟨T, .int i, y, rfl, SqT.of upd_same, ?_, Rp.mono (l.hi.trans (Ex.new hn)) h2⟩, fun env σ R => R.add hT⟩
      show V.int (i : Int) = V.int ((0 + i : Nat) : Int)
      rw [Nat.zero_add]
theorem hi_enT {X : Cx} {env env1 : List Slot} {e : Expr} {α : Type} [Rp α] {xs : List α} {p pos tpos : Pos} {elts : List Expr} {kk : Nat} (h : HE X e env env1 (rv xs)) (hm : X.mg "enumerate" = none) (hg : Gl X "enumerate" := by rfl) (hs : starEach [e] X.env = (false, eval e X.env) :: starEach [] X.env := by rfl) (hs2 : starEach [e] X.env = [(false, eval e X.env)] := by rfl) :
    HI X (.Tuple elts kk tpos) (.Call (.Name "enumerate" p) [e] [] pos) env env1 (rvs (enr 0 xs)) := (pi_enumT hg hm (pa_cons h pa_nil hs) hs2).imp fun σ H Q ⟨w, e1, R1, q⟩ => ⟨w, e1, R1, fun v w' R' l ⟨t, vs, e2, h1, h2⟩ =>
  ⟨t, vs, by rw [e2], Ex.t R'.ok.sub h1, q _ w' R' l (wk_enT h1 h2)⟩⟩
/-! ### defs that run where nothing is being shown (repr within asks it) -/
structure Rm (k : Nat) (A : Around) : Prop where
  room : Room k A
  gd : A.guards = some []
theorem Rm.mono {j k : Nat} {A : Around} (r : Rm k A) (h : j ≤ k) : Rm j A := ⟨r.room.mono h, r.gd⟩
structure FnG (P : Program) (w : World) (K : PySem.W.Frag) (mg : Str → Option Value) (base : Heap) (k : Nat) (f : Addr) (fd : FuncData) (ps : List Str) (sp : Sp) : Prop where
  len : ∀ vs H Q E, sp vs H Q E → vs.length = ps.length
  run : ∀ (A : Around) (outer : List Env) (s : Shared) (H : Hp) (args : Args) (us : List Value) (vs : List V) (Q : VK) (E : XK), Rm k A → Env0 P w K mg base A outer s H → BindsTo s fd args (ps.zip us) → Vals vs us →
    sp vs H Q E → codeAny (model P w) A (.call (.ref f) args) (CR (L2.CX P w) outer P w H s Q E) s
theorem fnG_of {P : Program} {w : World} {K : PySem.W.Frag} {mg : Str → Option Value} {base : Heap} {k : Nat} {f : Addr} {name qual : Str} {params : Arguments} {body : List Stmt} {scope : Scope} {dV kV doc pm cdv ct oc : Value} {an od : Option Addr}
    {osl : Array (Option Value)} {N ps : List Str} {sp : Sp} (lk : K.lookup f = some ⟨oc, od, .func (PySem.W.fnOf name qual params body scope dV kV doc pm an cdv ct), osl⟩) (cr : PySem.W.codeIn K cdv qual = true) (S : FnScope N ps scope) (len : ∀ vs H Q E, sp vs H Q E → vs.length = ps.length)
    (hb : ∀ (A : Around) (outer : List Env) (s : Shared) (H : Hp) (vs : List V) (Q : VK) (E : XK), Rm k (A.deeper (envOfC qual scope s.heap.objs.size f cdv)) → sp vs H Q E →
      ∃ t, PSs (cxOf (L2.CX P w) P w K mg base N qual scope f cdv A outer s H E) body t ∧ t { nx := fun _ H' => Q .non H', rt := Q } (L2.start N vs) H) :
    FnG P w K mg base (k + 1) f (PySem.W.fnOf name qual params body scope dV kV doc pm an cdv ct) ps sp where
  len := len
  run := fun A outer s H args us vs Q E hr e0 bt r q => by
    have ln := len _ _ _ _ q
    have up : ∀ b o, base.get? b = some o → s.heap.get? b = some o := fun b o e => (e0.bs b o e).1
    have kinds : ∀ y ∈ ps.zip us, scope.names.lookup y.1 = some .local ∨ (scope.names.lookup y.1 = some .cell ∧ ((cellsFrom (s.heap.objs.size + 1) scope.names []).lookup y.1).isSome = true) := by
      rintro ⟨n, v⟩ hy
      exact (S.par n (List.of_mem_zip hy).1).imp id fun z => ⟨z, PySem.W.cellsFrom_some _ _ _ (.inl z)⟩
    refine codeAny_call_function hr.room.depth (e0.mod.kin.keeps up _ _ lk) rfl S.co S.gen rfl (PySem.W.codeRec_of (e0.mod.kin.keeps up) cr) (bt _ _ _ _ ?_)
    refine wpAny_newFunctionEnv_cells S.kind kinds fun env he s1 x => ?_
    subst he
    refine ⟨(e0.mod.nolimit.keeps up).keeps x.toInCall.keep, codeAny_func ?_⟩
    obtain ⟨t, ht, hq⟩ := hb A outer s H vs Q E ⟨hr.room.deeper _, hr.gd⟩ q
    refine wpAny_mono (ht.run [] s1 _ H _ (inv_start S hr.room.hd e0 ln r x) hq) (fun fl s' z => ?_) fun _ _ z => z
    cases fl with
    | ret u => exact let ⟨v, _, H', J, rv, y⟩ := z; ⟨v, H', J.os, J.bare, J.base, J.hok, rv, y⟩
    | next => exact let ⟨_, H', J, y⟩ := z; ⟨.non, H', J.os, J.bare, J.base, J.hok, rfl, y⟩
    | brk => exact let ⟨_, _, _, y⟩ := z; y.elim
    | cont => exact let ⟨_, _, _, y⟩ := z; y.elim
theorem runG {X : Cx} {k : Nat} {f : Addr} {fd : FuncData} {ps : List Str} {sp : Sp} {pins : List (Addr × Obj)} {σ : L2.St} {H : Hp} {s : Shared} {Q : VK} {E : XK} {args : Args} {us : List Value} {vs : List V} (F : FnG X.prog X.w X.K X.mg X.base k f fd ps sp) (hr : Rm k X.A)
    (bt : BindsTo s fd args (ps.zip us)) (hx : PassesAt (L2.CX X.prog X.w) X σ E) (I : Inv X pins σ H s) (r : Vals vs us) (h : sp vs H Q E) : codeAny (model X.prog X.w) X.A (.call (.ref f) args) (fun r s' => match r with | .ok (.ret u) => EP X pins σ Q u s' | .ok _ => False | .error e => X.xe e s') s := by
  refine codeAny_mono (F.run X.A X.stack s H args us vs Q E hr I.env0 bt r h) fun r s' hq => ?_
  cases r with
  | error e => exact hx pins H s e s' I hq
  | ok fl =>
    cases fl with
    | ret u => exact I.after hq
    | next => exact hq
    | brk => exact hq
    | cont => exact hq
/-- f(e, ..) -/
def tCallG (sp : Sp) (E : L2.St → XK) (t : TA) : TE := fun σ H Q => t σ H fun vs H1 => sp vs H1 Q (E σ)
theorem pe_callG {X : Cx} {k : Nat} {f : Addr} {fd : FuncData} {ps : List Str} {sp : Sp} {E : L2.St → XK} {x : Str} {p pos : Pos} {e : Expr} {es : List Expr} {t : TA} (F : FnG X.prog X.w X.K X.mg X.base k f fd ps sp) (hr : Rm k X.A) (hg : Gl X x) (hm : X.mg x = some (.ref f)) (hk : PySem.W.keepIn X.K (.ref f) = true)
    (hb : Binds X.K fd ps []) (hx : ∀ σ, PassesAt (L2.CX X.prog X.w) X σ (E σ)) (ha : PA X (e :: es) t) (hdb : (x == ("__debug__" : Str)) = false := by decide) (he : starEach (e :: es) X.env = (false, eval e X.env) :: starEach es X.env := by rfl) (hpl : (backTo pos (starEach es X.env)).any (·.1) = false := by rfl) :
    PE X (.Call (.Name x p) (e :: es) [] pos) (tCallG sp E t) := ⟨fun pins s σ H Q I h => by
  refine wpAny_Call_Name_kw (ld_glob I hg hm (PySem.W.callWith_K (h₀ := X.base) I.ok.mod.kin hk (thn (ha.run pos pins s σ H _ I h) fun us s1 ⟨vs, H1, I1, r, q⟩ => ⟨I1.kIn, ?_⟩) he hpl) hdb)
  have hl : us.length = ps.length := by rw [← r.length]; exact F.len _ _ _ _ q
  refine wpAny_call (codeAny_mono (runG F hr (us := us) (by have z := hb s1 us I1.kIn (by rw [List.append_nil]; exact hl); rwa [List.append_nil] at z) (hx σ) I1 r q) fun r s' hq => ?_)
  cases r with
  | error e => exact hq
  | ok fl => cases fl <;> first | exact hq | exact hq.elim⟩
theorem pe_callG0 {X : Cx} {k : Nat} {f : Addr} {fd : FuncData} {ps : List Str} {sp : Sp} {E : L2.St → XK} {x : Str} {p pos : Pos} (F : FnG X.prog X.w X.K X.mg X.base k f fd ps sp) (hr : Rm k X.A) (hg : Gl X x) (hm : X.mg x = some (.ref f)) (hk : PySem.W.keepIn X.K (.ref f) = true)
    (hb : Binds X.K fd ps []) (hx : ∀ σ, PassesAt (L2.CX X.prog X.w) X σ (E σ)) (hdb : (x == ("__debug__" : Str)) = false := by decide) : PE X (.Call (.Name x p) [] [] pos) (tCallG sp E tNil) := ⟨fun pins s σ H Q I h => by
  refine wpAny_Call_Name_kw (ld_glob I hg hm (PySem.W.callWith_K0 I.kIn hk (wpAny_call ?_)) hdb)
  have hl : ([] : List Value).length = ps.length := F.len _ _ _ _ h
  refine codeAny_mono (runG F hr (us := []) (by have z := hb s [] I.kIn hl; exact z) (hx σ) I .nil h) fun r s' hq => ?_
  cases r with
  | error e => exact hq
  | ok fl => cases fl <;> first | exact hq | exact hq.elim⟩
/-! ### defs: what they promise, how they are called -/
inductive FO where
  | rt (P : VP) (ps : List (Nat × Slot))
  | er (c : Addr) (P : VP) (ps : List (Nat × Slot))
  | fr (Ps : List VP) (ps : List (Nat × Slot))
def Pars (K : PySem.W.Frag) (w : Wd) (ps : List (Nat × Slot)) : Prop := ∀ q ∈ ps, ∃ x, q.2.p K q.1 x w
def FO.sat (K : PySem.W.Frag) (w0 : Wd) (Q : VK) (E : XK) : FO → Prop
  | .rt P ps => ∀ v w', w'.Ok → Le w0 w' → Pars K w' ps → P.p K v w'.Hi → Q v w'.H
  | .er c P ps => ∀ d v w', w'.Ok → Le w0 w' → Pars K w' ps → w'.H d = some (.xd [("what", v)]) → w'.O d = none → w'.Hi d = none → P.p K v w'.Hi → E (.ref c) (some d) w'.H
  | .fr Ps ps => ∀ p vs w', w'.Ok → Le w0 w' → Pars K w' ps → w'.H p = none → AlP K w'.Hi Ps vs → Q (.ref p) (upd w'.H p (.lst vs))
def Spc (K : PySem.W.Frag) {A : Type} (ins : A → List Slot) (out : A → FO) : Sp := fun vs H Q E => ∃ (a : A) (w : Wd), w.H = H ∧ Rep K (ins a) (vs.map some) w ∧ (out a).sat K w Q E
def Spq (K : PySem.W.Frag) {A : Type} (pre : A → Prop) (ins : A → List Slot) (out : A → FO) : Sp := Spc K (fun z : { z : A // pre z } => ins z.1) fun z => out z.1
inductive Fits : Oc → FO → Prop
  | rt {P e ps} : (∀ q ∈ ps, e[q.1]? = some q.2) → Fits (.rt P e) (.rt P ps)
  | nx {e ps} : (∀ q ∈ ps, e[q.1]? = some q.2) → Fits (.nx e) (.rt (rv ()) ps)
  | er {c P e ps} : (∀ q ∈ ps, e[q.1]? = some q.2) → Fits (.er c P e) (.er c P ps)
  | fr {Ps e ps} : (∀ q ∈ ps, e[q.1]? = some q.2) → Fits (.rl Ps e) (.fr Ps ps)
theorem fits_rt {P : VP} {e : List Slot} : Fits (.rt P e) (.rt P []) := .rt fun _ h => by simp at h
theorem fits_nx {e : List Slot} : Fits (.nx e) (.rt (rv ()) []) := .nx fun _ h => by simp at h
theorem fits_er {c : Addr} {P : VP} {e : List Slot} : Fits (.er c P e) (.er c P []) := .er fun _ h => by simp at h
theorem fits_fr {Ps : List VP} {e : List Slot} : Fits (.rl Ps e) (.fr Ps []) := .fr fun _ h => by simp at h
theorem fits_rt1 {P : VP} {s : Slot} {e : List Slot} (h : e[0]? = some s := by rfl) : Fits (.rt P e) (.rt P [(0, s)]) := .rt fun q hq => by
  rw [List.mem_singleton] at hq
  subst hq
  exact h
theorem fits_nx1 {s : Slot} {e : List Slot} (h : e[0]? = some s := by rfl) : Fits (.nx e) (.rt (rv ()) [(0, s)]) := .nx fun q hq => by
  rw [List.mem_singleton] at hq
  subst hq
  exact h
theorem pars_of {K : PySem.W.Frag} {e : List Slot} {ps : List (Nat × Slot)} {σ : L2.St} {w : Wd} (R : Rep K e σ w) (h : ∀ q ∈ ps, e[q.1]? = some q.2) : Pars K w ps := fun q hq => let ⟨x, _, p⟩ := R.sl q.1 q.2 (h q hq); ⟨x, p⟩
abbrev WeE (E : XK) : WX := fun c d _ H => E c d H
/-- a def of the text, called by its name -/
structure Def (P : Program) (w : World) (K : PySem.W.Frag) (mg : Str → Option Value) (base : Heap) (x : Str) (k : Nat) (ps : List Str) (sp : Sp) : Prop where
  ex : ∃ f fd, FnG P w K mg base k f fd ps sp ∧ mg x = some (.ref f) ∧ PySem.W.keepIn K (.ref f) = true ∧ Binds K fd ps []
theorem fn_ok {P : Program} {w : World} {K : PySem.W.Frag} {mg : Str → Option Value} {base : Heap} {k : Nat} {x qual : Str} {st : Stmt} {f : Addr} {fd : FuncData} {N ps : List Str} {A : Type} {ins : A → List Slot} {out : A → FO}
    (F : Fun K x qual st f fd) (S : FnScope N ps (defScope st)) (hl : ∀ a, (ins a).length = ps.length)
    (body : ∀ (cdv : Value) (Ar : Around) (outer : List Env) (s : Shared) (H : Hp) (E : XK), Rm k (Ar.deeper (envOfC qual (defScope st) s.heap.objs.size f cdv)) → ∀ a, ∃ oc, Fits oc (out a) ∧
      HSs (cxOf (L2.CX P w) P w K mg base N qual (defScope st) f cdv Ar outer s H E) (WeE E) (defBody st) (ins a ++ List.replicate (N.length - ps.length) un) oc) :
    FnG P w K mg base (k + 1) f fd ps (Spc K ins out) := by
  have len : ∀ vs H Q E, Spc K ins out vs H Q E → vs.length = ps.length := fun vs H Q E ⟨a, w, _, R, _⟩ => by rw [← hl a, ← R.len, List.length_map]
  obtain ⟨oc', od, kV, doc, pm, an, cdv, ct, osl, rfl, lk, hcd⟩ := F.ex
  refine fnG_of lk hcd S len fun Ar outer s H vs Q E hr hsp => ?_
  have hln := len _ _ _ _ hsp
  obtain ⟨a, w0, rfl, R, q⟩ := hsp
  obtain ⟨o, hq, hb⟩ := body cdv Ar outer s w0.H E hr a
  refine ⟨_, hb, w0, rfl, ?_, ?_⟩
  · refine ⟨R.ok, ?_, fun i t h => ?_⟩
    · unfold L2.start
      rw [List.length_append, List.length_append, List.length_map, List.length_replicate, List.length_replicate, hl a, hln]
    · unfold L2.start
      by_cases hi : i < (ins a).length
      · rw [List.getElem?_append_left hi] at h
        obtain ⟨x, h1, h2⟩ := R.sl i t h
        refine ⟨x, ?_, h2⟩
        rw [List.getElem?_append_left (by rw [R.len]; exact hi)]
        exact h1
      · rw [List.getElem?_append_right (by omega)] at h
        rw [List.getElem?_replicate] at h
        split at h
        · cases h
          rename_i hlt
          refine ⟨none, ?_, trivial⟩
          rw [List.getElem?_append_right (by rw [R.len]; omega), List.getElem?_replicate, R.len, if_pos (by rw [hln]; exact hlt)]
        · cases h
  · clear hb
    revert hq q
    generalize out a = fo
    intro q hq
    cases hq with
    | rt h => exact fun σ v w' R' l p => q v w' R'.ok l (pars_of R' h) p
    | nx h => exact fun σ w' R' l => q .non w' R'.ok l (pars_of R' h) rfl
    | er h => exact fun σ w' d v R' l p1 p2 p3 p4 => q d v w' R'.ok l (pars_of R' h) p1 p2 p3 p4
    | fr h => exact fun σ p vs w' R' l p1 p2 => q p vs w' R'.ok l (pars_of R' h) p1 p2
theorem fn_okq {P : Program} {w : World} {K : PySem.W.Frag} {mg : Str → Option Value} {base : Heap} {k : Nat} {x qual : Str} {st : Stmt} {f : Addr} {fd : FuncData} {N ps : List Str} {A : Type} {pre : A → Prop} {ins : A → List Slot} {out : A → FO}
    (F : Fun K x qual st f fd) (S : FnScope N ps (defScope st)) (hl : ∀ a, (ins a).length = ps.length)
    (body : ∀ (cdv : Value) (Ar : Around) (outer : List Env) (s : Shared) (H : Hp) (E : XK), Rm k (Ar.deeper (envOfC qual (defScope st) s.heap.objs.size f cdv)) → ∀ a, pre a → ∃ oc, Fits oc (out a) ∧
      HSs (cxOf (L2.CX P w) P w K mg base N qual (defScope st) f cdv Ar outer s H E) (WeE E) (defBody st) (ins a ++ List.replicate (N.length - ps.length) un) oc) :
    FnG P w K mg base (k + 1) f fd ps (Spq K pre ins out) := fn_ok F S (fun a => hl a.1) fun cdv Ar outer s H E hr a => body cdv Ar outer s H E hr a.1 a.2
/-- a world for a callee that changes nothing of ours -/
def Wd.in0 (w : Wd) : Wd := { Hi := w.Hi, H := w.H, O := fun _ => none, pa := fun _ => none }
theorem in0_ok {w : Wd} (ok : w.Ok) : w.in0.Ok := ⟨ok.sub, fun a i h => by cases h⟩
def Wd.out (w w' : Wd) : Wd := { Hi := w'.Hi, H := w'.H, O := w.O, pa := w.pa }
section
variable {X : Cx} {We : WX} {env env1 env2 : List Slot} {P : VP} {e : Expr} {es : List Expr} {p pos : Pos} {x : Str} {k : Nat} {ps : List Str} {A : Type} {pre : A → Prop} {ins : A → List Slot} {out : A → FO} {Ps : List VP}
theorem rep_ims {K : PySem.W.Frag} {w : Wd} (ok : w.Ok) : ∀ {Ps : List VP} {vs : List V}, AlP K w.Hi Ps vs → Rep K (Ps.map im) (vs.map some) w := fun {Ps vs} h => by
  refine ⟨ok, by rw [List.length_map, List.length_map, alP_len h], fun i s hs => ?_⟩
  rw [List.getElem?_map] at hs
  have key : ∀ {Ps : List VP} {vs : List V} {i : Nat} {P : VP}, AlP K w.Hi Ps vs → Ps[i]? = some P → ∃ v, vs[i]? = some v ∧ P.p K v w.Hi := by
    intro Ps
    induction Ps with
    | nil => intro vs i P _ h; simp at h
    | cons Q Ps ih =>
      intro vs i P ⟨v, r, e1, h1, h2⟩ h
      subst e1
      cases i with
      | zero => simp at h; subst h; exact ⟨v, rfl, h1⟩
      | succ i =>
        obtain ⟨u, a, b⟩ := ih (i := i) h2 (by simpa using h)
        exact ⟨u, by simpa using a, b⟩
  cases q : Ps[i]? with
  | none => rw [q] at hs; cases hs
  | some P =>
    rw [q] at hs
    cases hs
    obtain ⟨v, h1, h2⟩ := key h q
    exact ⟨some v, by rw [List.getElem?_map, h1]; rfl, v, rfl, h2⟩
theorem out_rep {K : PySem.W.Frag} {σ : L2.St} {w w' : Wd} (R : Rep K env σ w) (ok : w'.Ok) (l : Le w.in0 w') : Rep K env σ (w.out w') ∧ Le w (w.out w') := by
  have kp : ∀ b o, w.H b = some o → w'.H b = some o ∧ w'.Hi b = w.Hi b := fun b o h => let ⟨h1, _, h3⟩ := l.kp b o h rfl; ⟨h1, h3⟩
  have ok2 : (w.out w').Ok := ⟨ok.sub, fun a i h => by
    obtain ⟨h1, h2⟩ := R.ok.ho a i h
    cases q : w.H a with
    | none => exact absurd q h2
    | some o =>
      obtain ⟨h3, h4⟩ := kp a o q
      exact ⟨h4.trans h1, fun z => by rw [show (w.out w').H a = w'.H a from rfl, h3] at z; cases z⟩⟩
  refine ⟨R.to ok2 l.hi (fun a i h => ⟨h, ?_⟩) rfl, l.hi, fun b o h k => ⟨(kp b o h).1, k, (kp b o h).2⟩, l.dm, rfl⟩
  cases q : w.H a with
  | none => exact absurd q (R.ok.ho a i h).2
  | some o => exact (kp a o q).1
/-- nothing is let out -/
theorem passN {X : Cx} {σ : L2.St} : PassesAt (L2.CX X.prog X.w) X σ E0 := fun _ _ _ _ _ _ ⟨_, _, _, _, _, _, _, _, _, _, _, _, z⟩ => z.elim
theorem to_call (a : A) (hpr : pre a) (ho : out a = .rt P []) (hi : ins a = Ps.map im) {E : L2.St → XK} : ∀ σ H Q, tE X.K env env1 P σ H Q → tCallG (Spq X.K pre ins out) E (tA X.K env env1 Ps) σ H Q := fun σ H Q ⟨w, e1, R1, q⟩ => ⟨w, e1, R1, fun vs w' R' l al => by
  refine ⟨⟨a, hpr⟩, w'.in0, rfl, ?_, ?_⟩
  · show Rep _ (ins a) _ _
    rw [hi]
    exact rep_ims (in0_ok R'.ok) al
  · show FO.sat _ _ _ _ (out a)
    rw [ho]
    intro v w2 ok l2 _ pv
    obtain ⟨R3, l3⟩ := out_rep R' ok l2
    exact q v (w'.out w2) R3 (l.trans l3) pv⟩
/-- f(e, ..), nothing raised, nothing of ours changed -/
theorem he_call (D : Def X.prog X.w X.K X.mg X.base x k ps (Spq X.K pre ins out)) (a : A) (hpr : pre a) (hr : Rm k X.A) (ha : HA X (e :: es) env env1 Ps) (hi : ins a = Ps.map im := by rfl) (ho : out a = .rt P [] := by rfl) (hg : Gl X x := by rfl) (hdb : (x == ("__debug__" : Str)) = false := by decide)
    (hst : starEach (e :: es) X.env = (false, eval e X.env) :: starEach es X.env := by rfl) (hpl : (backTo pos (starEach es X.env)).any (·.1) = false := by rfl) : HE X (.Call (.Name x p) (e :: es) [] pos) env env1 P := by
  obtain ⟨f, fd, F, hm, hk, hb⟩ := D.ex
  exact (pe_callG F hr hg hm hk hb (fun _ => passN) ha hdb hst hpl).imp (to_call a hpr ho hi)
theorem he_call0 (D : Def X.prog X.w X.K X.mg X.base x k ps (Spq X.K pre ins out)) (a : A) (hpr : pre a) (hr : Rm k X.A) (hi : ins a = [] := by rfl) (ho : out a = .rt P [] := by rfl) (hg : Gl X x := by rfl) (hdb : (x == ("__debug__" : Str)) = false := by decide) : HE X (.Call (.Name x p) [] [] pos) env env P := by
  obtain ⟨f, fd, F, hm, hk, hb⟩ := D.ex
  refine (pe_callG0 F hr hg hm hk hb (fun _ => passN) hdb).imp fun σ H Q ⟨w, e1, R1, q⟩ => ?_
  subst e1
  refine ⟨⟨a, hpr⟩, w.in0, rfl, ?_, ?_⟩
  · show Rep _ (ins a) _ _
    rw [hi]
    exact rep_ims (Ps := []) (in0_ok R1.ok) rfl
  · show FO.sat _ _ _ _ (out a)
    rw [ho]
    intro v w2 ok l2 _ pv
    obtain ⟨R3, l3⟩ := out_rep R1 ok l2
    exact q v (w.out w2) R3 l3 pv
/-- f(xs, e, ..), xs a list of ours that it may change -/
theorem he_call1 {α : Type} [Rp α] {mk : List α → Slot} {xs ys : List α} {y : Str} {q : Pos} (O : Own mk) (i : Nat) (D : Def X.prog X.w X.K X.mg X.base x k ps (Spq X.K pre ins out)) (a : A) (hpr : pre a) (hr : Rm k X.A) (ha : HA X es env env1 Ps) (h0 : ∃ zs, env[i]? = some (mk zs) := by exact ⟨_, rfl⟩) (h1 : env1[i]? = some (mk xs) := by rfl)
    (hi : ins a = par xs :: Ps.map im := by rfl) (ho : out a = .rt P [(0, par ys)] := by rfl) (hN : X.N[i]? = some y := by rfl) (hv : Vis X.env.scope y := by first | exact Or.inl rfl | exact Or.inr (Or.inl rfl) | exact Or.inr (Or.inr rfl)) (hd : (y == ("__debug__" : Str)) = false := by decide) (hcd : (y == ("__classdict__" : Str)) = false := by decide)
    (hg : Gl X x := by rfl) (hdb : (x == ("__debug__" : Str)) = false := by decide)
    (hst : starEach (.Name y q :: es) X.env = (false, eval (.Name y q) X.env) :: starEach es X.env := by rfl) (hpl : (backTo pos (starEach es X.env)).any (·.1) = false := by rfl) : HE X (.Call (.Name x p) (.Name y q :: es) [] pos) env (env1.set i (mk ys)) P := by
  obtain ⟨f, fd, F, hm, hk, hb⟩ := D.ex
  obtain ⟨zs, h0⟩ := h0
  refine (pe_callG F hr hg hm hk hb (fun _ => passN) (pa_cons (pe_own O i h0 hN hv hd hcd) ha hst) hdb hst hpl).imp fun σ H Q ⟨w, e1, R1, q⟩ => ⟨w, e1, R1, fun b hb => ⟨w, rfl, R1, fun vs w' R' l al => ?_⟩⟩
  obtain ⟨us, h3, h4, h5, h6⟩ := R'.own O h1 hb
  obtain ⟨hn, _⟩ := R'.ok.ho b i h4
  let wc : Wd := { Hi := w'.Hi, H := w'.H, O := fun c => if c = b then some 0 else none, pa := fun j => if j = 0 then some b else none }
  have okc : wc.Ok := ⟨R'.ok.sub, fun c j h => by
    by_cases z : c = b
    · subst z
      exact ⟨hn, fun z => by rw [show wc.H c = w'.H c from rfl, h5] at z; cases z⟩
    · have : (if c = b then some 0 else none) = some j := h
      rw [if_neg z] at this
      cases this⟩
  refine ⟨⟨a, hpr⟩, wc, rfl, ?_, ?_⟩
  · show Rep _ (ins a) _ _
    rw [hi]
    have R2 := rep_ims (K := X.K) (w := wc) okc al
    refine ⟨okc, by rw [List.map_cons, List.length_cons, List.length_cons, R2.len], fun j s hs => ?_⟩
    cases j with
    | zero =>
      simp at hs
      subst hs
      exact ⟨some (.ref b), rfl, b, us, rfl, rfl, if_pos rfl, h5, h6⟩
    | succ j =>
      obtain ⟨z, h7, h8⟩ := R2.sl j s (by simpa using hs)
      refine ⟨z, by simpa using h7, ?_⟩
      rw [List.getElem?_cons_succ, List.getElem?_map] at hs
      cases qq : Ps[j]? with
      | none => rw [qq] at hs; cases hs
      | some P' =>
        rw [qq] at hs
        cases hs
        exact h8
  · show FO.sat _ _ _ _ (out a)
    rw [ho]
    intro v w2 ok2 l2 hp pv
    obtain ⟨z, c, ws, h7, h8, h9, h10, h11⟩ := hp (0, par ys) List.mem_cons_self
    have ecb : c = b := by
      rw [l2.pa] at h8
      have : some b = some c := h8
      exact (Option.some.inj this).symm
    subst ecb
    have kp : ∀ d o, d ≠ c → w'.H d = some o → w2.H d = some o ∧ w2.Hi d = w'.Hi d := fun d o nd h => by
      obtain ⟨g1, _, g3⟩ := l2.kp d o h (if_neg nd)
      exact ⟨g1, g3⟩
    have ok3 : (w'.out w2).Ok := ⟨ok2.sub, fun d j h => by
      by_cases z : d = c
      · subst z
        exact ⟨(ok2.ho d 0 h9).1, fun z => by rw [show (w'.out w2).H d = w2.H d from rfl, h10] at z; cases z⟩
      · obtain ⟨g1, g2⟩ := R'.ok.ho d j h
        cases q : w'.H d with
        | none => exact absurd q g2
        | some o =>
          obtain ⟨g3, g4⟩ := kp d o z q
          exact ⟨g4.trans g1, fun z => by rw [show (w'.out w2).H d = w2.H d from rfl, g3] at z; cases z⟩⟩
    refine q v (w'.out w2) ⟨ok3, by rw [List.length_set]; exact R'.len, fun j s hs => ?_⟩ (l.trans ⟨l2.hi, fun d o h k => ?_, l2.dm, rfl⟩) pv
    · by_cases z : i = j
      · subst z
        have hlt : i < env1.length := (List.getElem?_eq_some_iff.mp h1).1
        rw [List.getElem?_set_self hlt] at hs
        cases hs
        exact ⟨_, hb, O.put h3 rfl h4 h10 h11 rfl⟩
      · rw [List.getElem?_set_ne z] at hs
        obtain ⟨t, g1, g2⟩ := R'.sl j s hs
        refine ⟨t, g1, s.mono g2 l2.hi (fun d hd => ⟨hd, ?_⟩) rfl⟩
        have nd : d ≠ c := fun zz => by
          subst zz
          rw [h4] at hd
          cases hd
          exact z rfl
        cases q : w'.H d with
        | none => exact absurd q (R'.ok.ho d j hd).2
        | some o => exact (kp d o nd q).1
    · have nd : d ≠ c := fun zz => by
        subst zz
        rw [h4] at k
        cases k
      exact ⟨(kp d o nd h).1, k, (kp d o nd h).2⟩
end
/-! ### the script -/
structure Lsr (α : Type) where
  l : List α
instance {α : Type} [Rp α] : Rp (Lsr α) := ⟨fun K xs v H => ∃ a vs, v = .ref a ∧ SqL K H a vs ∧ Al α K H xs.l vs, fun e ⟨a, vs, h1, h2, h3⟩ => ⟨a, vs, h1, e.l h2, h3.mono e⟩⟩
theorem sq_lsr {α : Type} [Rp α] {xs : Lsr α} : Sq α xs.l (rv xs) := fun K v H ⟨a, vs, h1, h2, h3⟩ => ⟨a, vs, h1, .inl h2, h3⟩
theorem al_ints {K : PySem.W.Frag} {H : Hp} : ∀ ns : List Int, Al Int K H ns (ns.map V.int)
  | [] => rfl
  | n :: ns => ⟨_, _, rfl, rfl, al_ints ns⟩
section
variable {X : Cx} {env env1 env2 : List Slot} {a b e : Expr} {pos : Pos} {α : Type} [Rp α]
theorem he_ixS {xs : Lsr α} {i : Int} {x : α} (hx : atI xs.l i = some x) (ha : HE X a env env1 (rv xs)) (hb : HE X b env1 env2 (rv i)) (hs : PlainIx b := by intro _ _; rfl) : HE X (.Subscript a b pos) env env2 (rv x) :=
  (pe_ix ix_list ha hb hs).imp (to_op (P := rv xs) (R := rv i) rfl rfl rfl fun env σ u v w R1 ⟨t, vs, e1, h1, h2⟩ hy Q q => by
    obtain ⟨z, e2, h3⟩ := atI_map h2 hx
    exact ⟨t, vs, i, z, e1, hy, Ex.l R1.ok.sub h1, e2, q z w R1 (Le.refl w) h3⟩)
/-- a list's, a tuple's, an int's truth -/
theorem hb_tru {P : VP} {c : Bool} (h : HE X a env env1 P) (hp : ∀ (v : V) (w : Wd), w.Ok → P.p X.K v w.Hi → TruV X.K v w.H c) (he : ∀ whole, isTrue a X.env whole = (do let v ← whole; standAt a.pos; holding [v] (truthy v)) := by intro _; rfl) : HB X a env env1 c :=
  (pt_truth h he).imp fun σ H Q ⟨w, e1, R1, q⟩ => ⟨w, e1, R1, fun v w' R' l p => ⟨c, hp v w' R'.ok p, q w' R' l⟩⟩
end
/-- the law's promise -/
def spLaw (K : PySem.W.Frag) : Sp := fun vs H Q _ => ∃ (a : Addr) (ns : List Int), vs = [.ref a] ∧ SqL K H a (ns.map V.int) ∧ ns.length ≤ 63 ∧ ∀ H', Q (.bl true) H'
theorem FnG.imp {P : Program} {w : World} {K : PySem.W.Frag} {mg : Str → Option Value} {base : Heap} {k : Nat} {f : Addr} {fd : FuncData} {ps : List Str} {sp sp' : Sp} (F : FnG P w K mg base k f fd ps sp) (h : ∀ vs H Q E, sp' vs H Q E → sp vs H Q E) : FnG P w K mg base k f fd ps sp' :=
  ⟨fun vs H Q E q => F.len _ _ _ _ (h _ _ _ _ q), fun A outer s H args us vs Q E hr e0 bt r q => F.run _ _ _ _ _ _ _ _ _ hr e0 bt r (h _ _ _ _ q)⟩
theorem law_ok {P : Program} {w : World} {K : PySem.W.Frag} {mg : Str → Option Value} {base : Heap} {k : Nat} {f : Addr} {fd : FuncData} {ps : List Str} (F : FnG P w K mg base k f fd ps (Spq K (fun l : List Int => l.length ≤ 63) (fun l => [im (rv (Lsr.mk l))]) fun _ => .rt (rv true) [])) :
    FnG P w K mg base k f fd ps (spLaw K) := F.imp fun vs H Q E ⟨a, ns, e1, h1, h2, q⟩ => by
  subst e1
  refine ⟨⟨ns, h2⟩, { Hi := H, H := H, O := fun _ => none, pa := fun _ => none }, rfl, ?_, fun v w' _ _ _ p => by rw [show v = .bl true from p]; exact q _⟩
  refine ⟨⟨Ex.refl _, fun _ _ h => by cases h⟩, rfl, fun i s hs => ?_⟩
  cases i with
  | zero =>
    simp at hs
    subst hs
    exact ⟨_, rfl, _, rfl, a, _, rfl, h1, al_ints _⟩
  | succ i => simp at hs

/-! ### outcomes by results -/
/-- a value; a value and what the list handed in holds behind; None likewise -/
def oP {α : Type} [Rp α] (n : Nat) (y : α) : Oc := .rt (rv y) (List.replicate n un)
def oS {α β : Type} [Rp α] [Rp β] (n : Nat) (r : α × List β) : Oc := .rt (rv r.1) (par r.2 :: List.replicate n un)
structure Weak (env fin : List Slot) : Prop where
  len : fin.length = env.length
  out : ∀ (i : Nat) (s : Slot), fin[i]? = some s → env[i]? = some s ∨ s = un
theorem weak_un {env : List Slot} {n : Nat} (h : n = env.length) : Weak env (List.replicate n un) := ⟨by rw [List.length_replicate, h], fun i s hs => .inr (by
  rw [List.getElem?_replicate] at hs
  split at hs
  · cases hs
    rfl
  · cases hs)⟩
theorem weak_par {env : List Slot} {s : Slot} {n : Nat} (h : n + 1 = env.length) (h0 : env[0]? = some s) : Weak env (s :: List.replicate n un) := ⟨by rw [List.length_cons, List.length_replicate, h], fun i t ht => by
  cases i with
  | zero =>
    simp at ht
    subst ht
    exact .inl h0
  | succ i => exact (weak_un (env := List.replicate n un) (n := n) (by rw [List.length_replicate])).out i t (by simpa using ht) |>.elim (fun q => .inr (by
      rw [List.getElem?_replicate] at q
      split at q
      · cases q
        rfl
      · cases q)) .inr⟩
section
variable {X : Cx} {We : WX} {env env1 env2 fin : List Slot} {P : VP} {a b e : Expr} {s : Stmt} {r A B : List Stmt} {pos : Pos} {α β ρ : Type} [Rp α] [Rp β]
theorem st_retw {y z : α} (he : HE X e env env1 (rv y)) (hy : y = z) (hw : Weak env1 fin) : HS X We (.Return (some e) pos) env (.rt (rv z) fin) := by
  subst hy
  exact (st_ret (We := We) (pos := pos) he).imp fun D σ H ⟨w, e1, R1, q⟩ => ⟨w, e1, R1, fun σ v w' R' l p => q σ v w' (R'.weak hw.len hw.out) l p⟩
theorem st_retP {n : Nat} {y z : α} (he : HE X e env env1 (rv y)) (hy : y = z := by rfl) (hn : n = env1.length := by rfl) : HS X We (.Return (some e) pos) env (oP n z) := st_retw he hy (weak_un hn)
theorem st_retS {n : Nat} {y z : α} {zs : List β} (he : HE X e env env1 (rv y)) (hy : y = z := by rfl) (h0 : env1[0]? = some (par zs) := by rfl) (hn : n + 1 = env1.length := by rfl) : HS X We (.Return (some e) pos) env (oS n (z, zs)) := st_retw he hy (weak_par hn h0)
theorem fits_P {n : Nat} {y : α} : Fits (oP n y) (.rt (rv y) []) := fits_rt
theorem fits_S {n : Nat} {y : α × List β} : Fits (oS n y) (.rt (rv y.1) [(0, par y.2)]) := fits_rt1
/-- an if, by what is asked -/
theorem hs_ite {p : Prop} [Decidable p] (f : ρ → Oc) {u v : ρ} (hc : HB X e env env1 (decide p)) (h1 : p → Cut X We A r env1 (f u)) (h2 : ¬ p → Cut X We B r env1 (f v)) : HSs X We (.If e A B pos :: r) env (f (if p then u else v)) := by
  by_cases h : p
  · rw [if_pos h]
    exact hs_cut hc (fun _ => h1 h) fun z => by rw [decide_eq_true h] at z; cases z
  · rw [if_neg h]
    exact hs_cut hc (fun z => absurd (of_decide_eq_true z) h) fun _ => h2 h
theorem hb_dec {c : Bool} {p : Prop} [Decidable p] (h : HB X e env env1 c) (k : c = true ↔ p) : HB X e env env1 (decide p) := hb_eq h (by
  by_cases hp : p
  · rw [decide_eq_true hp, k.mpr hp]
  · rw [decide_eq_false hp]
    cases c with
    | true => exact absurd (k.mp rfl) hp
    | false => rfl)
/-- a walk that stores alone: all turns go on; I by the turn -/
theorem lp_fold {tg : Expr} {body : List Stmt} {α S : Type} [Rp α] {f : S → α → S} {en : S → List Slot} {es : α → S → List Slot} {is : List Nat} (hg : ∀ x s, HG X tg (rv x) (en s) (es x s) is) (I : Nat → S → Prop) : ∀ (xs : List α) (k : Nat) (s : S), I k s → (∀ (i : Nat) x s, xs[i]? = some x → I (k + i) s → I (k + i + 1) (f s x) ∧ HSs X We body (es x s) (.nx (en (f s x)))) → Lp X We tg body (rvs xs) (en s) (.nx (en (xs.foldl f s)))
  | [], k, s, _, _ => .nil
  | x :: xs, k, s, hi, hb => .cons (hg x s) (hb 0 x s rfl hi).2 (lp_fold hg I xs (k + 1) (f s x) (hb 0 x s rfl hi).1 fun i y t hy hi => by
      have h := hb (i + 1) y t (by simpa using hy) (by rw [show k + (i + 1) = k + 1 + i by omega]; exact hi)
      rw [show k + (i + 1) = k + 1 + i by omega] at h
      exact h)
end

section
variable {X : Cx} {We : WX} {env env1 env2 fin : List Slot} {P : VP} {a b e : Expr} {s : Stmt} {r A B : List Stmt} {pos : Pos} {α β ρ : Type} [Rp α] [Rp β]
theorem hs_nxw (h : HSs X We r env (.nx env1)) (k : Weak env1 env2) : HSs X We r env (.nx env2) := h.imp fun D σ H ⟨w, e1, R1, q⟩ => ⟨w, e1, R1, fun σ w' R' l => q σ w' (R'.weak k.len k.out) l⟩
theorem hs_ctw (h : HSs X We r env (.ct env1)) (k : Weak env1 env2) : HSs X We r env (.ct env2) := h.imp fun D σ H ⟨w, e1, R1, q⟩ => ⟨w, e1, R1, fun σ w' R' l => q σ w' (R'.weak k.len k.out) l⟩
theorem hs_bkw (h : HSs X We r env (.bk env1)) (k : Weak env1 env2) : HSs X We r env (.bk env2) := h.imp fun D σ H ⟨w, e1, R1, q⟩ => ⟨w, e1, R1, fun σ w' R' l => q σ w' (R'.weak k.len k.out) l⟩
end
theorem Weak.refl (env : List Slot) : Weak env env := ⟨rfl, fun _ _ h => .inl h⟩
theorem Weak.nil : Weak [] [] := Weak.refl []
/-- slot by slot: kept, forgotten -/
theorem Weak.k {s : Slot} {env fin : List Slot} (h : Weak env fin) : Weak (s :: env) (s :: fin) := ⟨by rw [List.length_cons, List.length_cons, h.len], fun i t ht => by
  cases i with
  | zero => exact .inl ht
  | succ i => exact h.out i t (by simpa using ht) |>.imp (fun q => by simpa using q) id⟩
theorem Weak.f {s : Slot} {env fin : List Slot} (h : Weak env fin) : Weak (s :: env) (un :: fin) := ⟨by rw [List.length_cons, List.length_cons, h.len], fun i t ht => by
  cases i with
  | zero =>
    simp at ht
    exact .inr ht.symm
  | succ i => exact h.out i t (by simpa using ht) |>.imp (fun q => by simpa using q) id⟩
/-! places -/
theorem atI_neg {α : Type} {xs : List α} {i : Nat} (h0 : 0 < i) (h : i ≤ xs.length) (d : α) : atI xs (-(i : Int)) = some (xs.getD (xs.length - i) d) := by
  unfold atI ixN
  rw [if_neg (by omega), if_pos (by omega)]
  show xs[(-(i : Int) + (xs.length : Int)).toNat]? = _
  rw [show (-(i : Int) + (xs.length : Int)).toNat = xs.length - i by omega, List.getElem?_eq_getElem (by omega), List.getD_eq_getElem?_getD, List.getElem?_eq_getElem (by omega)]
  rfl
theorem atI_pos {α : Type} {xs : List α} {i : Int} (h0 : 0 ≤ i) (h : i < xs.length) (d : α) : atI xs i = some (xs.getD i.toNat d) := by
  unfold atI ixN
  rw [if_pos h0, if_pos h]
  show xs[i.toNat]? = _
  rw [List.getD_eq_getElem?_getD, List.getElem?_eq_getElem (by omega)]
  rfl
/-! ### the end: the law's def called by the caller -/
theorem end_core {P : Program} {w : World} {K : PySem.W.Frag} {mg mb : Str → Option Value} {k : Nat} {fa a : Addr} {fd : FuncData} {x : Str} {sp : Sp} {s : Shared} {vs : List Value} {H : Hp}
    (KX : K.In s.heap) (gl : s.heap.Ns mainGlobals mg) (hb : s.heap.Ns builtinsNs mb) (hbb : ∀ x : Str, x ≠ "__name__" → mb x = bootBuiltins x) (lim : s.heap.NoLimit) (hg : s.gens = #[])
    (ha : s.heap.get? a = some { cls := .type "list", data := .seq vs.toArray }) (hr : Room k callerA) (F : ∀ base : Heap, K.In base → base.Ns mainGlobals mg → FnG P w K mg base k fa fd [x] sp) (bt : ∀ (s : Shared) (u : Value), BindsTo s fd ⟨[u], []⟩ [(x, u)])
    (hO : Only H) (ok : HOk P w H s.heap) (only : ∀ b, H b ≠ none → b = a) (kn : H a ≠ none → K.lookup a = none) (hsp : sp [.ref a] H (fun v _ => v = .bl true) fun _ _ _ => False) :
    codeAny (model P w) callerA (.call (.ref fa) ⟨[.ref a], []⟩) (fun r s' => r = .ok (.ret (.bool true)) ∧ OldK s.heap s'.heap ∧ s'.os = s.os ∧ AllBare s'.gens) s := by
  have cases3 : ∀ b, H b = none ∨ (b = a ∧ H b ≠ none) := fun b => by
    cases q : H b with
    | none => exact .inl rfl
    | some u =>
      have z : H b ≠ none := fun z => by
        rw [q] at z
        cases z
      exact .inr ⟨only b z, by rw [← q]; exact z⟩
  have nsK : ∀ {b : Addr} {m : Str → Option Value}, s.heap.Ns b m → (hidT s.heap H).Ns b m := fun {b m} ⟨o, es, ep, e, d, r⟩ => ⟨o, es, ep, hidT_get e ((cases3 b).resolve_right fun ⟨z, _⟩ => by
    subst z
    rw [ha] at e
    cases e
    cases d), d, r⟩
  have hK : K.In (hidT s.heap H) := fun b o e => hidT_get (KX b o e) ((cases3 b).resolve_right fun ⟨z, y⟩ => by
    subst z
    rw [kn y] at e
    cases e)
  have e0 : Env0 P w K mg (hidT s.heap H) callerA [] s H :=
    { frames := rfl, mod := ⟨hK, nsK gl, ⟨mb, nsK hb, hbb⟩, let ⟨mc, h1, h2⟩ := lim; ⟨mc, nsK h1, h2⟩⟩, bs := fun b o e => of_hidT e, bsz := Nat.le_of_eq (hidT_size _ _), funs := trivial,
      frf := fun b hb => absurd hb List.not_mem_nil, hok := ok, bare := .of_eq hg }
  refine codeAny_mono ((F _ hK (nsK gl)).run callerA [] s H _ [.ref a] [.ref a] _ _ ⟨hr, rfl⟩ e0 (bt s (.ref a)) (.cons rfl .nil) hsp) fun r s' h => ?_
  cases r with
  | error e =>
    obtain ⟨_, _, _, _, _, _, _, _, _, _, _, _, z⟩ := h
    exact z.elim
  | ok fl =>
    cases fl with
    | ret u =>
      obtain ⟨v, H', os, bare, U, ok', rr, q⟩ := h
      have q : v = .bl true := q
      subst q
      obtain rfl : u = Value.bool true := rr
      refine ⟨rfl, OldK.of_keep fun b o e => ?_, os, bare⟩
      cases q : H b with
      | none => exact U.keep b o e q List.not_mem_nil List.not_mem_nil
      | some u =>
        rcases hO b with z | ⟨ob, xs, z⟩
        · rw [q] at z
          cases z
        · have e1 := (ok b _ z).1
          have e2 := (ok' b _ (U.frzs b ob _ z)).1
          rw [e] at e1
          cases e1
          exact e2
    | next => exact False.elim h
    | brk => exact False.elim h
    | cont => exact False.elim h
theorem end_call {P : Program} {w : World} {K : PySem.W.Frag} {mg mb : Str → Option Value} {k : Nat} {fa a : Addr} {fd : FuncData} {x : Str} {sp : Sp} {s : Shared} {vs : List Value} {ns : List Int}
    (KX : K.In s.heap) (gl : s.heap.Ns mainGlobals mg) (hb : s.heap.Ns builtinsNs mb) (hbb : ∀ x : Str, x ≠ "__name__" → mb x = bootBuiltins x) (lim : s.heap.NoLimit) (hg : s.gens = #[])
    (ha : s.heap.get? a = some { cls := .type "list", data := .seq vs.toArray }) (hi : IntsAre vs ns) (hl : ns.length ≤ sizeLine) (hr : Room k callerA) (F : ∀ base : Heap, K.In base → base.Ns mainGlobals mg → FnG P w K mg base k fa fd [x] sp) (bt : ∀ (s : Shared) (u : Value), BindsTo s fd ⟨[u], []⟩ [(x, u)])
    (hsp : ∀ H : Hp, SqL K H a (ns.map V.int) → sp [.ref a] H (fun v _ => v = .bl true) fun _ _ _ => False) :
    codeAny (model P w) callerA (.call (.ref fa) ⟨[.ref a], []⟩) (fun r s' => r = .ok (.ret (.bool true)) ∧ OldK s.heap s'.heap ∧ s'.os = s.os ∧ AllBare s'.gens) s := by
  have rv := vals_ints hi
  cases hk : K.lookup a with
  | some o =>
    have e := KX a o hk
    rw [ha] at e
    cases e
    exact end_core KX gl hb hbb lim hg ha hr F bt (H := fun _ => none) (fun _ => .inl rfl) (fun b u z => nomatch z) (fun b z => absurd rfl z) (fun z => absurd rfl z) (hsp _ (.inr ⟨_, vs.toArray, _, hk, rfl, rfl, rfl, by rw [List.size_toArray, hi.length]; exact hl, by simpa using rv⟩))
  | none =>
    let ob : Obj := { cls := .type "list", data := .seq vs.toArray }
    let H : Hp := fun b => if b = a then some (.frz ob (.lst (ns.map V.int))) else none
    have at' : H a = some (.frz ob (.lst (ns.map V.int))) := if_pos rfl
    have off : ∀ b, b ≠ a → H b = none := fun b z => if_neg z
    refine end_core KX gl hb hbb lim hg ha hr F bt (H := H) (fun b => ?_) (fun b u z => ?_) (fun b z => ?_) (fun _ => hk) (hsp H (.inl (.inr ⟨ob, at'⟩)))
    · by_cases z : b = a
      · exact .inr ⟨_, _, by rw [z]; exact at'⟩
      · exact .inl (off b z)
    · by_cases y : b = a
      · subst y
        rw [at'] at z
        cases z
        exact ⟨ha, by rw [List.length_map]; exact hl, vs, _, rv, ha⟩
      · rw [off b y] at z
        cases z
    · exact Classical.byContradiction fun y => z (off b y)
theorem walkG {l : PySem.W.OpenLaw} {k : Nat} {q : Program} {loose : List Str} {XP : (Str → Option Value) → Heap → Prop} {YP : World → Heap → Prop} {d : DefRec} {K : Params → PySem.W.Frag} {x : Str}
    (hn : l.most = some 63) (hdf : d.params.defaults = []) (hr : Room k callerA) (hY : ∀ (w : World) (h : Heap), YP w h → (K w.params).In h)
    (F : ∀ (w : World) (mg : Str → Option Value) (fa : Addr) (h : Heap), (K w.params).In h → h.Ns mainGlobals mg → mg d.name = some (.ref fa) →
      ∃ fd : FuncData, (∀ (s : Shared) (u : Value), BindsTo s fd ⟨[u], []⟩ [(x, u)]) ∧ ∀ base : Heap, (K w.params).In base → base.Ns mainGlobals mg → FnG l.prog w (K w.params) mg base k fa fd [x] (spLaw (K w.params))) :
    PySem.W.WalkO q loose XP YP l.row.toRowW d [] (fun f vs => PySem.call f vs) := by
  refine Att.attach_call hn hdf fun w s₀ s₁ mg mb fa o pm cd doc a vs ns G Y ho hd hcd hmg hobj hints hlen hg => ?_
  obtain ⟨fd, hb, hF⟩ := F w mg fa _ (hY w _ Y) G.T.g hmg
  exact end_call (hY w _ Y) G.T.g G.T.b G.T.builtins G.T.nolimit hg hobj hints (Nat.le_trans hlen (by decide)) hr hF hb fun H hS => ⟨a, ns, rfl, hS, hlen, fun _ => rfl⟩
/-! ### fresh lists handed out and in -/
section
variable {X : Cx} {We : WX} {env env1 env2 : List Slot} {P : VP} {e : Expr} {es : List Expr} {p pos : Pos} {x : Str} {k : Nat} {ps : List Str} {A : Type} {pre : A → Prop} {ins : A → List Slot} {out : A → FO} {Ps : List VP} {α : Type} [Rp α] {xs : List α}
theorem al_alP {K : PySem.W.Frag} {H : Hp} : ∀ {xs : List α} {vs : List V}, Al α K H xs vs → AlP K H (rvs xs) vs
  | [], _, h => h
  | _ :: _, _, ⟨v, r, e1, h1, h2⟩ => ⟨v, r, e1, h1, al_alP h2⟩
theorem st_retL (he : HL X e env env1 xs) : HS X We (.Return (some e) pos) env (.rl (rvs xs) env1) :=
  (ps_ret he).imp fun D σ H ⟨w, e1, R1, q⟩ => ⟨w, e1, R1, fun p vs w' R' l hp al => q σ p vs w' R' l hp (al_alP al)⟩
/-- f(e, ..), a fresh list -/
theorem hl_call (D : Def X.prog X.w X.K X.mg X.base x k ps (Spq X.K pre ins out)) (a : A) (hpr : pre a) (hr : Rm k X.A) (ha : HA X (e :: es) env env1 Ps) (hi : ins a = Ps.map im := by rfl) (ho : out a = .fr (rvs xs) [] := by rfl) (hg : Gl X x := by rfl) (hdb : (x == ("__debug__" : Str)) = false := by decide)
    (hst : starEach (e :: es) X.env = (false, eval e X.env) :: starEach es X.env := by rfl) (hpl : (backTo pos (starEach es X.env)).any (·.1) = false := by rfl) : HL X (.Call (.Name x p) (e :: es) [] pos) env env1 xs := by
  obtain ⟨f, fd, F, hm, hk, hb⟩ := D.ex
  refine (pe_callG F hr hg hm hk hb (fun _ => passN) ha hdb hst hpl).imp fun σ H Q ⟨w, e1, R1, q⟩ => ⟨w, e1, R1, fun vs w' R' l al => ?_⟩
  refine ⟨⟨a, hpr⟩, w'.in0, rfl, ?_, ?_⟩
  · show Rep _ (ins a) _ _
    rw [hi]
    exact rep_ims (in0_ok R'.ok) al
  · show FO.sat _ _ _ _ (out a)
    rw [ho]
    intro pp us w2 ok l2 _ hp pv
    obtain ⟨R3, l3⟩ := out_rep R' ok l2
    exact q pp us (w'.out w2) R3 (l.trans l3) hp (alP_al pv)
/-- f(xs), xs a fresh list that it may change -/
theorem he_callL {pz : List (Nat × Slot)} (D : Def X.prog X.w X.K X.mg X.base x k ps (Spq X.K pre ins out)) (a : A) (hpr : pre a) (hr : Rm k X.A) (ha : HL X e env env1 xs) (hi : ins a = [par xs] := by rfl) (ho : out a = .rt P pz := by rfl) (hg : Gl X x := by rfl) (hdb : (x == ("__debug__" : Str)) = false := by decide)
    (hst : starEach [e] X.env = (false, eval e X.env) :: starEach [] X.env := by rfl) (hpl : (backTo pos (starEach [] X.env)).any (·.1) = false := by rfl) : HE X (.Call (.Name x p) [e] [] pos) env env1 P := by
  obtain ⟨f, fd, F, hm, hk, hb⟩ := D.ex
  refine (pe_callG F hr hg hm hk hb (fun _ => passN) (pa_cons ha pa_nil hst) hdb hst hpl).imp fun σ H Q ⟨w, e1, R1, q⟩ => ⟨w, e1, R1, fun b us w' R' l hp al => ?_⟩
  obtain ⟨hn, _⟩ := R'.ok.fresh hp
  let wc : Wd := { Hi := w'.Hi, H := upd w'.H b (.lst us), O := fun c => if c = b then some 0 else none, pa := fun j => if j = 0 then some b else none }
  have okc : wc.Ok := ⟨R'.ok.sub.put hn, fun c j h => by
    by_cases z : c = b
    · subst z
      exact ⟨hn, fun z => by rw [show wc.H c = upd w'.H c (.lst us) c from rfl, upd_same] at z; cases z⟩
    · have : (if c = b then some 0 else none) = some j := h
      rw [if_neg z] at this
      cases this⟩
  refine ⟨⟨a, hpr⟩, wc, rfl, ?_, ?_⟩
  · show Rep _ (ins a) _ _
    rw [hi]
    refine ⟨okc, rfl, fun j s hs => ?_⟩
    cases j with
    | zero =>
      simp at hs
      subst hs
      exact ⟨some (.ref b), rfl, b, us, rfl, rfl, if_pos rfl, upd_same, al⟩
    | succ j => simp at hs
  · show FO.sat _ _ _ _ (out a)
    rw [ho]
    intro v w2 ok2 l2 hpar pv
    have kp : ∀ d o, w'.H d = some o → w2.H d = some o ∧ w2.Hi d = w'.Hi d := fun d o h => by
      have nd : d ≠ b := ne_of_none h hp
      obtain ⟨g1, _, g3⟩ := l2.kp d o ((upd_ne nd).trans h) (if_neg nd)
      exact ⟨g1, g3⟩
    have ok3 : (w'.out w2).Ok := ⟨ok2.sub, fun d j h => by
      obtain ⟨g1, g2⟩ := R'.ok.ho d j h
      cases q : w'.H d with
      | none => exact absurd q g2
      | some o =>
        obtain ⟨g3, g4⟩ := kp d o q
        exact ⟨g4.trans g1, fun z => by rw [show (w'.out w2).H d = w2.H d from rfl, g3] at z; cases z⟩⟩
    refine q v (w'.out w2) (R'.to ok3 l2.hi (fun d i h => ⟨h, ?_⟩) rfl) (l.trans ⟨l2.hi, fun d o h kk => ?_, fun d h => ?_, rfl⟩) pv
    · cases q : w'.H d with
      | none => exact absurd q (R'.ok.ho d i h).2
      | some o => exact (kp d o q).1
    · exact ⟨(kp d o h).1, kk, (kp d o h).2⟩
    · cases q : w'.H d with
      | none => exact absurd q h
      | some o =>
        intro z
        rw [show (w'.out w2).H d = w2.H d from rfl, (kp d o q).1] at z
        cases z
end
/-! ### data -/
class Da (α : Type) [Rp α] where
  da : α → PyData
  dp : ∀ {K : PySem.W.Frag} {x : α} {v : V} {H : Hp}, Rp.rp K x v H → Dp K H v (da x)
  n : Nat
  lay : ∀ x, (da x).canLay0 = true ∧ (da x).depth ≤ n
  eqv : ∀ x y, PyData.eqv (da x) (da y) = true ↔ x = y
instance : Da Int := ⟨.int, fun h => by rw [show _ = V.int _ from h]; exact .int _, 1, fun x => ⟨rfl, by simp [PyData.depth]⟩, fun x y => by simp [PyData.eqv]⟩
instance : Da Bool := ⟨.bool, fun h => by rw [show _ = V.bl _ from h]; exact .bl _, 1, fun x => ⟨rfl, by simp [PyData.depth]⟩, fun x y => by simp [PyData.eqv]⟩
instance : Da Unit := ⟨fun _ => .none, fun h => by rw [show _ = V.non from h]; exact .non, 1, fun x => ⟨rfl, by simp [PyData.depth]⟩, fun x y => by simp [PyData.eqv]⟩
section
variable {α : Type} [Rp α] [Da α]
theorem da_all {K : PySem.W.Frag} {H : Hp} : ∀ {xs : List α} {vs : List V}, Al α K H xs vs → DpAll K H vs (xs.map Da.da)
  | [], _, h => by rw [show _ = ([] : List V) from h]; exact .nil
  | _ :: _, _, ⟨v, r, e1, h1, h2⟩ => by rw [e1]; exact .cons (Da.dp h1) (da_all h2)
theorem da_lay : ∀ xs : List α, PyData.canLayAll0 (xs.map Da.da) = true ∧ PyData.depthAll (xs.map Da.da) ≤ Da.n α
  | [] => ⟨rfl, by simp [PyData.depthAll]⟩
  | x :: xs => by
    obtain ⟨h1, h2⟩ := da_lay xs
    obtain ⟨h3, h4⟩ := Da.lay x
    refine ⟨by simp [PyData.canLayAll0, h1, h3], ?_⟩
    simp only [List.map_cons, PyData.depthAll]
    omega
theorem da_eqv : ∀ xs ys : List α, PyData.eqvAll (xs.map Da.da) (ys.map Da.da) = true ↔ xs = ys
  | [], [] => by simp [PyData.eqvAll]
  | [], _ :: _ => by simp [PyData.eqvAll]
  | _ :: _, [] => by simp [PyData.eqvAll]
  | x :: xs, y :: ys => by
    simp only [List.map_cons, PyData.eqvAll, Bool.and_eq_true, List.cons.injEq]
    rw [Da.eqv x y, da_eqv xs ys]
instance : Da (List α) := ⟨fun xs => .tuple (xs.map Da.da), fun ⟨a, vs, h1, h2, h3⟩ => by rw [h1]; exact .tup h2 (da_all h3), Da.n α + 1, fun xs => ⟨(da_lay xs).1, by have := (da_lay xs).2; simp only [PyData.depth]; omega⟩, fun x y => by simp only [PyData.eqv]; exact da_eqv x y⟩
instance : Da (Lst α) := ⟨fun xs => .list (xs.l.map Da.da), fun ⟨a, vs, h1, h2, h3⟩ => by rw [h1]; exact .lst (SqL.of h2) (da_all h3), Da.n α + 1, fun xs => ⟨(da_lay xs.l).1, by have := (da_lay xs.l).2; simp only [PyData.depth]; omega⟩, fun x y => by
  simp only [PyData.eqv]
  rw [da_eqv]
  cases x
  cases y
  simp⟩
instance {β : Type} [Rp β] [Da β] : Da (α × β) := ⟨fun x => .tuple [Da.da x.1, Da.da x.2], fun ⟨a, u, w, h1, h2, h3, h4⟩ => by rw [h1]; exact .tup h2 (.cons (Da.dp h3) (.cons (Da.dp h4) .nil)), Da.n α + Da.n β + 1, fun x => by
  obtain ⟨h1, h2⟩ := Da.lay x.1
  obtain ⟨h3, h4⟩ := Da.lay x.2
  refine ⟨by simp [PyData.canLay0, PyData.canLayAll0, h1, h3], ?_⟩
  simp only [PyData.depth, PyData.depthAll]
  omega, fun x y => by
  simp only [PyData.eqv, PyData.eqvAll, Bool.and_eq_true]
  rw [Da.eqv, Da.eqv]
  cases x
  cases y
  simp⟩
end
instance {α : Type} [DecidableEq α] : DecidableEq (Lst α) := fun x y => decidable_of_iff (x.l = y.l) (by cases x; cases y; simp)
mutual
theorem dp_mono {K : PySem.W.Frag} {H H' : Hp} (e : Ex H H') : ∀ {v : V} {d : PyData}, Dp K H v d → Dp K H' v d
  | _, _, .non => .non
  | _, _, .bl b => .bl b
  | _, _, .int i => .int i
  | _, _, .str x => .str x
  | _, _, .lst h1 h2 => .lst (e.l h1) (dpAll_mono e h2)
  | _, _, .tup h1 h2 => .tup (e.t h1) (dpAll_mono e h2)
theorem dpAll_mono {K : PySem.W.Frag} {H H' : Hp} (e : Ex H H') : ∀ {vs : List V} {ds : List PyData}, DpAll K H vs ds → DpAll K H' vs ds
  | _, _, .nil => .nil
  | _, _, .cons h1 h2 => .cons (dp_mono e h1) (dpAll_mono e h2)
end
section
variable {X : Cx} {We : WX} {env env1 env2 env3 : List Slot} {P R S : VP} {a b e : Expr} {s : Stmt} {r A B : List Stmt} {pos : Pos} {α : Type} [Rp α] [Da α] [DecidableEq α] {x y : α} {k : Nat}
theorem da_shape (hn : Da.n α ≤ 64) (x : α) : SeqAt.shaped (Da.da x) = true := by
  unfold SeqAt.shaped
  rw [(Da.lay x).1, decide_eq_true (Nat.le_trans (Da.lay x).2 hn)]
  rfl
theorem da_dec {β : Type} [Rp β] [Da β] [DecidableEq β] (x y : β) : PyData.eqv (Da.da x) (Da.da y) = decide (x = y) := by
  by_cases h : x = y
  · rw [decide_eq_true h]
    exact (Da.eqv x y).mpr h
  · rw [decide_eq_false h]
    cases q : PyData.eqv (Da.da x) (Da.da y) with
    | true => exact absurd ((Da.eqv x y).mp q) h
    | false => rfl
theorem Rm.un {A : Around} (hr : Rm k A) : A.units + 64 < cLine := by
  have := hr.room.un
  omega
theorem ov_eqD (hn : Da.n α ≤ 64) : OpV X (rEqD X.K) (rv x) (rv y) (rv (decide (x = y))) := fun env σ u v w R1 hx hy Q q =>
  ⟨_, _, dp_mono R1.ok.sub (Da.dp hx), dp_mono R1.ok.sub (Da.dp hy), da_shape hn x, da_shape hn y, q _ w R1 (Le.refl w) (by rw [da_dec]; exact rfl)⟩
theorem ov_neD (hn : Da.n α ≤ 64) : OpV X (rNeD X.K) (rv x) (rv y) (rv (!decide (x = y))) := fun env σ u v w R1 hx hy Q q =>
  ⟨_, _, dp_mono R1.ok.sub (Da.dp hx), dp_mono R1.ok.sub (Da.dp hy), da_shape hn x, da_shape hn y, q _ w R1 (Le.refl w) (by rw [da_dec]; exact rfl)⟩
theorem he_eqD (hr : Rm k X.A) (ha : HE X a env env1 (rv x)) (hb : HE X b env1 env2 (rv y)) (hn : Da.n α ≤ 64 := by decide) : HE X (.Compare a [.Eq] [b] pos) env env2 (rv (decide (x = y))) := he_cmp (op_eqD hr.un) (ov_eqD hn) (nomark _) ha hb
theorem he_neD (hr : Rm k X.A) (ha : HE X a env env1 (rv x)) (hb : HE X b env1 env2 (rv y)) (hn : Da.n α ≤ 64 := by decide) : HE X (.Compare a [.NotEq] [b] pos) env env2 (rv (!decide (x = y))) := he_cmp (op_neD hr.un) (ov_neD hn) (nomark _) ha hb
theorem hb_eqD (hr : Rm k X.A) (ha : HE X a env env1 (rv x)) (hb : HE X b env1 env2 (rv y)) (hn : Da.n α ≤ 64 := by decide) : HB X (.Compare a [.Eq] [b] pos) env env2 (decide (x = y)) := hb_cmp (op_eqD hr.un) (ov_eqD hn) (nomark _) ha hb
theorem hb_neD (hr : Rm k X.A) (ha : HE X a env env1 (rv x)) (hb : HE X b env1 env2 (rv y)) (hn : Da.n α ≤ 64 := by decide) : HB X (.Compare a [.NotEq] [b] pos) env env2 (!decide (x = y)) := hb_cmp (op_neD hr.un) (ov_neD hn) (nomark _) ha hb
end
/-! ### built-ins by name -/
section
variable {X : Cx} {We : WX} {env env1 env2 env3 : List Slot} {P R S : VP} {a b e : Expr} {s : Stmt} {r A B : List Stmt} {pos p p2 : Pos} {k : Nat}
theorem he_intI {i : Int} (h : HE X e env env1 (rv i)) (hm : X.mg "int" = none) (hg : Gl X "int" := by rfl) (hs : starEach [e] X.env = (false, eval e X.env) :: starEach [] X.env := by rfl) (hpl : (backTo pos (starEach [] X.env)).any (·.1) = false := by rfl) :
    HE X (.Call (.Name "int" p) [e] [] pos) env env1 (rv i) :=
  (pe_callTy call_int1 hg hm (by decide +kernel) (pa_cons h pa_nil hs) (he := hs) (hpl := hpl)).imp fun σ H Q ⟨w, e1, R1, q⟩ => ⟨w, e1, R1, fun v w' R' l pp => .inl ⟨i, by rw [show v = .int i from pp], q _ w' R' l rfl⟩⟩
theorem he_intB {i : Bool} (h : HE X e env env1 (rv i)) (hm : X.mg "int" = none) (hg : Gl X "int" := by rfl) (hs : starEach [e] X.env = (false, eval e X.env) :: starEach [] X.env := by rfl) (hpl : (backTo pos (starEach [] X.env)).any (·.1) = false := by rfl) :
    HE X (.Call (.Name "int" p) [e] [] pos) env env1 (rv (if i = true then (1 : Int) else 0)) :=
  (pe_callTy call_int1 hg hm (by decide +kernel) (pa_cons h pa_nil hs) (he := hs) (hpl := hpl)).imp fun σ H Q ⟨w, e1, R1, q⟩ => ⟨w, e1, R1, fun v w' R' l pp => .inr ⟨i, by rw [show v = .bl i from pp], q _ w' R' l rfl⟩⟩
theorem he_max2 {i j : Int} (hc : X.calm = true) (ha : HE X a env env1 (rv i)) (hb : HE X b env1 env2 (rv j)) (hm : X.mg "max" = none) (hg : Gl X "max" := by rfl) (hs : starEach [a, b] X.env = (false, eval a X.env) :: starEach [b] X.env := by rfl) (hs2 : starEach [b] X.env = (false, eval b X.env) :: starEach [] X.env := by rfl)
    (hpl : (backTo pos (starEach [b] X.env)).any (·.1) = false := by rfl) : HE X (.Call (.Name "max" p) [a, b] [] pos) env env2 (rv (max i j)) :=
  (pe_callB (call_max2 hc) hg hm (by decide +kernel) (pa_cons ha (pa_cons hb pa_nil hs2) hs) (he := hs) (hpl := hpl)).imp fun σ H Q ⟨w, e1, R1, q⟩ => ⟨w, e1, R1, fun v w' R' l pp => ⟨w', rfl, R', fun u w2 R2 l2 p2 => ⟨i, j, by rw [show v = .int i from pp, show u = .int j from p2], q _ w2 R2 (l.trans l2) (show V.int _ = V.int _ by congr 1; split <;> omega)⟩⟩⟩
theorem he_min2 {i j : Int} (hc : X.calm = true) (ha : HE X a env env1 (rv i)) (hb : HE X b env1 env2 (rv j)) (hm : X.mg "min" = none) (hg : Gl X "min" := by rfl) (hs : starEach [a, b] X.env = (false, eval a X.env) :: starEach [b] X.env := by rfl) (hs2 : starEach [b] X.env = (false, eval b X.env) :: starEach [] X.env := by rfl)
    (hpl : (backTo pos (starEach [b] X.env)).any (·.1) = false := by rfl) : HE X (.Call (.Name "min" p) [a, b] [] pos) env env2 (rv (min i j)) :=
  (pe_callB (call_min2 hc) hg hm (by decide +kernel) (pa_cons ha (pa_cons hb pa_nil hs2) hs) (he := hs) (hpl := hpl)).imp fun σ H Q ⟨w, e1, R1, q⟩ => ⟨w, e1, R1, fun v w' R' l pp => ⟨w', rfl, R', fun u w2 R2 l2 p2 => ⟨i, j, by rw [show v = .int i from pp, show u = .int j from p2], q _ w2 R2 (l.trans l2) (show V.int _ = V.int _ by congr 1; split <;> omega)⟩⟩⟩
theorem he_isB {i j : Bool} (ha : HE X a env env1 (rv i)) (hb : HE X b env1 env2 (rv j)) : HE X (.Compare a [.Is] [b] pos) env env2 (rv (decide (i = j))) :=
  he_cmp op_isBl (fun env σ u v w R1 hx hy Q q => ⟨i, j, hx, hy, q _ w R1 (Le.refl w) rfl⟩) (nomark _) ha hb
theorem hb_isB {i j : Bool} (ha : HE X a env env1 (rv i)) (hb : HE X b env1 env2 (rv j)) : HB X (.Compare a [.Is] [b] pos) env env2 (decide (i = j)) :=
  hb_cmp op_isBl (fun env σ u v w R1 hx hy Q q => ⟨i, j, hx, hy, q _ w R1 (Le.refl w) rfl⟩) (nomark _) ha hb
theorem call_reprB : CallR X (.builtin "repr") (fun xs H Q => ∃ i : Bool, xs = [.bl i] ∧ Q (.str (if i = true then "True" else "False" : String)) H) := by
  intro pins s σ H xs us Q I r h
  obtain ⟨i, rfl, q⟩ := h
  obtain ⟨u, rfl, r1⟩ := vals1 r
  cases (show u = Value.bool i from r1)
  cases i with
  | true => exact PySem.P.repr_of_bool ⟨.str _, H, I.tok _, ⟨_, rfl⟩, q⟩
  | false => exact PySem.P.repr_of_bool ⟨.str _, H, I.tok _, ⟨_, rfl⟩, q⟩
def reprB (i : Bool) : Str := (if i = true then "True" else "False" : String)
theorem he_reprB {i : Bool} (h : HE X e env env1 (rv i)) (hm : X.mg "repr" = none) (hg : Gl X "repr" := by rfl) (hs : starEach [e] X.env = (false, eval e X.env) :: starEach [] X.env := by rfl) (hpl : (backTo pos (starEach [] X.env)).any (·.1) = false := by rfl) :
    HE X (.Call (.Name "repr" p) [e] [] pos) env env1 (rv (reprB i)) :=
  (pe_callB call_reprB hg hm (by decide +kernel) (pa_cons h pa_nil hs) (he := hs) (hpl := hpl)).imp fun σ H Q ⟨w, e1, R1, q⟩ => ⟨w, e1, R1, fun v w' R' l pp => ⟨i, by rw [show v = .bl i from pp], q _ w' R' l rfl⟩⟩
theorem tyT {K : PySem.W.Frag} {H : Hp} {t : Addr} {xs : List V} (h : SqT K H t xs) : TyX K H (.ref t) (.type "tuple") := by
  rcases h with (h | ⟨o, h⟩) | ⟨o, its, n, h, hc, _⟩
  · exact .base (.tup h)
  · exact .fTuple h
  · exact .kTuple h hc
/-- isinstance(t, T), T a built-in type -/
theorem he_isiT {α : Type} [Rp α] {xs : List α} {T : Str} {T' : String} {c : Bool} (hv : bootBuiltins T = some (.type T')) (hc : kitB "tuple" T' = some c) (ha : HE X a env env1 (rv xs)) (hm : X.mg "isinstance" = none) (hm2 : X.mg T = none) (hn : T ≠ "__name__" := by decide) (hdb : (T == ("__debug__" : Str)) = false := by decide) (hg : Gl X "isinstance" := by rfl) (hg2 : Gl X T := by rfl)
    (hs : starEach [a, .Name T p2] X.env = (false, eval a X.env) :: starEach [.Name T p2] X.env := by rfl) (hs2 : starEach [.Name T p2] X.env = (false, eval (.Name T p2) X.env) :: starEach [] X.env := by rfl)
    (hpl : (backTo pos (starEach [.Name T p2] X.env)).any (·.1) = false := by rfl) : HE X (.Call (.Name "isinstance" p) [a, .Name T p2] [] pos) env env1 (rv c) :=
  (pe_callB call_isi hg hm (by decide +kernel) (pa_cons ha (pa_cons (pe_bltn (v := .ty T') hg2 hm2 hv rfl hn hdb) pa_nil hs2) hs) (he := hs) (hpl := hpl)).imp fun σ H Q ⟨w, e1, R1, q⟩ => ⟨w, e1, R1, fun v w' R' l ⟨t, vs, e2, h1, h2⟩ =>
    ⟨v, .ty T', _, _, c, rfl, .ty T', by rw [e2]; exact tyT (Ex.t R'.ok.sub h1), kit_ty hc, q _ w' R' l rfl⟩⟩
/-- xs + ys, xs a list of ours, ys fresh -/
theorem hl_catO {α : Type} [Rp α] {mk : List α → Slot} {xs ys : List α} (O : Own mk) (i : Nat) {x : Str} (h0 : env[i]? = some (mk xs)) (hb : HL X b env env1 ys) (h1 : env1[i]? = some (mk xs)) (hz : xs.length + ys.length ≤ 100000) (hN : X.N[i]? = some x := by rfl)
    (hv : Vis X.env.scope x := by first | exact Or.inl rfl | exact Or.inr (Or.inl rfl) | exact Or.inr (Or.inr rfl)) (hd : (x == ("__debug__" : Str)) = false := by decide) (hcd : (x == ("__classdict__" : Str)) = false := by decide) : HL X (.BinOp (.Name x p) .Add b pos) env env1 (xs ++ ys) :=
  (pe_op op_cat (pe_own O i h0 hN hv hd hcd) hb).imp fun σ H Q ⟨w, e1, R1, q⟩ => ⟨w, e1, R1, fun t ht => ⟨w, rfl, R1, fun u us w1 R2 l1 hu al => by
    obtain ⟨vs, h3, h4, h5, h6⟩ := R2.own O h1 ht
    have nt : t ≠ u := ne_of_none h5 hu
    refine ⟨t, u, vs, us, rfl, rfl, (upd_ne nt).trans h5, upd_same, by rw [h6.len, al.len]; exact Nat.le_trans hz (by decide), fun pp hp => ?_⟩
    exact q pp _ (w1.put u (.lst us)) (R2.put hu) (l1.trans (put_le R2.ok hu)) hp (h6.app al)⟩⟩
end
/-! ### t[::-1] -/
section
variable {prog : Program} {w : World} {A : Around} {E : Value → Shared → Prop} {s : Shared}
theorem getItem_tuple_back {t sl : Addr} {items : Array Value} {vl vu vk : Value} {Q : Value → Shared → Prop} (ht : IsTup s.heap t items) (hs : s.heap.IsSliceOf sl vl vu vk) (pl : IsPart vl none) (pu : IsPart vu none) (pk : IsPart vk (some (-1)))
    (h : Q (.ref s.heap.objs.size) { s with heap := s.heap.push { cls := .type "tuple", data := .seq items.toList.reverse.toArray } }) (hsz : items.size ≤ sizeLine) : wpAny (model prog w) A (getItem (.ref t) (.ref sl)) Q E s := by
  have htake : sizeOk (.seq items.toList.reverse.toArray) := by
    show items.toList.reverse.toArray.size ≤ sizeLine
    rw [List.size_toArray, List.length_reverse, Array.length_toList]
    exact hsz
  obtain ⟨os, hos, hcs, hds⟩ := id hs
  have hTs : s.TypeIs (.ref sl) "slice" := ⟨os, hos, hcs⟩
  unfold getItem
  try with_reducible refine wpAny_holding ?_
  first | refine wpAny_bind (wpAny_pure ?_) | skip
  refine wpAny_bind (wpAny_sequenceKey ht.typeIs (by decide) ?_)
  refine wpAny_bind (wpAny_callSpecial?_slot (name := Str.ofString "__getitem__") ht.typeIs PyProof.Rows.slot_tuple_getitem
    (wpAny_call_entry PyProof.Rows.slot_tuple_getitem ht.typeIs entry_tuple_getitem ?_ (args_tuple_getitem _ _)))
  show wpAny _ _ (Builtin.Tuple.tupleItemsOf (.ref t) >>= _) _ _ s
  refine wpAny_bind (tupleItemsOf_ ht ?_)
  refine wpAny_bind (wpAny_typeOf hTs ?_)
  rw [if_pos (by decide)]
  have key : ∀ {A : Around} {Q' : Int × Int × Nat → Shared → Prop}, Q' ((items.size : Int) - 1, -1, items.size) s → wpAny (model prog w) A (Builtin.Slice.sliceApplied (.ref sl) (pure (items.size : Int))) Q' E s := fun {A Q'} hq => by
    unfold Builtin.Slice.sliceApplied Builtin.Slice.sliceFields
    refine wpAny_bind (wpAny_bind (wpAny_field hos hds (x := vl) rfl (wpAny_bind (wpAny_field hos hds (x := vu) rfl (wpAny_bind (wpAny_field hos hds (x := vk) rfl (wpAny_pure ?_)))))))
    refine wpAny_bind (HT.slicePart_ pk ?_)
    show wpAny _ _ (if ((-1 : Int) == 0) = true then _ else _) _ _ s
    rw [if_neg (by decide)]
    refine wpAny_bind (HT.slicePart_ pl (wpAny_bind (HT.slicePart_ pu (wpAny_bind (wpAny_pure ?_)))))
    have e1 : Builtin.Slice.sliceAdjust none none (-1) (items.size : Int) = ((items.size : Int) - 1, -1) := by
      unfold Builtin.Slice.sliceAdjust
      simp
    show wpAny _ _ (match Builtin.Slice.sliceAdjust none none (-1) (items.size : Int) with | (lo, hi) => pure (lo, (-1 : Int), Builtin.Slice.slicePlaces lo hi (-1))) _ _ s
    rw [e1]
    have e2 : Builtin.Slice.slicePlaces ((items.size : Int) - 1) (-1) (-1) = items.size := by
      unfold Builtin.Slice.slicePlaces
      have h1 : ¬ ((-1 : Int) > 0) := by decide
      simp only [h1, if_false]
      have h2 : ((items.size : Int) - 1 - -1 - 1) / (- -1) = (items.size : Int) - 1 := by
        rw [show (- -1 : Int) = 1 by decide, Int.ediv_one]
        omega
      split <;> omega
    show wpAny _ _ (pure ((items.size : Int) - 1, (-1 : Int), Builtin.Slice.slicePlaces ((items.size : Int) - 1) (-1) (-1))) _ _ s
    rw [e2]
    exact wpAny_pure hq
  refine wpAny_bind (key ?_)
  have hno : ¬ ((((items.size : Int) - 1 == 0) && (-1 : Int) == 1 && items.size == items.size) = true) := by
    intro q
    rw [Bool.and_eq_true, Bool.and_eq_true] at q
    exact absurd q.1.2 (by decide)
  show wpAny _ _ (if (((items.size : Int) - 1 == 0) && (-1 : Int) == 1 && items.size == items.size) = true then _ else _) _ _ s
  rw [if_neg hno]
  have pick : ((List.range items.size).filterMap fun (m : Nat) => items[(((items.size : Int) - 1) + (m : Int) * (-1)).toNat]?).toArray = items.toList.reverse.toArray := by
    congr 1
    have e : (fun (m : Nat) => items[(((items.size : Int) - 1) + (m : Int) * (-1)).toNat]?) = fun m => items[items.size - 1 - m]? := by
      funext m
      have : (((items.size : Int) - 1) + (m : Int) * (-1)).toNat = items.size - 1 - m := by omega
      rw [this]
    rw [e]
    have e2 : (fun m => items[items.size - 1 - m]?) = (items[·]?) ∘ fun m => items.size - 1 - m := rfl
    rw [e2, ← List.filterMap_map, PySem.W.krv_range, List.filterMap_reverse, PySem.W.krv_all]
  rw [pick]
  first
    | exact wpAny_bind (m := Builtin.Tuple.tupleExact _) (wpAny_newObj_type (wpAny_pure ⟨_, rfl, wpAny_pure h⟩) htake)
    | exact wpAny_bind (m := Builtin.Tuple.tupleExact _) (wpAny_newObj_type (wpAny_bind (wpAny_pure (wpAny_pure ⟨_, rfl, wpAny_pure h⟩))) htake)
    | exact wpAny_bind (wpAny_bind (m := Builtin.Tuple.tupleExact _) (wpAny_newObj_type (wpAny_pure (wpAny_pure ⟨_, rfl, wpAny_pure h⟩)) htake))
    | exact wpAny_bind (wpAny_bind (m := Builtin.Tuple.tupleExact _) (wpAny_newObj_type (wpAny_pure ⟨_, rfl, wpAny_pure h⟩) htake))
end
section
variable {X : Cx} {env env1 : List Slot}
def tRevT (K : PySem.W.Frag) (te : TE) : TE := fun σ H Q => te σ H fun x H1 => ∃ a xs, x = .ref a ∧ SqT K H1 a xs ∧ ∀ p, H1 p = none → Q (.ref p) (upd H1 p (.tup xs.reverse))
theorem pe_revT {e : Expr} {te : TE} {k : Nat} {p1 p2 p3 pos : Pos} (he : PE X e te) : PE X (.Subscript e (.Slice none none (some (.UnaryOp .USub (.Constant (.int 1) k p1) p2)) p3) pos) (tRevT X.K te) := by
  refine ⟨fun pins s σ H Q I h => ?_⟩
  refine Subscript_ (thn (he.run pins s σ H _ I h) fun v s1 ⟨x, H1, I1, r1, q1⟩ => ?_)
  obtain ⟨a, xs, ex, hx, q⟩ := q1
  subst ex
  cases r1
  have hst : PO X (some (.UnaryOp .USub (.Constant (.int 1) k p1) p2)) (tPart (tUn (rU fun i => .int (-i)) (tC (.int 1)))) := po_some (pe_un un_neg pe_int)
  refine wpAny_Slice (thn (po_none.run pins s1 σ H1 (fun o H2 => o = none ∧ H2 = H1) I1 ⟨rfl, rfl⟩) fun vl s2 ⟨l, H2, I2, pl, el, e2⟩ => ?_)
  subst el e2
  refine thn (po_none.run pins s2 σ H2 (fun o H3 => o = none ∧ H3 = H2) I2 ⟨rfl, rfl⟩) fun vu s3 ⟨u, H3, I3, pu, eu, e3⟩ => ?_
  subst eu e3
  refine thn (hst.run pins s3 σ H3 (fun o H4 => o = some (-1) ∧ H4 = H3) I3 ⟨1, rfl, -1, rfl, rfl, rfl⟩) fun vs s4 ⟨o, H4, I4, ps, eo, e4⟩ => ?_
  subst eo e4
  have I5 : Inv X pins σ H4 { s4 with heap := s4.heap.push { cls := .type "slice", data := .fields #[vl, vu, vs] } } := I4.kept (t' := s4.toks) fun b ob q => Heap.get?_push_of_some _ q
  obtain ⟨its, r, ht, hz⟩ := I5.tuple hx
  have hlen := r.length
  show wpAny (model X.prog X.w) X.A (subscriptTail e (.Slice none none (some (.UnaryOp .USub (.Constant (.int 1) k p1) p2)) p3) (.ref a) (.ref s4.heap.objs.size)) (EP X pins σ Q) X.xe { s4 with heap := s4.heap.push { cls := .type "slice", data := .fields #[vl, vu, vs] } }
  refine tail_any (ops := [.ref a, .ref s4.heap.objs.size]) ht.typeIs PyProof.Rows.slot_tuple_getitem.lookup ?_ (by with_unfolding_all rfl)
  refine getItem_tuple_back ht (Heap.IsSliceOf.new _ vl vu vs) pl pu ps ?_ (by rw [List.size_toArray]; omega)
  refine ⟨.ref _, _, I5.laid (t' := s4.toks) (o := .tup xs.reverse) (fun b ob q => Heap.get?_push_of_some _ q) (Nat.le_refl _) ?_, rfl, q _ (I5.hok.fresh (Nat.le_refl _))⟩
  exact ⟨by rw [List.length_reverse]; exact hz, _, r.reverse, IsTup.new _ _⟩
theorem he_revT {α : Type} [Rp α] {xs : List α} {e : Expr} {k : Nat} {p1 p2 p3 pos : Pos} (he : HE X e env env1 (rv xs)) : HE X (.Subscript e (.Slice none none (some (.UnaryOp .USub (.Constant (.int 1) k p1) p2)) p3) pos) env env1 (rv xs.reverse) :=
  (pe_revT he).imp fun σ H Q ⟨w, e1, R1, q⟩ => ⟨w, e1, R1, fun v w' R' l ⟨t, vs, e2, h1, h2⟩ => ⟨t, vs, e2, Ex.t R'.ok.sub h1, fun p hp => by
    have h5 := (R'.ok.fresh hp).1
    exact q _ (w'.add p (.tup vs.reverse)) (R'.add hp) (l.trans (add_le R'.ok hp)) ⟨p, _, rfl, SqT.of upd_same, h2.rev.mono (Ex.new h5)⟩⟩⟩
end
/-! ### keywords -/
/-- how a call binds: n values by place, ks by name; js: where each parameter's value stands -/
structure KB (K : PySem.W.Frag) (fd : FuncData) (ps ks : List Str) (n : Nat) (js : List Nat) : Prop where
  to : ∀ (s : Shared) (us ws : List Value), us.length = n → ws.length = ks.length → BindsTo s fd ⟨us, ks.zip ws⟩ (ps.zip (js.map fun j => (us ++ ws).getD j .none))
structure DefK (P : Program) (w : World) (K : PySem.W.Frag) (mg : Str → Option Value) (base : Heap) (x : Str) (k : Nat) (ps : List Str) (sp : Sp) (kbs : List (List Str × Nat × List Nat)) : Prop where
  ex : ∃ f fd, FnG P w K mg base k f fd ps sp ∧ mg x = some (.ref f) ∧ PySem.W.keepIn K (.ref f) = true ∧ Binds K fd ps [] ∧ ∀ q ∈ kbs, KB K fd ps q.1 q.2.1 q.2.2
theorem DefK.d {P : Program} {w : World} {K : PySem.W.Frag} {mg : Str → Option Value} {base : Heap} {x : Str} {k : Nat} {ps : List Str} {sp : Sp} {kbs : List (List Str × Nat × List Nat)} (D : DefK P w K mg base x k ps sp kbs) : Def P w K mg base x k ps sp :=
  let ⟨f, fd, h1, h2, h3, h4, _⟩ := D.ex
  ⟨f, fd, h1, h2, h3, h4⟩
theorem vals_getD {xs : List V} {us : List Value} (r : Vals xs us) (j : Nat) : RelV (xs.getD j .non) (us.getD j .none) := by
  induction r generalizing j with
  | nil => simp; rfl
  | cons h t ih =>
    cases j with
    | zero => simpa using h
    | succ j => simpa using ih j
theorem vals_js {xs : List V} {us : List Value} (r : Vals xs us) : ∀ js : List Nat, Vals (js.map fun j => xs.getD j .non) (js.map fun j => us.getD j .none)
  | [] => .nil
  | j :: js => .cons (vals_getD r j) (vals_js r js)
theorem vals_app {xs ys : List V} {us ws : List Value} (r : Vals xs us) (t : Vals ys ws) : Vals (xs ++ ys) (us ++ ws) := by
  induction r with
  | nil => exact t
  | cons h _ ih => exact .cons h ih
theorem alP_getD {K : PySem.W.Frag} {H : Hp} : ∀ {Ps : List VP} {vs : List V} (j : Nat), AlP K H Ps vs → (Ps.getD j (rv ())).p K (vs.getD j .non) H
  | [], vs, j, h => by
    rw [show vs = [] from h]
    simp
    rfl
  | P :: Ps, _, 0, ⟨v, r, e1, h1, h2⟩ => by rw [e1]; simpa using h1
  | P :: Ps, _, j + 1, ⟨v, r, e1, h1, h2⟩ => by rw [e1]; simpa using alP_getD j h2
theorem alP_js {K : PySem.W.Frag} {H : Hp} {Ps : List VP} {vs : List V} (h : AlP K H Ps vs) : ∀ js : List Nat, AlP K H (js.map fun j => Ps.getD j (rv ())) (js.map fun j => vs.getD j .non)
  | [] => rfl
  | j :: js => ⟨_, _, rfl, alP_getD j h, alP_js h js⟩
theorem AlP.append {K : PySem.W.Frag} {H : Hp} : ∀ {Ps Qs : List VP} {vs us : List V}, AlP K H Ps vs → AlP K H Qs us → AlP K H (Ps ++ Qs) (vs ++ us)
  | [], _, _, _, h, t => by rw [show _ = ([] : List V) from h]; exact t
  | _ :: _, _, _, _, ⟨u, r, e1, h1, h2⟩, t => by rw [e1]; exact ⟨u, _, rfl, h1, AlP.append h2 t⟩
abbrev HK (X : Cx) (kws : List Keyword) (env env' : List Slot) (Ps : List VP) : Prop := PK X kws (tA X.K env env' Ps)
theorem _root_.L2.PK.imp {X : Cx} {es : List Keyword} {t t' : TA} (h : PK X es t) (k : ∀ σ H Q, t' σ H Q → t σ H Q) : PK X es t' := ⟨fun pos pins s σ H Q I q => h.run pos pins s σ H Q I (k σ H Q q)⟩
section
variable {X : Cx} {env env1 env2 : List Slot} {P : VP} {e : Expr} {es : List Expr} {kws : List Keyword} {p pos kpos : Pos} {x : Str} {k n : Nat} {ps ks : List Str} {A : Type} {pre : A → Prop} {ins : A → List Slot} {out : A → FO} {Ps Qs : List VP} {nm : Option Str} {kbs : List (List Str × Nat × List Nat)} {js : List Nat}
theorem hk_nil : HK X [] env env [] := pk_nil.imp fun σ H Q ⟨w, e1, R1, q⟩ => by
  subst e1
  exact q [] w R1 (Le.refl w) rfl
theorem hk_cons (h : HE X e env env1 P) (t : HK X kws env1 env2 Ps) : HK X (⟨nm, e, kpos⟩ :: kws) env env2 (P :: Ps) :=
  (pk_cons h t).imp fun σ H Q ⟨w, e1, R1, q⟩ => ⟨w, e1, R1, fun v w' R' l p => ⟨w', rfl, R', fun vs w2 R2 l2 p2 => q (v :: vs) w2 R2 (l.trans l2) ⟨v, vs, rfl, P.mono l2.hi p, p2⟩⟩⟩
theorem run_kb {f : Addr} {fd : FuncData} {pins : List (Addr × Obj)} {σ : L2.St} {H : Hp} {s : Shared} {Q : VK} {us ws : List Value} {vs zs : List V} {sp : Sp} (F : FnG X.prog X.w X.K X.mg X.base k f fd ps sp) (hr : Rm k X.A) (kb : KB X.K fd ps ks n js) (h1 : vs.length = n) (h2 : zs.length = ks.length)
    (I : Inv X pins σ H s) (r : Vals vs us) (rz : Vals zs ws) (h : sp (js.map fun j => (vs ++ zs).getD j .non) H Q E0) : wpAny (model X.prog X.w) X.A (call (.ref f) us (ks.zip ws)) (EP X pins σ Q) X.xe s := by
  refine wpAny_call (codeAny_mono (runG F hr (kb.to s us ws (r.length.symm.trans h1) (rz.length.symm.trans h2)) passN I (vals_js (vals_app r rz) js) h) fun r s' hq => ?_)
  cases r with
  | error e => exact hq
  | ok fl => cases fl <;> first | exact hq | exact hq.elim
theorem to_callK (a : A) (hpr : pre a) (vs : List V) {w' : Wd} {w : Wd} {σ : L2.St} {Q : VK} (ho : out a = .rt P []) (hi : ins a = (js.map fun j => Ps.getD j (rv ())).map im) (R' : Rep X.K env1 σ w') (l : Le w w') (al : AlP X.K w'.Hi Ps vs) (q : ∀ v w', Rep X.K env1 σ w' → Le w w' → P.p X.K v w'.Hi → Q v w'.H) :
    Spq X.K pre ins out (js.map fun j => vs.getD j .non) w'.H Q E0 := by
  refine ⟨⟨a, hpr⟩, w'.in0, rfl, ?_, ?_⟩
  · show Rep _ (ins a) _ _
    rw [hi]
    exact rep_ims (in0_ok R'.ok) (alP_js al js)
  · show FO.sat _ _ _ _ (out a)
    rw [ho]
    intro v w2 ok l2 _ pv
    obtain ⟨R3, l3⟩ := out_rep R' ok l2
    exact q v (w'.out w2) R3 (l.trans l3) pv
/-- f(k = e, ..) -/
theorem he_callK0 (D : DefK X.prog X.w X.K X.mg X.base x k ps (Spq X.K pre ins out) kbs) (a : A) (hpr : pre a) (hr : Rm k X.A) (hk : HK X kws env env1 Ps) (hq : (ks, 0, js) ∈ kbs := by simp) (hks : (backToKw pos (keywordEach kws X.env)).filterMap (·.1) = ks := by rfl) (hn : Ps.length = ks.length := by rfl)
    (hi : ins a = (js.map fun j => Ps.getD j (rv ())).map im := by rfl) (ho : out a = .rt P [] := by rfl) (hall : (backToKw pos (keywordEach kws X.env)).all (·.1.isSome) = true := by rfl) (hg : Gl X x := by rfl) (hdb : (x == ("__debug__" : Str)) = false := by decide)
    (hpl : ((backTo pos (starEach [] X.env)).any (·.1) || (backToKw pos (keywordEach kws X.env)).any (·.1.isNone)) = false := by rfl) : HE X (.Call (.Name x p) [] kws pos) env env1 P := by
  obtain ⟨f, fd, F, hm, hkp, _, hkb⟩ := D.ex
  have kb := hkb _ hq
  refine ⟨fun pins s σ H Q I ⟨w, e1, R1, q⟩ => ?_⟩
  refine wpAny_Call_Name_kw (ld_glob I hg hm (PySem.W.callWith_KW0 I.kIn hkp hall (thn (hk.run pos pins s σ H (fun zs H1 => ∃ w' : Wd, w'.H = H1 ∧ Rep X.K env1 σ w' ∧ Le w w' ∧ AlP X.K w'.Hi Ps zs) I ⟨w, e1, R1, fun vs w' R' l al => ⟨w', rfl, R', l, al⟩⟩) fun ws s2 ⟨zs, H2, I2, rz, w', e2, R', l, al⟩ => ⟨I2.kIn, ?_⟩) hpl) hdb)
  subst e2
  rw [hks]
  exact run_kb F hr kb (vs := []) rfl (by rw [alP_len al, hn]) I2 .nil rz (to_callK a hpr zs ho hi R' l al q)
/-- f(e, .., k = e, ..) -/
theorem he_callK (D : DefK X.prog X.w X.K X.mg X.base x k ps (Spq X.K pre ins out) kbs) (a : A) (hpr : pre a) (hr : Rm k X.A) (ha : HA X (e :: es) env env1 Qs) (hk : HK X kws env1 env2 Ps) (hn' : Qs.length = n := by rfl) (hq : (ks, n, js) ∈ kbs := by simp) (hks : (backToKw pos (keywordEach kws X.env)).filterMap (·.1) = ks := by rfl) (hn : Ps.length = ks.length := by rfl)
    (hi : ins a = (js.map fun j => (Qs ++ Ps).getD j (rv ())).map im := by rfl) (ho : out a = .rt P [] := by rfl) (hall : (backToKw pos (keywordEach kws X.env)).all (·.1.isSome) = true := by rfl) (hg : Gl X x := by rfl) (hdb : (x == ("__debug__" : Str)) = false := by decide)
    (he : starEach (e :: es) X.env = (false, eval e X.env) :: starEach es X.env := by rfl)
    (hpl : ((backTo pos (starEach (e :: es) X.env)).any (·.1) || (backToKw pos (keywordEach kws X.env)).any (·.1.isNone)) = false := by rfl) : HE X (.Call (.Name x p) (e :: es) kws pos) env env2 P := by
  obtain ⟨f, fd, F, hm, hkp, _, hkb⟩ := D.ex
  have kb := hkb _ hq
  refine ⟨fun pins s σ H Q I ⟨w, e1, R1, q⟩ => ?_⟩
  refine wpAny_Call_Name_kw (ld_glob I hg hm (PySem.W.callWith_KW (h₀ := X.base) I.ok.mod.kin hkp hall (thn (ha.run pos pins s σ H (fun zs H1 => ∃ w' : Wd, w'.H = H1 ∧ Rep X.K env1 σ w' ∧ Le w w' ∧ AlP X.K w'.Hi Qs zs) I ⟨w, e1, R1, fun vs w' R' l al => ⟨w', rfl, R', l, al⟩⟩) fun us s1 ⟨vs, H1, I1, r, w1, e1, R1, l1, al1⟩ => ?_) hpl he) hdb)
  subst e1
  refine thn (hk.run pos pins s1 σ _ (fun zs H1 => ∃ w' : Wd, w'.H = H1 ∧ Rep X.K env2 σ w' ∧ Le w1 w' ∧ AlP X.K w'.Hi Ps zs) I1 ⟨w1, rfl, R1, fun vs w' R' l al => ⟨w', rfl, R', l, al⟩⟩) fun ws s2 ⟨zs, H2, I2, rz, w2, e2, R2, l2, al2⟩ => ⟨I2.kIn, ?_⟩
  subst e2
  rw [hks]
  exact run_kb F hr kb (by rw [alP_len al1, hn']) (by rw [alP_len al2, hn]) I2 r rz (to_callK a hpr (vs ++ zs) ho hi R2 (l1.trans l2) ((al1.mono l2.hi).append al2) q)
end
/-! ### built-ins that the text leaves as they are -/
structure Blt (mg : Str → Option Value) : Prop where
  len : mg "len" = none
  tuple : mg "tuple" = none
  list : mg "list" = none
  int : mg "int" = none
  max : mg "max" = none
  min : mg "min" = none
  repr : mg "repr" = none
  isinstance : mg "isinstance" = none
  range : mg "range" = none
  enumerate : mg "enumerate" = none
theorem blt_of {K : PySem.W.Frag} {h : Heap} {mg : Str → Option Value} (X : K.In h) (G : h.Ns mainGlobals mg)
    (z1 : PySem.W.nsIn K mainGlobals "len" = some none) (z2 : PySem.W.nsIn K mainGlobals "tuple" = some none) (z3 : PySem.W.nsIn K mainGlobals "list" = some none) (z4 : PySem.W.nsIn K mainGlobals "int" = some none) (z5 : PySem.W.nsIn K mainGlobals "max" = some none)
    (z6 : PySem.W.nsIn K mainGlobals "min" = some none) (z7 : PySem.W.nsIn K mainGlobals "repr" = some none) (z8 : PySem.W.nsIn K mainGlobals "isinstance" = some none) (z9 : PySem.W.nsIn K mainGlobals "range" = some none) (z10 : PySem.W.nsIn K mainGlobals "enumerate" = some none) : Blt mg :=
  ⟨PySem.W.mg_none_of X G z1, PySem.W.mg_none_of X G z2, PySem.W.mg_none_of X G z3, PySem.W.mg_none_of X G z4, PySem.W.mg_none_of X G z5, PySem.W.mg_none_of X G z6, PySem.W.mg_none_of X G z7, PySem.W.mg_none_of X G z8, PySem.W.mg_none_of X G z9, PySem.W.mg_none_of X G z10⟩
theorem Def.mono {P : Program} {w : World} {K : PySem.W.Frag} {mg : Str → Option Value} {base : Heap} {x : Str} {j k : Nat} {ps : List Str} {sp : Sp} (D : Def P w K mg base x j ps sp) (h : j ≤ k) : Def P w K mg base x k ps sp :=
  let ⟨f, fd, h1, h2⟩ := D.ex
  ⟨f, fd, ⟨h1.len, fun A outer s H args us vs Q E hr => h1.run A outer s H args us vs Q E (hr.mono h)⟩, h2⟩
/-! ### what is known only to be one of many -/
def exS {β : Type} (mk : β → Slot) (φ : β → Prop) : Slot := ⟨fun K i s w => ∃ b, φ b ∧ (mk b).p K i s w, fun ⟨b, h1, h2⟩ a1 a2 a3 => ⟨b, h1, (mk b).mono h2 a1 a2 a3⟩⟩
def exP {α : Type} [Rp α] (φ : α → Prop) : VP := ⟨fun K v H => ∃ x, φ x ∧ Rp.rp K x v H, fun e ⟨x, h1, h2⟩ => ⟨x, h1, Rp.mono e h2⟩⟩
section
theorem set_same {α : Type} : ∀ {xs : List α} {i : Nat} {x : α}, xs[i]? = some x → xs.set i x = xs
  | [], _, _, h => by simp at h
  | y :: xs, 0, x, h => by simp at h; subst h; rfl
  | y :: xs, i + 1, x, h => by rw [List.set_cons_succ, set_same (by simpa using h)]
variable {X : Cx} {We : WX} {env env1 env2 env3 : List Slot} {P R S : VP} {a b e tg : Expr} {s : Stmt} {r A B : List Stmt} {pos : Pos} {oc : Oc} {α β : Type} [Rp α]
theorem he_ex {φ : α → Prop} {x : α} (h : HE X e env env1 (rv x)) (hx : φ x) : HE X e env env1 (exP φ) := he_to h fun K v H p => ⟨x, hx, p⟩
theorem hs_open {mk : β → Slot} {φ : β → Prop} (i : Nat) (hi : env[i]? = some (exS mk φ)) (h : ∀ b, φ b → HSs X We r (env.set i (mk b)) oc) : HSs X We r env oc :=
  (pss_any (We := We) (ss := r)).imp fun D σ H ⟨w, e1, R1, q⟩ => by
    obtain ⟨x, hx, b, hb, hp⟩ := R1.sl i _ hi
    refine ⟨_, oc, h b hb, w, e1, ?_, q⟩
    have R2 := R1.set (i := i) (s := mk b) (x := x) hp
    rw [set_same hx] at R2
    exact R2
theorem hs_openP {φ : α → Prop} (i : Nat) (hi : env[i]? = some (im (exP φ))) (h : ∀ x, φ x → HSs X We r (env.set i (im (rv x))) oc) : HSs X We r env oc :=
  (pss_any (We := We) (ss := r)).imp fun D σ H ⟨w, e1, R1, q⟩ => by
    obtain ⟨x, hx, v, hv, y, hy, hp⟩ := R1.sl i _ hi
    refine ⟨_, oc, h y hy, w, e1, ?_, q⟩
    have R2 := R1.set (i := i) (s := im (rv y)) (x := x) ⟨v, hv, hp⟩
    rw [set_same hx] at R2
    exact R2
/-- tg = e; what follows, for each that e may be -/
theorem hs_letE {φ : α → Prop} (he : HE X e env env1 (exP φ)) (h : ∀ x, φ x → ∃ env2 is, HG X tg (rv x) env1 env2 is ∧ HSs X We r env2 oc) (hs : swapsWithSole [tg] e pos.line X.env = pure false := by rfl) (hw : swappedStores [tg] e X.env = pure none := by rfl)
    (h1 : (assignEach [tg] X.env).map (·.2) = [assign tg X.env] := by rfl) : HSs X We (.Assign [tg] e pos :: r) env oc :=
  (pss_cons (ps_asg he (pg_any (tg := tg)) hs hw h1) (pss_any (We := We) (ss := r))).imp fun D σ H ⟨w, e1, R1, q⟩ => ⟨w, e1, R1, fun v w' R' l ⟨x, hx, hp⟩ => by
    obtain ⟨env2, is, hg, hr⟩ := h x hx
    exact ⟨rv x, env1, env2, is, hg, w', rfl, R', hp, fun σ2 w2 R2 l2 _ => ⟨env2, oc, hr, w2, rfl, R2, Oc.sat_le (oc := oc) (l.trans l2) q⟩⟩⟩
/-- out of a walk that ends in one of many -/
theorem hs_rtE {φ : α → Prop} {x : α} (h : HSs X We r env (.rt (rv x) env1)) (hx : φ x) : HSs X We r env (.rt (exP φ) env1) := h.imp fun D σ H ⟨w, e1, R1, q⟩ => ⟨w, e1, R1, fun σ v w' R' l p => q σ v w' R' l ⟨x, hx, p⟩⟩
/-- slots forgotten, or known less of -/
structure Wkn (env fin : List Slot) : Prop where
  len : fin.length = env.length
  out : ∀ (i : Nat) (s : Slot), fin[i]? = some s → ∃ t, env[i]? = some t ∧ ∀ K j x w, t.p K j x w → s.p K j x w
theorem Wkn.nil : Wkn [] [] := ⟨rfl, fun i s h => by simp at h⟩
theorem Wkn.cons {s t : Slot} {env fin : List Slot} (h : ∀ K i x w, t.p K i x w → s.p K i x w) (k : Wkn env fin) : Wkn (t :: env) (s :: fin) := ⟨by rw [List.length_cons, List.length_cons, k.len], fun i u hu => by
  cases i with
  | zero =>
    simp at hu
    subst hu
    exact ⟨t, rfl, h⟩
  | succ i =>
    obtain ⟨t', h1, h2⟩ := k.out i u (by simpa using hu)
    exact ⟨t', by simpa using h1, h2⟩⟩
theorem Wkn.k {s : Slot} {env fin : List Slot} (h : Wkn env fin) : Wkn (s :: env) (s :: fin) := h.cons fun _ _ _ _ q => q
theorem Wkn.f {s : Slot} {env fin : List Slot} (h : Wkn env fin) : Wkn (s :: env) (un :: fin) := h.cons fun _ _ _ _ _ => trivial
theorem Wkn.x {mk : β → Slot} {φ : β → Prop} {b : β} {env fin : List Slot} (hb : φ b) (h : Wkn env fin) : Wkn (mk b :: env) (exS mk φ :: fin) := h.cons fun _ _ _ _ q => ⟨b, hb, q⟩
theorem Wkn.un : ∀ {env : List Slot} {n : Nat}, n = env.length → Wkn env (List.replicate n BC.un)
  | [], _, e => by subst e; exact .nil
  | _ :: _, _, e => by subst e; exact (Wkn.un rfl).f
theorem Rep.wkn {K : PySem.W.Frag} {σ : L2.St} {w : Wd} (R : Rep K env σ w) (k : Wkn env env1) : Rep K env1 σ w := ⟨R.ok, R.len.trans k.len.symm, fun i s h => by
  obtain ⟨t, h1, h2⟩ := k.out i s h
  obtain ⟨x, h3, h4⟩ := R.sl i t h1
  exact ⟨x, h3, h2 _ _ _ _ h4⟩⟩
theorem hs_rtw (k : Wkn env1 env2) (hp : ∀ K v H, P.p K v H → R.p K v H) (h : HSs X We r env (.rt P env1)) : HSs X We r env (.rt R env2) := h.imp fun D σ H ⟨w, e1, R1, q⟩ => ⟨w, e1, R1, fun σ v w' R' l p => q σ v w' (R'.wkn k) l (hp _ _ _ p)⟩
theorem hs_nxwk (k : Wkn env1 env2) (h : HSs X We r env (.nx env1)) : HSs X We r env (.nx env2) := h.imp fun D σ H ⟨w, e1, R1, q⟩ => ⟨w, e1, R1, fun σ w' R' l => q σ w' (R'.wkn k) l⟩
/-- a return whose value, and what it leaves, is one of many -/
theorem st_retE {φ : α → Prop} {x : α} {fin : List Slot} (he : HE X e env env1 (rv x)) (hx : φ x) (k : Wkn env1 fin) : HS X We (.Return (some e) pos) env (.rt (exP φ) fin) :=
  (st_ret (We := We) (pos := pos) he).imp fun D σ H ⟨w, e1, R1, q⟩ => ⟨w, e1, R1, fun σ v w' R' l p => q σ v w' (R'.wkn k) l ⟨x, hx, p⟩⟩
/-- a, b = e, f -/
theorem st_par (i j : Nat) {x y : Str} {px py pt pt2 : Pos} {kt k2} (hc : X.calm = true) (hN : X.N.Nodup) (ha : HA X [a, b] env env1 [P, R]) (hij : i ≠ j := by decide) (hi : X.N[i]? = some x := by rfl) (hj : X.N[j]? = some y := by rfl)
    (hx : X.env.scope.names.lookup x = some .local := by rfl) (hy : X.env.scope.names.lookup y = some .local := by rfl)
    (hw : swappedStores [.Tuple [.Name x px, .Name y py] kt pt] (.Tuple [a, b] k2 pt2) X.env = pure (some [x, y]) := by rfl)
    (hs : swapsWithSole [.Tuple [.Name x px, .Name y py] kt pt] (.Tuple [a, b] k2 pt2) pos.line X.env = pure false := by rfl) : HS X We (.Assign [.Tuple [.Name x px, .Name y py] kt pt] (.Tuple [a, b] k2 pt2) pos) env (.nx ((env1.set i (im P)).set j (im R))) :=
  (ps_par hc hN hi hj hij hx hy ha hw hs).imp fun D σ H ⟨w, e1, R1, q⟩ => ⟨w, e1, R1, fun vs w' R' l ⟨v, r, e2, h2, u, r2, e3, h3, e4⟩ => by
    subst e2 e3
    exact ⟨v, u, by rw [show r2 = [] from e4], q _ w' ((R'.set (s := im P) ⟨v, rfl, h2⟩).set (s := im R) ⟨u, rfl, h3⟩) l⟩⟩
end
/-! ### chains -/
section
variable {X : Cx} {env env1 env2 : List Slot} {a b c : Expr} {pos : Pos} {i j k : Int}
theorem he_leLe (ha : HE X a env env1 (rv i)) (hb : HE X b env1 env2 (rv j)) (hc : HE X c env2 env2 (rv k)) (hm : lastMarks [.LtE, .LtE] [b, c] = false := by with_unfolding_all rfl) : HE X (.Compare a [.LtE, .LtE] [b, c] pos) env env2 (rv (decide (i ≤ j) && decide (j ≤ k))) :=
  he_chain op_le op_le (fun _ _ _ x y z => pe_chain op_le op_le x y z hm) ha hb hc
theorem he_leLt (ha : HE X a env env1 (rv i)) (hb : HE X b env1 env2 (rv j)) (hc : HE X c env2 env2 (rv k)) (hm : lastMarks [.LtE, .Lt] [b, c] = false := by with_unfolding_all rfl) : HE X (.Compare a [.LtE, .Lt] [b, c] pos) env env2 (rv (decide (i ≤ j) && decide (j < k))) :=
  he_chain op_le op_lt (fun _ _ _ x y z => pe_chain op_le op_lt x y z hm) ha hb hc
theorem he_ltLt (ha : HE X a env env1 (rv i)) (hb : HE X b env1 env2 (rv j)) (hc : HE X c env2 env2 (rv k)) (hm : lastMarks [.Lt, .Lt] [b, c] = false := by with_unfolding_all rfl) : HE X (.Compare a [.Lt, .Lt] [b, c] pos) env env2 (rv (decide (i < j) && decide (j < k))) :=
  he_chain op_lt op_lt (fun _ _ _ x y z => pe_chain op_lt op_lt x y z hm) ha hb hc
theorem he_ltLe (ha : HE X a env env1 (rv i)) (hb : HE X b env1 env2 (rv j)) (hc : HE X c env2 env2 (rv k)) (hm : lastMarks [.Lt, .LtE] [b, c] = false := by with_unfolding_all rfl) : HE X (.Compare a [.Lt, .LtE] [b, c] pos) env env2 (rv (decide (i < j) && decide (j ≤ k))) :=
  he_chain op_lt op_le (fun _ _ _ x y z => pe_chain op_lt op_le x y z hm) ha hb hc
end
/-! ### comprehensions: filtered and mapped; threaded -/
section
variable {X : Cx} {scope : Scope} {tg elt : Expr} {ifs : List Expr} {vs : List Nat} {α β S : Type} [Rp α] [Rp β]
theorem cl_fm (c : α → Bool) (f : α → β) {en : List Slot} {es : α → List Slot} (hw : ∀ x, wipeE (es x) vs = en) : ∀ (xs : List α) (hg : ∀ x ∈ xs, ∀ s H C cl fp, HG (blkX X scope s H C cl fp) tg (rv x) en (es x) vs) (ht : ∀ x ∈ xs, ∀ s H C cl fp, HTs (blkX X scope s H C cl fp) ifs (es x) (es x) (c x))
    (he : ∀ x ∈ xs, c x = true → ∀ s H C cl fp, HE (blkX X scope s H C cl fp) elt (es x) (es x) (rv (f x))), Cl X scope tg elt ifs vs (rvs xs) en (rvs ((xs.filter c).map f)) en
  | [], _, _, _ => .nil
  | x :: xs, hg, ht, he => by
    have ih := cl_fm c f hw xs (fun y hy => hg y (List.mem_cons_of_mem _ hy)) (fun y hy => ht y (List.mem_cons_of_mem _ hy)) (fun y hy => he y (List.mem_cons_of_mem _ hy))
    have tx := ht x List.mem_cons_self
    cases q : c x with
    | true =>
      rw [q] at tx
      rw [List.filter_cons_of_pos q]
      exact .yes (hg x List.mem_cons_self) tx (he x List.mem_cons_self q) (by rw [hw x]; exact ih)
    | false =>
      rw [q] at tx
      rw [List.filter_cons_of_neg (by rw [q]; exact Bool.false_ne_true)]
      exact .no (hg x List.mem_cons_self) tx (by rw [hw x]; exact ih)
def scn (f : S → α → β × S) : S → List α → List β × S
  | s, [] => ([], s)
  | s, x :: xs => ((f s x).1 :: (scn f (f s x).2 xs).1, (scn f (f s x).2 xs).2)

theorem cl_scn (f : S → α → β × S) (I : S → Prop) (hI : ∀ s x, I s → I (f s x).2) {en : S → List Slot} {es : S → α → List Slot} (hw : ∀ s x, wipeE (es s x) vs = en s) (hz : ifs = []) (xs : List α) (s0 : S) (h0 : I s0) (hg : ∀ x ∈ xs, ∀ s0, I s0 → ∀ s H C cl fp, HG (blkX X scope s H C cl fp) tg (rv x) (en s0) (es s0 x) vs)
    (he : ∀ x ∈ xs, ∀ s0, I s0 → ∀ s H C cl fp, HE (blkX X scope s H C cl fp) elt (es s0 x) (es (f s0 x).2 x) (rv (f s0 x).1)) : Cl X scope tg elt ifs vs (rvs xs) (en s0) (rvs (scn f s0 xs).1) (en (scn f s0 xs).2) := by
  subst hz
  induction xs generalizing s0 with
  | nil => exact .nil
  | cons x xs ih =>
    have ih := ih (f s0 x).2 (hI s0 x h0) (fun y hy => hg y (List.mem_cons_of_mem _ hy)) (fun y hy => he y (List.mem_cons_of_mem _ hy))
    exact .yes (hg x List.mem_cons_self s0 h0) (fun _ _ _ _ _ => hts_nil) (he x List.mem_cons_self s0 h0) (by rw [hw]; exact ih)
end
section
variable {X : Cx} {We : WX} {env env1 env2 : List Slot} {P : VP} {e : Expr} {es : List Expr} {p pos : Pos} {x : Str} {k : Nat} {ps : List Str} {A : Type} {pre : A → Prop} {ins : A → List Slot} {out : A → FO} {Ps : List VP}
/-- f(xs, e, ..), xs a list of ours that it may change -/
theorem he_call1E {α : Type} [Rp α] {mk : List α → Slot} {xs : List α} {φ : List α → Prop} {y : Str} {q : Pos} (O : Own mk) (i : Nat) (D : Def X.prog X.w X.K X.mg X.base x k ps (Spq X.K pre ins out)) (a : A) (hpr : pre a) (hr : Rm k X.A) (ha : HA X es env env1 Ps) (h0 : ∃ zs, env[i]? = some (mk zs) := by exact ⟨_, rfl⟩) (h1 : env1[i]? = some (mk xs) := by rfl)
    (hi : ins a = par xs :: Ps.map im := by rfl) (ho : out a = .rt P [(0, exS par φ)] := by rfl) (hN : X.N[i]? = some y := by rfl) (hv : Vis X.env.scope y := by first | exact Or.inl rfl | exact Or.inr (Or.inl rfl) | exact Or.inr (Or.inr rfl)) (hd : (y == ("__debug__" : Str)) = false := by decide) (hcd : (y == ("__classdict__" : Str)) = false := by decide)
    (hg : Gl X x := by rfl) (hdb : (x == ("__debug__" : Str)) = false := by decide)
    (hst : starEach (.Name y q :: es) X.env = (false, eval (.Name y q) X.env) :: starEach es X.env := by rfl) (hpl : (backTo pos (starEach es X.env)).any (·.1) = false := by rfl) : HE X (.Call (.Name x p) (.Name y q :: es) [] pos) env (env1.set i (exS mk φ)) P := by
  obtain ⟨f, fd, F, hm, hk, hb⟩ := D.ex
  obtain ⟨zs, h0⟩ := h0
  refine (pe_callG F hr hg hm hk hb (fun _ => passN) (pa_cons (pe_own O i h0 hN hv hd hcd) ha hst) hdb hst hpl).imp fun σ H Q ⟨w, e1, R1, q⟩ => ⟨w, e1, R1, fun b hb => ⟨w, rfl, R1, fun vs w' R' l al => ?_⟩⟩
  obtain ⟨us, h3, h4, h5, h6⟩ := R'.own O h1 hb
  obtain ⟨hn, _⟩ := R'.ok.ho b i h4
  let wc : Wd := { Hi := w'.Hi, H := w'.H, O := fun c => if c = b then some 0 else none, pa := fun j => if j = 0 then some b else none }
  have okc : wc.Ok := ⟨R'.ok.sub, fun c j h => by
    by_cases z : c = b
    · subst z
      exact ⟨hn, fun z => by rw [show wc.H c = w'.H c from rfl, h5] at z; cases z⟩
    · have : (if c = b then some 0 else none) = some j := h
      rw [if_neg z] at this
      cases this⟩
  refine ⟨⟨a, hpr⟩, wc, rfl, ?_, ?_⟩
  · show Rep _ (ins a) _ _
    rw [hi]
    have R2 := rep_ims (K := X.K) (w := wc) okc al
    refine ⟨okc, by rw [List.map_cons, List.length_cons, List.length_cons, R2.len], fun j s hs => ?_⟩
    cases j with
    | zero =>
      simp at hs
      subst hs
      exact ⟨some (.ref b), rfl, b, us, rfl, rfl, if_pos rfl, h5, h6⟩
    | succ j =>
      obtain ⟨z, h7, h8⟩ := R2.sl j s (by simpa using hs)
      refine ⟨z, by simpa using h7, ?_⟩
      rw [List.getElem?_cons_succ, List.getElem?_map] at hs
      cases qq : Ps[j]? with
      | none => rw [qq] at hs; cases hs
      | some P' =>
        rw [qq] at hs
        cases hs
        exact h8
  · show FO.sat _ _ _ _ (out a)
    rw [ho]
    intro v w2 ok2 l2 hp pv
    obtain ⟨z, ys, hys, c, ws, h7, h8, h9, h10, h11⟩ := hp (0, exS par φ) List.mem_cons_self
    have ecb : c = b := by
      rw [l2.pa] at h8
      have : some b = some c := h8
      exact (Option.some.inj this).symm
    subst ecb
    have kp : ∀ d o, d ≠ c → w'.H d = some o → w2.H d = some o ∧ w2.Hi d = w'.Hi d := fun d o nd h => by
      obtain ⟨g1, _, g3⟩ := l2.kp d o h (if_neg nd)
      exact ⟨g1, g3⟩
    have ok3 : (w'.out w2).Ok := ⟨ok2.sub, fun d j h => by
      by_cases z : d = c
      · subst z
        exact ⟨(ok2.ho d 0 h9).1, fun z => by rw [show (w'.out w2).H d = w2.H d from rfl, h10] at z; cases z⟩
      · obtain ⟨g1, g2⟩ := R'.ok.ho d j h
        cases q : w'.H d with
        | none => exact absurd q g2
        | some o =>
          obtain ⟨g3, g4⟩ := kp d o z q
          exact ⟨g4.trans g1, fun z => by rw [show (w'.out w2).H d = w2.H d from rfl, g3] at z; cases z⟩⟩
    refine q v (w'.out w2) ⟨ok3, by rw [List.length_set]; exact R'.len, fun j s hs => ?_⟩ (l.trans ⟨l2.hi, fun d o h k => ?_, l2.dm, rfl⟩) pv
    · by_cases z : i = j
      · subst z
        have hlt : i < env1.length := (List.getElem?_eq_some_iff.mp h1).1
        rw [List.getElem?_set_self hlt] at hs
        cases hs
        exact ⟨_, hb, ys, hys, O.put h3 rfl h4 h10 h11 rfl⟩
      · rw [List.getElem?_set_ne z] at hs
        obtain ⟨t, g1, g2⟩ := R'.sl j s hs
        refine ⟨t, g1, s.mono g2 l2.hi (fun d hd => ⟨hd, ?_⟩) rfl⟩
        have nd : d ≠ c := fun zz => by
          subst zz
          rw [h4] at hd
          cases hd
          exact z rfl
        cases q : w'.H d with
        | none => exact absurd q (R'.ok.ho d j hd).2
        | some o => exact (kp d o nd q).1
    · have nd : d ≠ c := fun zz => by
        subst zz
        rw [h4] at k
        cases k
      exact ⟨(kp d o nd h).1, k, (kp d o nd h).2⟩
end
/-! ### is a row empty -/
section
variable {X : Cx} {env env1 : List Slot} {a : Expr} {α : Type} [Rp α]
theorem emp_len {K : PySem.W.Frag} {H : Hp} {xs : List α} {vs : List V} (h : Al α K H xs vs) : vs.isEmpty = xs.isEmpty := by
  have e := h.len
  cases vs <;> cases xs <;> simp_all
theorem hb_truS {xs : Lsr α} (h : HE X a env env1 (rv xs)) (he : ∀ whole, isTrue a X.env whole = (do let v ← whole; standAt a.pos; holding [v] (truthy v)) := by intro _; rfl) : HB X a env env1 (!xs.l.isEmpty) :=
  hb_tru h (fun v w ok ⟨t, vs, e1, h1, h2⟩ => by rw [e1]; exact .inl ⟨vs, Ex.l ok.sub h1, by rw [emp_len h2]⟩) he
theorem hb_truL {xs : Lst α} (h : HE X a env env1 (rv xs)) (he : ∀ whole, isTrue a X.env whole = (do let v ← whole; standAt a.pos; holding [v] (truthy v)) := by intro _; rfl) : HB X a env env1 (!xs.l.isEmpty) :=
  hb_tru h (fun v w ok ⟨t, vs, e1, h1, h2⟩ => by rw [e1]; exact .inl ⟨vs, SqL.of (ok.sub _ _ h1), by rw [emp_len h2]⟩) he
theorem hb_truT {xs : List α} (h : HE X a env env1 (rv xs)) (he : ∀ whole, isTrue a X.env whole = (do let v ← whole; standAt a.pos; holding [v] (truthy v)) := by intro _; rfl) : HB X a env env1 (!xs.isEmpty) :=
  hb_tru h (fun v w ok ⟨t, vs, e1, h1, h2⟩ => by rw [e1]; exact .inr (.inl ⟨vs, Ex.t ok.sub h1, by rw [emp_len h2]⟩)) he
end
/-! ### chains asked -/
section
variable {X : Cx} {env env1 env2 : List Slot} {a b c : Expr} {pos : Pos} {i j k : Int} {op op' : CmpOp} {f g : Int → Int → Bool}
theorem hb_chain (ho : OpR X (compareOp op) (rI0 fun i j => .bl (f i j))) (ho' : OpR X (compareOp op') (rI0 fun i j => .bl (g i j))) (ha : HE X a env env1 (rv i)) (hb : HE X b env1 env2 (rv j)) (hc : HE X c env2 env2 (rv k)) (hm : lastMarks [op, op'] [b, c] = false) :
    HB X (.Compare a [op, op'] [b, c] pos) env env2 (f i j && g j k) :=
  (pt_chain ho ho' ha hb hc hm).imp fun σ H Q ⟨w, e1, R1, q⟩ => to_chain (f := f) (g := g) rfl rfl rfl rfl σ H _ ⟨w, e1, R1, fun v w' R' l p => ⟨_, p, q w' R' l⟩⟩
theorem hb_leLe (ha : HE X a env env1 (rv i)) (hb : HE X b env1 env2 (rv j)) (hc : HE X c env2 env2 (rv k)) (hm : lastMarks [.LtE, .LtE] [b, c] = false := by with_unfolding_all rfl) : HB X (.Compare a [.LtE, .LtE] [b, c] pos) env env2 (decide (i ≤ j) && decide (j ≤ k)) := hb_chain op_le op_le ha hb hc hm
theorem hb_leLt (ha : HE X a env env1 (rv i)) (hb : HE X b env1 env2 (rv j)) (hc : HE X c env2 env2 (rv k)) (hm : lastMarks [.LtE, .Lt] [b, c] = false := by with_unfolding_all rfl) : HB X (.Compare a [.LtE, .Lt] [b, c] pos) env env2 (decide (i ≤ j) && decide (j < k)) := hb_chain op_le op_lt ha hb hc hm
theorem hb_ltLt (ha : HE X a env env1 (rv i)) (hb : HE X b env1 env2 (rv j)) (hc : HE X c env2 env2 (rv k)) (hm : lastMarks [.Lt, .Lt] [b, c] = false := by with_unfolding_all rfl) : HB X (.Compare a [.Lt, .Lt] [b, c] pos) env env2 (decide (i < j) && decide (j < k)) := hb_chain op_lt op_lt ha hb hc hm
theorem hb_ltLe (ha : HE X a env env1 (rv i)) (hb : HE X b env1 env2 (rv j)) (hc : HE X c env2 env2 (rv k)) (hm : lastMarks [.Lt, .LtE] [b, c] = false := by with_unfolding_all rfl) : HB X (.Compare a [.Lt, .LtE] [b, c] pos) env env2 (decide (i < j) && decide (j ≤ k)) := hb_chain op_lt op_le ha hb hc hm
end
/-! ### loops by invariant -/
section
variable {X : Cx} {We : WX} {env env1 env2 : List Slot} {c tg iter e : Expr} {body r A B : List Stmt} {pos : Pos} {oc : Oc} {β S : Type}
/-- a slot's content, seen as any of its kind -/
theorem hs_abs (i : Nat) (mk : β → Slot) (φ : β → Prop) {b : β} (hb : φ b) (hi : env[i]? = some (mk b) := by rfl) (h : ∀ b, φ b → HSs X We r (env.set i (mk b)) oc) : HSs X We r env oc := by
  have q := h b hb
  rwa [set_same hi] at q
theorem st_if1 {k : Bool} (hc : HB X e env env1 k) (hk : k = true) (h : HSs X We A env1 oc) : HS X We (.If e A B pos) env oc := st_if hc (fun _ => h) fun z => by rw [hk] at z; cases z
theorem st_if0 {k : Bool} (hc : HB X e env env1 k) (hk : k = false) (h : HSs X We B env1 oc) : HS X We (.If e A B pos) env oc := st_if hc (fun z => by rw [hk] at z; cases z) fun _ => h
theorem hs_whileE (en : S → List Slot) (I J : S → Prop) (m : S → Nat) (hp : PassesOwn (model X.prog X.w) X.A X.env X.xe)
    (step : ∀ s, I s → (HB X c (en s) (en s) false ∧ J s) ∨ ∃ e1 s', HB X c (en s) e1 true ∧ HSs X We body e1 (.nx (en s')) ∧ I s' ∧ m s' < m s) (s0 : S) (h0 : I s0) (rest : ∀ s, J s → HSs X We r (en s) oc) : HSs X We (.While c body [] pos :: r) (en s0) oc := by
  have key : ∀ n s, m s ≤ n → I s → ∃ s', J s' ∧ Wl X We c body (en s) (.nx (en s')) := by
    intro n
    induction n with
    | zero =>
      intro s hm hs
      rcases step s hs with ⟨h1, h2⟩ | ⟨e1, s', h1, h2, h3, h4⟩
      · exact ⟨s, h2, wl_done h1⟩
      · omega
    | succ n ih =>
      intro s hm hs
      rcases step s hs with ⟨h1, h2⟩ | ⟨e1, s', h1, h2, h3, h4⟩
      · exact ⟨s, h2, wl_done h1⟩
      · obtain ⟨s2, h5, h6⟩ := ih s' (by omega) h3
        exact ⟨s2, h5, wl_turn h1 h2 h6⟩
  obtain ⟨s', h1, h2⟩ := key (m s0) s0 (Nat.le_refl _) h0
  exact hs_cons (st_while hp h2) (rest s' h1)
theorem hs_forE {α : Type} [Rp α] (xs : List α) (en : S → List Slot) (I : Nat → S → Prop) (s0 : S) (hp : PassesOwn (model X.prog X.w) X.A X.env X.xe) (hc : X.calm = true) (hi : HI X tg iter env (en s0) (rvs xs)) (h0 : I 0 s0)
    (step : ∀ i x s, xs[i]? = some x → I i s → ∃ e1 is s', HG X tg (rv x) (en s) e1 is ∧ HSs X We body e1 (.nx (en s')) ∧ I (i + 1) s') (rest : ∀ s, I xs.length s → HSs X We r (en s) oc) (hs : ∀ x, foldedSetIterable iter X.env x = pure x := by intro _; rfl) : HSs X We (.For tg iter body [] pos :: r) env oc := by
  have key : ∀ (ys : List α) (k : Nat) (s : S), I k s → (∀ i, ys[i]? = xs[k + i]?) → ∃ s', I (k + ys.length) s' ∧ Lp X We tg body (rvs ys) (en s) (.nx (en s')) := by
    intro ys
    induction ys with
    | nil => exact fun k s h _ => ⟨s, h, .nil⟩
    | cons y ys ih =>
      intro k s h hy
      obtain ⟨e1, is, s1, h1, h2, h3⟩ := step k y s (by have := hy 0; simpa using this.symm) h
      obtain ⟨s2, h4, h5⟩ := ih (k + 1) s1 h3 fun i => by
        have := hy (i + 1)
        rw [show k + (i + 1) = k + 1 + i by omega] at this
        simpa using this
      exact ⟨s2, by rw [List.length_cons, show k + (ys.length + 1) = k + 1 + ys.length by omega]; exact h4, .cons h1 h2 h5⟩
  obtain ⟨s', h1, h2⟩ := key xs 0 s0 h0 fun i => by rw [Nat.zero_add]
  rw [Nat.zero_add] at h1
  exact hs_cons (st_for hp hc hi h2 hs) (rest s' h1)
end
theorem getD_mem {α : Type} {xs : List α} {i : Nat} {d : α} (h : i < xs.length) : xs.getD i d ∈ xs := by
  rw [List.getD_eq_getElem?_getD, List.getElem?_eq_getElem h]
  exact List.getElem_mem h
theorem he_catTE {X : Cx} {env env1 env2 : List Slot} {a b : Expr} {pos : Pos} {α : Type} [Rp α] {xs : List α} {φ : List α → Prop} (hz : ∀ ys, φ ys → xs.length + ys.length ≤ 100000) (ha : HE X a env env1 (rv xs)) (hb : HE X b env1 env2 (exP φ)) : HE X (.BinOp a .Add b pos) env env2 (exP fun zs => ∃ ys, φ ys ∧ zs = xs ++ ys) :=
  (pe_op op_catA ha hb).imp fun σ H Q ⟨w, e1, R1, q⟩ => ⟨w, e1, R1, fun x w1 R2 l1 p1 => ⟨w1, rfl, R2, fun y w2 R3 l2 ⟨ys, hy, p2⟩ =>
    ov_catT (hz ys hy) env2 σ x y w2 R3 (Rp.mono l2.hi p1) p2 Q fun v w3 R4 l3 p3 => q v w3 R4 ((l1.trans l2).trans l3) ⟨xs ++ ys, ⟨ys, hy, rfl⟩, p3⟩⟩⟩
section
variable {X : Cx} {We : WX} {env env1 env2 env3 envf envo : List Slot} {P R : VP} {a b e elt tg iter : Expr} {es : List Expr} {ifs : List Expr} {scope : Scope} {own' : List (Str × Nat)} {p pos spos : Pos} {xs : List VP} {α : Type} [Rp α]
/-- name = [..]: the list is one's own -/
theorem st_ownLc (i : Nat) {y : Str} {py : Pos} {ys : List α} (hc : X.calm = true) (hN : X.N.Nodup) (hi : HI X tg iter env env1 xs) (ok : BlkOk X.N X.env.scope scope own') (hz : xs.length ≤ 100000) (cl : Cl X scope tg elt ifs (own'.map (·.2)) xs (wipeE env1 (own'.map (·.2))) (rvs ys) envf) (ho : LcEnv (own'.map (·.2)) env1 envf envo)
    (hy : X.N[i]? = some y := by rfl) (hyl : X.env.scope.names.lookup y = some .local := by rfl) (hsw : swapsWith (.ListComp elt [⟨tg, iter, ifs, 0⟩] scope pos) (some (.Name y py)) spos.line X.env = pure true := by rfl) (hs : ∀ x, foldedSetIterable iter X.env x = pure x := by intro _; rfl) :
    HS X We (.Assign [.Name y py] (.ListComp elt [⟨tg, iter, ifs, 0⟩] scope pos) spos) env (.nx (envo.set i (own ys))) :=
  (ps_setLc (g := cG X scope tg (own'.map (·.2))) (tt := cT X scope ifs) (te := cE X scope elt) hc hN hy hyl hsw hi ok (fun _ _ _ _ _ => ⟨fun pins s σ H v u Q I r ⟨_, _, _, h, q⟩ => (h _ _ _ _ _).run pins s σ H v u Q I r q⟩) (fun _ _ _ _ _ => ⟨fun pins s σ H Q I ⟨_, _, _, h, q⟩ => (h _ _ _ _ _).run pins s σ H Q I q⟩)
    (fun _ _ _ _ _ => ⟨fun pins s σ H Q I ⟨_, _, _, h, q⟩ => (h _ _ _ _ _).run pins s σ H Q I q⟩) hs).imp fun D σ H ⟨w, e1, R1, q⟩ =>
    to_lc hz cl ho σ H _ ⟨w, e1, R1, fun p vs w' R' l hp al => q _ (w'.new i p (.lst vs)) ((R'.new hp).set ⟨p, vs, rfl, if_pos rfl, upd_same, alP_al al⟩) (l.trans (new_le R'.ok hp))⟩
/-- xs[::-1], a list -/
theorem hl_revL {ys : Lst α} {k : Nat} {p1 p2 p3 : Pos} (he : HE X e env env1 (rv ys)) : HL X (.Subscript e (.Slice none none (some (.UnaryOp .USub (.Constant (.int 1) k p1) p2)) p3) pos) env env1 ys.l.reverse :=
  (pe_revL he).imp fun σ H Q ⟨w, e1, R1, q⟩ => ⟨w, e1, R1, fun v w' R' l ⟨t, vs, e2, h1, h2⟩ => ⟨t, vs, e2, SqL.of (R'.ok.sub _ _ h1), fun p hp => q p _ w' R' l hp h2.rev⟩⟩
/-- xs * 1 -/
theorem hl_rep1 {ys : Lst α} (hz : ys.l.length ≤ 100000) (ha : HE X a env env1 (rv ys)) (hb : HE X b env1 env2 (rv (1 : Int))) : HL X (.BinOp a .Mult b pos) env env2 ys.l :=
  (pe_op op_rep ha hb).imp fun σ H Q ⟨w, e1, R1, q⟩ => ⟨w, e1, R1, fun v w1 R2 l1 ⟨t, vs, e2, h1, h2⟩ => ⟨w1, rfl, R2, fun u w2 R3 l2 hu => by
    refine ⟨t, 1, vs, e2, hu, R3.ok.sub _ _ (l2.hi _ _ h1), by decide, by decide, ?_, fun p hp => ?_⟩
    · have := h2.len
      rw [this]
      show ys.l.length * 1 ≤ _
      exact Nat.le_trans (by omega : ys.l.length * 1 ≤ 100000) (by decide)
    · have e3 : (List.replicate (1 : Int).toNat vs).flatten = vs := by
        show (List.replicate 1 vs).flatten = vs
        simp
      rw [e3]
      exact q p vs w2 R3 (l1.trans l2) hp (h2.mono l2.hi)⟩⟩
/-- a, b = a row of two -/
theorem hg_two {x y : α} {ea eb : Expr} {k : Nat} {is js : List Nat} (hc : X.calm = true) (ha : HG X ea (rv x) env env1 is) (hb : HG X eb (rv y) env1 env2 js)
    (hs : (assignEach [ea, eb] X.env).map (·.2) = assign ea X.env :: (assignEach [eb] X.env).map (·.2) := by rfl) (hs2 : (assignEach [eb] X.env).map (·.2) = assign eb X.env :: (assignEach [] X.env).map (·.2) := by rfl)
    (hn : (assignEach [ea, eb] X.env).length = 2 := by rfl) (hst : (assignEach [ea, eb] X.env).findIdx? (·.1) = none := by rfl) : HG X (.Tuple [ea, eb] k pos) (rv [x, y]) env env2 (is ++ js) :=
  (pg_tup hc (pgs_cons ha (pgs_cons hb pgs_nil hs2) hs) hn hst).imp fun v σ H Q ⟨w, e1, R1, ⟨t, vs, e2, h1, u, r, e3, h2, z, r2, e4, h3, e5⟩, q⟩ => by
    subst e1 e3 e4
    rw [show r2 = [] from e5] at h1
    exact ⟨t, [u, z], e2, Ex.t R1.ok.sub h1, rfl, u, [z], rfl, w, rfl, R1, h2, fun σ' w' R' l B1 => ⟨z, [], rfl, w', rfl, R', Rp.mono l.hi h3, fun σ2 w2 R2 l2 B2 => ⟨rfl, q σ2 w2 R2 (l.trans l2) (B1.trans B2)⟩⟩⟩
/-! sums of lists of which one is one of many -/
theorem he_catLE {xs : Lst α} {φ : Lst α → Prop} (hz : ∀ ys, φ ys → xs.l.length + ys.l.length ≤ 100000) (ha : HE X a env env1 (rv xs)) (hb : HE X b env1 env2 (exP φ)) : HE X (.BinOp a .Add b pos) env env2 (exP fun zs : Lst α => ∃ ys, φ ys ∧ zs = ⟨xs.l ++ ys.l⟩) :=
  (pe_op op_cat ha hb).imp fun σ H Q ⟨w, e1, R1, q⟩ => ⟨w, e1, R1, fun v w1 R2 l1 ⟨t, vs, e1, h1, h2⟩ => ⟨w1, rfl, R2, fun u w2 R3 l2 ⟨ys, hy, t2, ws, e2, h3, h4⟩ =>
    ⟨t, t2, vs, ws, e1, e2, R3.ok.sub _ _ (l2.hi _ _ h1), R3.ok.sub _ _ h3, by rw [h2.len, h4.len]; exact Nat.le_trans (hz ys hy) (by decide), fun p hp => by
      have h5 := (R3.ok.fresh hp).1
      exact q _ (w2.add p (.lst (vs ++ ws))) (R3.add hp) ((l1.trans l2).trans (add_le R3.ok hp)) ⟨_, ⟨ys, hy, rfl⟩, p, _, rfl, upd_same, ((h2.mono l2.hi).app h4).mono (Ex.new h5)⟩⟩⟩⟩
theorem he_catEL {xs : Lst α} {φ : Lst α → Prop} (hz : ∀ ys, φ ys → ys.l.length + xs.l.length ≤ 100000) (ha : HE X a env env1 (exP φ)) (hb : HE X b env1 env2 (rv xs)) : HE X (.BinOp a .Add b pos) env env2 (exP fun zs : Lst α => ∃ ys, φ ys ∧ zs = ⟨ys.l ++ xs.l⟩) :=
  (pe_op op_cat ha hb).imp fun σ H Q ⟨w, e1, R1, q⟩ => ⟨w, e1, R1, fun v w1 R2 l1 ⟨ys, hy, t, vs, e1, h1, h2⟩ => ⟨w1, rfl, R2, fun u w2 R3 l2 ⟨t2, ws, e2, h3, h4⟩ =>
    ⟨t, t2, vs, ws, e1, e2, R3.ok.sub _ _ (l2.hi _ _ h1), R3.ok.sub _ _ h3, by rw [h2.len, h4.len]; exact Nat.le_trans (hz ys hy) (by decide), fun p hp => by
      have h5 := (R3.ok.fresh hp).1
      exact q _ (w2.add p (.lst (vs ++ ws))) (R3.add hp) ((l1.trans l2).trans (add_le R3.ok hp)) ⟨_, ⟨ys, hy, rfl⟩, p, _, rfl, upd_same, ((h2.mono l2.hi).app h4).mono (Ex.new h5)⟩⟩⟩⟩
theorem he_tupleLE {φ : Lst α → Prop} (h : HE X e env env1 (exP φ)) (hm : X.mg "tuple" = none) (hg : Gl X "tuple" := by rfl) (hs : starEach [e] X.env = (false, eval e X.env) :: starEach [] X.env := by rfl) (hpl : (backTo pos (starEach [] X.env)).any (·.1) = false := by rfl) :
    HE X (.Call (.Name "tuple" p) [e] [] pos) env env1 (exP fun zs : List α => ∃ ys, φ ys ∧ zs = ys.l) :=
  (pe_callTy call_tuple_of hg hm (by decide +kernel) (pa_cons h pa_nil hs) (he := hs) (hpl := hpl)).imp fun σ H Q ⟨w, e1, R1, q⟩ => ⟨w, e1, R1, fun v w' R' l ⟨ys, hy, t, vs, e2, h1, h2⟩ => by
    refine ⟨t, vs, by rw [e2], .inl ⟨SqL.of (R'.ok.sub _ _ h1), fun p hp => ?_⟩⟩
    have h5 := (R'.ok.fresh hp).1
    exact q _ (w'.add p (.tup vs)) (R'.add hp) (l.trans (add_le R'.ok hp)) ⟨_, ⟨ys, hy, rfl⟩, p, vs, rfl, SqT.of upd_same, h2.mono (Ex.new h5)⟩⟩
/-- f(e), e one of many, all of them taken -/
theorem he_callX {x : Str} {k : Nat} {ps : List Str} {pre : α → Prop} {ins : α → List Slot} {out : α → FO} {φ : α → Prop} (D : Def X.prog X.w X.K X.mg X.base x k ps (Spq X.K pre ins out)) (hpr : ∀ x, φ x → pre x) (hr : Rm k X.A) (ha : HE X e env env1 (exP φ)) (hi : ∀ x, ins x = [im (rv x)] := by intro _; rfl) (ho : ∀ x, out x = .rt P [] := by intro _; rfl) (hg : Gl X x := by rfl) (hdb : (x == ("__debug__" : Str)) = false := by decide)
    (hst : starEach [e] X.env = (false, eval e X.env) :: starEach [] X.env := by rfl) (hpl : (backTo pos (starEach [] X.env)).any (·.1) = false := by rfl) : HE X (.Call (.Name x p) [e] [] pos) env env1 P := by
  obtain ⟨f, fd, F, hm, hk, hb⟩ := D.ex
  refine (pe_callG F hr hg hm hk hb (fun _ => passN) (pa_cons ha pa_nil hst) hdb hst hpl).imp fun σ H Q ⟨w, e1, R1, q⟩ => ⟨w, e1, R1, fun v w' R' l ⟨y, hy, pv⟩ => ?_⟩
  refine ⟨⟨y, hpr y hy⟩, w'.in0, rfl, ?_, ?_⟩
  · show Rep _ (ins y) _ _
    rw [hi]
    exact rep_ims (Ps := [rv y]) (vs := [v]) (in0_ok R'.ok) ⟨v, [], rfl, pv, rfl⟩
  · show FO.sat _ _ _ _ (out y)
    rw [ho]
    intro v w2 ok l2 _ pv
    obtain ⟨R3, l3⟩ := out_rep R' ok l2
    exact q v (w'.out w2) R3 (l.trans l3) pv
/-- a return whose value is one of many -/
theorem st_retX {φ ψ : α → Prop} {fin : List Slot} (he : HE X e env env1 (exP φ)) (hx : ∀ x, φ x → ψ x) (k : Wkn env1 fin) : HS X We (.Return (some e) pos) env (.rt (exP ψ) fin) :=
  (st_ret (We := We) (pos := pos) he).imp fun D σ H ⟨w, e1, R1, q⟩ => ⟨w, e1, R1, fun σ v w' R' l ⟨x, h1, h2⟩ => q σ v w' (R'.wkn k) l ⟨x, hx x h1, h2⟩⟩
/-- name += e, name -= e, whole numbers -/
theorem st_augAdd (i : Nat) {u v : Int} {x : Str} {pos' : Pos} (h0 : env[i]? = some (im (rv u))) (he : HE X e env env1 (rv v)) (hN : X.N.Nodup) (hi : X.N[i]? = some x := by rfl) (hx : Loc X.env.scope x := by first | exact Or.inl rfl | exact Or.inr rfl)
    (hf : X.fn x = true ∨ X.env.scope.names.lookup x = some .local := by first | exact .inl rfl | exact .inr rfl | assumption) : HS X We (.AugAssign (.Name x pos') .Add e pos) env (.nx (env1.set i (im (rv (u + v))))) :=
  (ps_aug hN hi hx he ip_add hf).imp fun D σ H ⟨w, e1, R1, q⟩ => by
    obtain ⟨z, hz, y, ey, hy⟩ := R1.sl i _ h0
    subst ey
    exact ⟨y, hz, w, e1, R1, fun t w' R' l p => ⟨u, v, hy, p, q _ w' (R'.set (s := im (rv (u + v))) ⟨_, rfl, rfl⟩) l⟩⟩
theorem st_augSub (i : Nat) {u v : Int} {x : Str} {pos' : Pos} (h0 : env[i]? = some (im (rv u))) (he : HE X e env env1 (rv v)) (hN : X.N.Nodup) (hi : X.N[i]? = some x := by rfl) (hx : Loc X.env.scope x := by first | exact Or.inl rfl | exact Or.inr rfl)
    (hf : X.fn x = true ∨ X.env.scope.names.lookup x = some .local := by first | exact .inl rfl | exact .inr rfl | assumption) : HS X We (.AugAssign (.Name x pos') .Sub e pos) env (.nx (env1.set i (im (rv (u - v))))) :=
  (ps_aug hN hi hx he ip_sub hf).imp fun D σ H ⟨w, e1, R1, q⟩ => by
    obtain ⟨z, hz, y, ey, hy⟩ := R1.sl i _ h0
    subst ey
    exact ⟨y, hz, w, e1, R1, fun t w' R' l p => ⟨u, v, hy, p, q _ w' (R'.set (s := im (rv (u - v))) ⟨_, rfl, rfl⟩) l⟩⟩
end
def tEAny (X : Cx) (e : Expr) : TE := fun σ H Q => ∃ env env' P, HE X e env env' P ∧ tE X.K env env' P σ H Q
theorem pe_any {X : Cx} {e : Expr} : PE X e (tEAny X e) := ⟨fun pins s σ H Q I ⟨_, _, _, h, q⟩ => h.run pins s σ H Q I q⟩
theorem he_open {X : Cx} {env env2 : List Slot} {P : VP} {e : Expr} {β : Type} {mk : β → Slot} {φ : β → Prop} (i : Nat) (hi : env[i]? = some (exS mk φ)) (h : ∀ b, φ b → HE X e (env.set i (mk b)) env2 P) : HE X e env env2 P :=
  (pe_any (e := e)).imp fun σ H Q ⟨w, e1, R1, q⟩ => by
    obtain ⟨x, hx, b, hb, hp⟩ := R1.sl i _ hi
    have R2 := R1.set (i := i) (s := mk b) (x := x) hp
    rw [set_same hx] at R2
    exact ⟨_, _, _, h b hb, w, e1, R2, q⟩
theorem scn_len {α β S : Type} (f : S → α → β × S) : ∀ (xs : List α) (s : S), (scn f s xs).1.length = xs.length
  | [], _ => rfl
  | _ :: xs, s => by rw [scn, List.length_cons, List.length_cons, scn_len f xs]
theorem scn_all {α β S : Type} (f : S → α → β × S) (I : S → Prop) (φ : β → Prop) (hI : ∀ s x, I s → I (f s x).2) (hφ : ∀ s x, I s → φ (f s x).1) : ∀ (xs : List α) (s : S), I s → (∀ y ∈ (scn f s xs).1, φ y) ∧ I (scn f s xs).2
  | [], _, h => ⟨fun y hy => by simp [scn] at hy, h⟩
  | x :: xs, s, h => by
    obtain ⟨h1, h2⟩ := scn_all f I φ hI hφ xs (f s x).2 (hI s x h)
    refine ⟨fun y hy => ?_, h2⟩
    rw [scn, List.mem_cons] at hy
    rcases hy with hy | hy
    · rw [hy]; exact hφ s x h
    · exact h1 y hy
end BC

namespace BC
/-! ### rows struck: the plain part -/
def stk (k : List Int) (c : Int) : List Int := if k.length > 1 ∧ (k.getD (k.length - 2) 0) = c then k.dropLast else k ++ [c]
def struckM (row : List Int) : List Int := row.foldl stk []
def turnsM (row : List Int) : List Int := (List.filter (fun (at' : Int) => decide (row.getD (at' - 1).toNat 0 = row.getD (at' + 1).toNat 0)) (rng 1 ((row.length : Int) - 1 - 1).toNat)).map id
def RowOk (row : List Int) : Prop := 1 ≤ row.length ∧ row.length ≤ 200 ∧ ∀ c ∈ row, 0 ≤ c ∧ c < 8
/-- no two like a place apart -/
def Rd (l : List Int) : Prop := ∀ i, i + 2 < l.length → l.getD i 0 ≠ l.getD (i + 2) 0
inductive Sks : Nat → List Int → List Int → Prop
  | refl (l : List Int) : Sks 0 l l
  | step {n : Nat} (p : List Int) (a b : Int) (q : List Int) {r : List Int} : Sks n (p ++ a :: q) r → Sks (n + 1) (p ++ a :: b :: a :: q) r
theorem Sks.trans {n m : Nat} {a b c : List Int} (h : Sks n a b) (k : Sks m b c) : Sks (n + m) a c := by
  induction h with
  | refl l => rw [Nat.zero_add]; exact k
  | step p a b q h ih => rw [show ∀ n : Nat, n + 1 + m = n + m + 1 by intro n; omega]; exact .step p a b q (ih k)
theorem Sks.one (p : List Int) (a b : Int) (q : List Int) : Sks 1 (p ++ a :: b :: a :: q) (p ++ a :: q) := .step p a b q (.refl _)
theorem Sks.len {n : Nat} {a b : List Int} (h : Sks n a b) : a.length = b.length + 2 * n := by
  induction h with
  | refl l => rfl
  | step p a b q h ih => simp at ih ⊢; omega
theorem Sks.mem {n : Nat} {a b : List Int} (h : Sks n a b) : ∀ x ∈ b, x ∈ a := by
  induction h with
  | refl l => exact fun _ h => h
  | step p a b q h ih =>
    intro x hx
    have := ih x hx
    simp at this ⊢
    rcases this with h | h | h <;> simp [h]
theorem Sks.ne {n : Nat} {a b : List Int} (h : Sks n a b) (ha : a ≠ []) : b ≠ [] := by
  induction h with
  | refl l => exact ha
  | step p a b q h ih => exact ih (by simp)
theorem Sks.rev {n : Nat} {a b : List Int} (h : Sks n a b) : Sks n a.reverse b.reverse := by
  induction h with
  | refl l => exact .refl _
  | step p a b q h ih =>
    rw [show (p ++ a :: b :: a :: q).reverse = q.reverse ++ a :: b :: a :: p.reverse by simp]
    rw [show (p ++ a :: q).reverse = q.reverse ++ a :: p.reverse by simp] at ih
    exact .step _ _ _ _ ih
theorem Sks.app {n : Nat} {a b : List Int} (h : Sks n a b) (x y : List Int) : Sks n (x ++ a ++ y) (x ++ b ++ y) := by
  induction h with
  | refl l => exact .refl _
  | step p a b q h ih =>
    rw [show x ++ (p ++ a :: b :: a :: q) ++ y = (x ++ p) ++ a :: b :: a :: (q ++ y) by simp]
    rw [show x ++ (p ++ a :: q) ++ y = (x ++ p) ++ a :: (q ++ y) by simp] at ih
    exact .step _ _ _ _ ih
theorem Sks.head {n : Nat} {a b : List Int} (h : Sks n a b) : a.getD 0 0 = b.getD 0 0 := by
  induction h with
  | refl l => rfl
  | step p a b q h ih => rw [← ih]; cases p <;> simp
theorem Sks.last {n : Nat} {a b : List Int} (h : Sks n a b) : a.getD (a.length - 1) 0 = b.getD (b.length - 1) 0 := by
  have h2 := h.rev.head
  have key : ∀ l : List Int, l.reverse.getD 0 0 = l.getD (l.length - 1) 0 := by
    intro l
    cases l with
    | nil => rfl
    | cons x xs =>
      rw [List.getD_eq_getElem?_getD, List.getD_eq_getElem?_getD, List.getElem?_reverse (by simp)]
      simp
  rw [key, key] at h2
  exact h2
/-! the stack -/
theorem last_two (k : List Int) (h : k.length > 1) : ∃ m a b, k = m ++ [a, b] ∧ k.getD (k.length - 2) 0 = a := by
  refine ⟨k.take (k.length - 2), k.getD (k.length - 2) 0, k.getD (k.length - 1) 0, ?_, rfl⟩
  refine List.ext_getElem? fun i => ?_
  by_cases h1 : i < k.length - 2
  · rw [List.getElem?_append_left (by rw [List.length_take]; omega), List.getElem?_take_of_lt h1]
  · rw [List.getElem?_append_right (by rw [List.length_take]; omega), List.length_take, show min (k.length - 2) k.length = k.length - 2 by omega]
    by_cases h2 : i = k.length - 2
    · subst h2
      simp [List.getD_eq_getElem?_getD, List.getElem?_eq_getElem (show k.length - 2 < k.length by omega)]
    · by_cases h3 : i = k.length - 1
      · subst h3
        rw [show k.length - 1 - (k.length - 2) = 1 by omega]
        simp [List.getD_eq_getElem?_getD, List.getElem?_eq_getElem (show k.length - 1 < k.length by omega)]
      · rw [List.getElem?_eq_none (by omega), List.getElem?_eq_none (by simp; omega)]
theorem stk_pop (m : List Int) (a b : Int) : stk (m ++ [a, b]) a = m ++ [a] := by
  unfold stk
  have h : (m ++ [a, b]).getD ((m ++ [a, b]).length - 2) 0 = a := by
    rw [List.getD_eq_getElem?_getD, List.getElem?_append_right (by simp)]
    simp
  rw [if_pos ⟨by simp, h⟩, show m ++ [a, b] = (m ++ [a]) ++ [b] by simp, List.dropLast_concat]
theorem stk_cases (k : List Int) (c : Int) : (∃ m b, k = m ++ [c, b] ∧ stk k c = m ++ [c]) ∨ (stk k c = k ++ [c] ∧ ¬ (k.length > 1 ∧ k.getD (k.length - 2) 0 = c)) := by
  by_cases h : k.length > 1 ∧ k.getD (k.length - 2) 0 = c
  · obtain ⟨m, a, b, h1, h2⟩ := last_two k h.1
    rw [h.2] at h2
    subst h2
    exact .inl ⟨m, b, h1, by rw [h1]; exact stk_pop m c b⟩
  · exact .inr ⟨by unfold stk; rw [if_neg h], h⟩
theorem stk_last (k : List Int) (c : Int) : ∃ m, stk k c = m ++ [c] := by
  rcases stk_cases k c with ⟨m, b, _, h⟩ | ⟨h, _⟩
  · exact ⟨m, h⟩
  · exact ⟨k, h⟩
theorem getD_app_l {p q : List Int} {i : Nat} (h : i < p.length) : (p ++ q).getD i 0 = p.getD i 0 := by
  rw [List.getD_eq_getElem?_getD, List.getD_eq_getElem?_getD, List.getElem?_append_left h]
theorem getD_app_r {p q : List Int} {i : Nat} (h : p.length ≤ i) : (p ++ q).getD i 0 = q.getD (i - p.length) 0 := by
  rw [List.getD_eq_getElem?_getD, List.getD_eq_getElem?_getD, List.getElem?_append_right h]
theorem Rd.pre {p q : List Int} (h : Rd (p ++ q)) : Rd p := fun i hi => by
  have := h i (by simp; omega)
  rwa [getD_app_l (by omega), getD_app_l hi] at this
theorem Rd.suf {p q : List Int} (h : Rd (p ++ q)) : Rd q := fun i hi => by
  have := h (p.length + i) (by simp; omega)
  rwa [getD_app_r (by omega), getD_app_r (by omega), show p.length + i - p.length = i by omega, show p.length + i + 2 - p.length = i + 2 by omega] at this
theorem Rd.no {p q : List Int} {a b : Int} (h : Rd (p ++ a :: b :: a :: q)) : False := by
  have := h p.length (by simp)
  rw [getD_app_r (by omega), getD_app_r (by omega)] at this
  simp at this
theorem Rd.push {k : List Int} {c : Int} (h : Rd k) (hn : ¬ (k.length > 1 ∧ k.getD (k.length - 2) 0 = c)) : Rd (k ++ [c]) := fun i hi => by
  rw [List.length_append] at hi
  simp at hi
  by_cases h1 : i + 2 < k.length
  · rw [getD_app_l (by omega), getD_app_l h1]
    exact h i h1
  · have e : i = k.length - 2 := by omega
    rw [getD_app_l (by omega), getD_app_r (by omega), e, show k.length - 2 + 2 - k.length = 0 by omega]
    exact fun z => hn ⟨by omega, z⟩
theorem Rd.stk {k : List Int} (h : Rd k) (c : Int) : Rd (stk k c) := by
  rcases stk_cases k c with ⟨m, b, h1, h2⟩ | ⟨h1, h2⟩
  · rw [h2]
    rw [h1, show m ++ [c, b] = (m ++ [c]) ++ [b] by simp] at h
    exact h.pre
  · rw [h1]
    exact h.push h2
theorem rd_fold (xs : List Int) : ∀ k, Rd k → Rd (xs.foldl BC.stk k) := by
  induction xs with
  | nil => exact fun k h => h
  | cons x xs ih => exact fun k h => ih _ (h.stk x)
theorem rd_nil : Rd [] := fun i h => by simp at h
theorem rd_struck (row : List Int) : Rd (struckM row) := rd_fold row [] rd_nil
theorem fold_rd (xs : List Int) : ∀ k, Rd (k ++ xs) → xs.foldl stk k = k ++ xs := by
  induction xs with
  | nil => intro k _; simp
  | cons x xs ih =>
    intro k h
    rcases stk_cases k x with ⟨m, b, h1, h2⟩ | ⟨h1, h2⟩
    · exfalso
      rw [h1, show m ++ [x, b] ++ x :: xs = m ++ x :: b :: x :: xs by simp] at h
      exact h.no
    · rw [List.foldl_cons, h1, ih _ (by simpa using h)]
      simp
theorem struck_rd {row : List Int} (h : Rd row) : struckM row = row := by
  have := fold_rd row [] (by simpa using h)
  simpa [struckM] using this
theorem fold_aba (k : List Int) (hk : Rd k) (a b : Int) : stk (stk (stk k a) b) a = stk k a := by
  obtain ⟨m, hm⟩ := stk_last k a
  have hr : Rd (stk k a) := hk.stk a
  rw [hm] at hr ⊢
  rcases stk_cases (m ++ [a]) b with ⟨m2, b2, h1, h2⟩ | ⟨h1, h2⟩
  · rw [h2]
    have e : m = m2 ++ [b] ∧ b2 = a := by
      have h3 : m ++ [a] = (m2 ++ [b]) ++ [b2] := by simpa using h1
      have := List.append_inj' h3 rfl
      exact ⟨this.1, by simpa using this.2.symm⟩
    obtain ⟨e1, e2⟩ := e
    subst e1
    rcases stk_cases (m2 ++ [b]) a with ⟨m3, b3, h4, h5⟩ | ⟨h4, h5⟩
    · exfalso
      have h6 : m2 ++ [b] = (m3 ++ [a]) ++ [b3] := by simpa using h4
      have := List.append_inj' h6 rfl
      obtain ⟨e3, e4⟩ := this
      subst e3
      rw [show m3 ++ [a] ++ [b] ++ [a] = m3 ++ a :: b :: a :: [] by simp] at hr
      exact hr.no
    · exact h4
  · rw [h1, show m ++ [a] ++ [b] = m ++ [a, b] by simp, stk_pop]
theorem struck_step (p : List Int) (a b : Int) (q : List Int) : struckM (p ++ a :: b :: a :: q) = struckM (p ++ a :: q) := by
  unfold struckM
  rw [List.foldl_append, List.foldl_append]
  simp only [List.foldl_cons]
  rw [fold_aba _ (rd_fold p [] rd_nil)]
theorem Sks.struck {n : Nat} {a b : List Int} (h : Sks n a b) : struckM a = struckM b := by
  induction h with
  | refl l => rfl
  | step p a b q h ih => rw [struck_step]; exact ih
theorem fold_sks (xs : List Int) : ∀ k, ∃ n, Sks n (k ++ xs) (xs.foldl stk k) := by
  induction xs with
  | nil => intro k; exact ⟨0, by simpa using Sks.refl k⟩
  | cons x xs ih =>
    intro k
    rcases stk_cases k x with ⟨m, b, h1, h2⟩ | ⟨h1, h2⟩
    · obtain ⟨n, hn⟩ := ih (m ++ [x])
      rw [List.foldl_cons, h2, h1]
      refine ⟨n + 1, ?_⟩
      rw [show m ++ [x, b] ++ x :: xs = m ++ x :: b :: x :: xs by simp]
      exact .step m x b xs (by simpa using hn)
    · obtain ⟨n, hn⟩ := ih (k ++ [x])
      rw [List.foldl_cons, h1]
      exact ⟨n, by simpa using hn⟩
theorem sks_struck (row : List Int) : ∃ n, Sks n row (struckM row) := by simpa [struckM] using fold_sks row []
theorem struck_rev (row : List Int) : struckM row.reverse = (struckM row).reverse := by
  obtain ⟨n, h⟩ := sks_struck row
  rw [h.rev.struck]
  refine struck_rd fun i hi => ?_
  rw [List.length_reverse] at hi
  have := rd_struck row ((struckM row).length - 1 - (i + 2)) (by omega)
  rw [List.getD_eq_getElem?_getD, List.getD_eq_getElem?_getD, List.getElem?_reverse (by omega), List.getElem?_reverse (by omega), ← List.getD_eq_getElem?_getD, ← List.getD_eq_getElem?_getD]
  rw [show (struckM row).length - 1 - (i + 2) + 2 = (struckM row).length - 1 - i by omega] at this
  exact this.symm
theorem struck_struck (row : List Int) : struckM (struckM row) = struckM row := struck_rd (rd_struck row)
theorem struck_ok {row : List Int} (h : RowOk row) : RowOk (struckM row) := by
  obtain ⟨n, hs⟩ := sks_struck row
  have h1 := hs.len
  have h2 := hs.ne (fun z => by rw [z] at h; exact absurd h.1 (by simp))
  have h3 : (struckM row).length ≠ 0 := fun z => h2 (List.eq_nil_of_length_eq_zero z)
  exact ⟨by omega, by have := h.2.1; omega, fun c hc => h.2.2 c (hs.mem c hc)⟩
theorem rev_ok {row : List Int} (h : RowOk row) : RowOk row.reverse := ⟨by rw [List.length_reverse]; exact h.1, by rw [List.length_reverse]; exact h.2.1, fun c hc => h.2.2 c (by simpa using hc)⟩
/-! turns -/
theorem mem_rng {lo x : Int} {n : Nat} : x ∈ rng lo n ↔ lo ≤ x ∧ x < lo + n := by
  unfold rng
  rw [List.mem_map]
  constructor
  · rintro ⟨i, h1, rfl⟩
    rw [List.mem_range] at h1
    omega
  · intro h
    exact ⟨(x - lo).toNat, by rw [List.mem_range]; omega, by omega⟩
theorem mem_turns {row : List Int} {x : Int} : x ∈ turnsM row ↔ 1 ≤ x ∧ x < (row.length : Int) - 1 ∧ row.getD (x - 1).toNat 0 = row.getD (x + 1).toNat 0 := by
  unfold turnsM
  rw [List.map_id, List.mem_filter, mem_rng, decide_eq_true_eq]
  constructor
  · rintro ⟨⟨h1, h2⟩, h3⟩
    exact ⟨h1, by omega, h3⟩
  · rintro ⟨h1, h2, h3⟩
    exact ⟨⟨h1, by omega⟩, h3⟩
theorem turns_nil {row : List Int} : turnsM row = [] ↔ Rd row := by
  constructor
  · intro h i hi e
    have : ((i : Int) + 1) ∈ turnsM row := mem_turns.mpr ⟨by omega, by omega, by
      rw [show ((i : Int) + 1 - 1).toNat = i by omega, show ((i : Int) + 1 + 1).toNat = i + 2 by omega]
      exact e⟩
    rw [h] at this
    simp at this
  · intro h
    refine List.eq_nil_iff_forall_not_mem.mpr fun x hx => ?_
    obtain ⟨h1, h2, h3⟩ := mem_turns.mp hx
    refine h (x - 1).toNat (by omega) ?_
    rw [h3]
    congr 1
    omega
theorem cut_lo {α : Type} (xs : List α) (i : Int) (h0 : 0 ≤ i) (h : i ≤ xs.length) : cut xs none (some i) = xs.take i.toNat := by
  unfold cut
  rw [show HT.sIx xs.length 0 none = 0 from rfl, show HT.sIx xs.length xs.length (some i) = min i.toNat xs.length from if_neg (by omega)]
  rw [List.drop_zero, Nat.sub_zero, show min i.toNat xs.length = i.toNat by omega]
theorem cut_hi {α : Type} (xs : List α) (i : Int) (h0 : 0 ≤ i) : cut xs (some i) none = xs.drop i.toNat := by
  unfold cut
  rw [show HT.sIx xs.length xs.length none = xs.length from rfl, show HT.sIx xs.length 0 (some i) = min i.toNat xs.length from if_neg (by omega)]
  by_cases h : i.toNat ≤ xs.length
  · rw [show min i.toNat xs.length = i.toNat by omega, List.take_of_length_le (by rw [List.length_drop]; exact Nat.le_refl _)]
  · rw [show min i.toNat xs.length = xs.length by omega, List.drop_length, List.drop_eq_nil_of_le (by omega)]
    simp
theorem split3 {row : List Int} {i : Nat} (h : i + 2 < row.length) : row = row.take i ++ row.getD i 0 :: row.getD (i + 1) 0 :: row.getD (i + 2) 0 :: row.drop (i + 3) := by
  have e : ∀ j, j < row.length → row.drop j = row.getD j 0 :: row.drop (j + 1) := fun j hj => by
    rw [List.drop_eq_getElem_cons hj, List.getD_eq_getElem?_getD, List.getElem?_eq_getElem hj]
    rfl
  rw [← e (i + 2) h, ← e (i + 1) (by omega), ← e i (by omega), List.take_append_drop]
theorem strike_sks {row : List Int} {x : Int} (h : x ∈ turnsM row) : Sks 1 row (cut row none (some x) ++ cut row (some (x + 2)) none) := by
  obtain ⟨h1, h2, h3⟩ := mem_turns.mp h
  have hl : (x - 1).toNat + 2 < row.length := by omega
  have e := split3 hl
  rw [show (x - 1).toNat + 2 = (x + 1).toNat by omega, ← h3] at e
  have k := Sks.one (row.take (x - 1).toNat) (row.getD (x - 1).toNat 0) (row.getD ((x - 1).toNat + 1) 0) (row.drop ((x - 1).toNat + 3))
  rw [← e] at k
  rw [cut_lo row x (by omega) (by omega), cut_hi row (x + 2) (by omega)]
  have e2 : row.take x.toNat = row.take (x - 1).toNat ++ [row.getD (x - 1).toNat 0] := by
    rw [show x.toNat = (x - 1).toNat + 1 by omega, List.take_succ_eq_append_getElem (by omega), List.getD_eq_getElem?_getD, List.getElem?_eq_getElem (by omega)]
    rfl
  rw [e2, show (x + 2).toNat = (x - 1).toNat + 3 by omega, List.append_assoc]
  exact k
theorem stk_len (k : List Int) (c : Int) : (stk k c).length ≤ k.length + 1 := by
  unfold stk
  split
  · rw [List.length_dropLast]; omega
  · rw [List.length_append]; exact Nat.le_refl _
theorem lst_nil (xs : List Int) : decide (Lst.mk xs = Lst.mk []) = decide (xs = []) := by
  by_cases h : xs = []
  · subst h
    rfl
  · rw [decide_eq_false h, decide_eq_false fun z => h (by injection z)]
end BC

namespace BC
/-! ### rows end to end: the plain part -/
theorem cut_1 {α : Type} (xs : List α) : cut xs (some 1) none = xs.drop 1 := cut_hi xs 1 (by decide)
theorem cons_of {a : List Int} (h : 1 ≤ a.length) : ∃ x t, a = x :: t := by
  cases a with
  | nil => simp at h
  | cons x t => exact ⟨x, t, rfl⟩
theorem snoc_of {a : List Int} (h : 1 ≤ a.length) : ∃ t x, a = t ++ [x] ∧ a.getD (a.length - 1) 0 = x := by
  have hn : a ≠ [] := fun z => by rw [z] at h; simp at h
  refine ⟨a.dropLast, a.getLast hn, (List.dropLast_concat_getLast hn).symm, ?_⟩
  rw [List.getD_eq_getElem?_getD, List.getLast_eq_getElem, List.getElem?_eq_getElem (by omega)]
  rfl
theorem jn_sks {a a' b b' : List Int} {n m : Nat} (ha : Sks n a a') (hb : Sks m b b') (la : 1 ≤ a.length) (lb : 1 ≤ b.length) (e : a.getD (a.length - 1) 0 = b.getD 0 0) : Sks (m + n) (a ++ b.drop 1) (a' ++ b'.drop 1) := by
  have lb' : 1 ≤ b'.length := by
    have := hb.ne (fun z => by rw [z] at lb; simp at lb)
    exact List.length_pos_iff.mpr this
  obtain ⟨t, x, e1, e2⟩ := snoc_of la
  obtain ⟨y, u, e3⟩ := cons_of lb
  obtain ⟨y', u', e4⟩ := cons_of lb'
  have h1 := hb.head
  have exy : x = y := by rw [← e2, e, e3]; rfl
  have eyy : y = y' := by rw [e3, e4] at h1; simpa using h1
  have s1 : Sks m (a ++ b.drop 1) (a ++ b'.drop 1) := by
    have := hb.app t []
    rw [List.append_nil, List.append_nil] at this
    rw [e1, e3, e4]
    rw [e3, e4] at this
    subst exy eyy
    simpa using this
  have s2 := ha.app [] (b'.drop 1)
  rw [List.nil_append, List.nil_append] at s2
  exact s1.trans s2
theorem jn_struck {a a' b b' : List Int} {n m : Nat} (ha : Sks n a a') (hb : Sks m b b') (la : 1 ≤ a.length) (lb : 1 ≤ b.length) (e : a.getD (a.length - 1) 0 = b.getD 0 0) : struckM (a ++ b.drop 1) = struckM (a' ++ b'.drop 1) := (jn_sks ha hb la lb e).struck
theorem pal_sks : ∀ a : List Int, 1 ≤ a.length → ∃ n, Sks n (a.reverse ++ a.drop 1) [a.getD (a.length - 1) 0]
  | [], h => by simp at h
  | [x], _ => ⟨0, .refl _⟩
  | x :: y :: t, _ => by
    obtain ⟨n, hn⟩ := pal_sks (y :: t) (by simp)
    refine ⟨n + 1, ?_⟩
    have e : (x :: y :: t).reverse ++ (x :: y :: t).drop 1 = t.reverse ++ y :: x :: y :: t := by simp
    have e2 : (y :: t).reverse ++ (y :: t).drop 1 = t.reverse ++ y :: t := by simp
    rw [e]
    rw [e2] at hn
    have e3 : (x :: y :: t).getD ((x :: y :: t).length - 1) 0 = (y :: t).getD ((y :: t).length - 1) 0 := by simp
    rw [e3]
    exact .step _ _ _ _ hn
theorem struck_one (x : Int) : struckM [x] = [x] := by
  refine struck_rd fun i h => ?_
  simp at h
theorem pal_struck {a : List Int} (h : 1 ≤ a.length) : struckM (a.reverse ++ a.drop 1) = [a.getD (a.length - 1) 0] := by
  obtain ⟨n, hn⟩ := pal_sks a h
  rw [hn.struck, struck_one]
theorem last_rev (l : List Int) : l.reverse.getD (l.length - 1) 0 = l.getD 0 0 := by
  cases l with
  | nil => rfl
  | cons x xs =>
    rw [List.getD_eq_getElem?_getD, List.getD_eq_getElem?_getD, List.getElem?_reverse (by simp)]
    simp
theorem head_rev (l : List Int) : l.reverse.getD 0 0 = l.getD (l.length - 1) 0 := by
  have := last_rev l.reverse
  rw [List.reverse_reverse, List.length_reverse] at this
  exact this.symm
theorem head_app {a : List Int} (b : List Int) (h : 1 ≤ a.length) : (a ++ b).getD 0 0 = a.getD 0 0 := getD_app_l (by omega)
theorem last_app {a b : List Int} (h : 1 ≤ b.length) : (a ++ b).getD ((a ++ b).length - 1) 0 = b.getD (b.length - 1) 0 := by
  rw [List.length_append, getD_app_r (by omega), show a.length + b.length - 1 - a.length = b.length - 1 by omega]
theorem struck_head (a : List Int) : (struckM a).getD 0 0 = a.getD 0 0 := let ⟨_, h⟩ := sks_struck a; h.head.symm
theorem struck_last (a : List Int) : (struckM a).getD ((struckM a).length - 1) 0 = a.getD (a.length - 1) 0 := let ⟨_, h⟩ := sks_struck a; h.last.symm
theorem struck_len (a : List Int) : (struckM a).length ≤ a.length := let ⟨_, h⟩ := sks_struck a; by have := h.len; omega
theorem struck_pos {a : List Int} (h : 1 ≤ a.length) : 1 ≤ (struckM a).length := by
  obtain ⟨n, hn⟩ := sks_struck a
  exact List.length_pos_iff.mpr (hn.ne fun z => by rw [z] at h; simp at h)
theorem last_jn {a b : List Int} (hb : 1 ≤ b.length) (ha : 1 ≤ a.length) (e : a.getD (a.length - 1) 0 = b.getD 0 0) : (a ++ b.drop 1).getD ((a ++ b.drop 1).length - 1) 0 = b.getD (b.length - 1) 0 := by
  by_cases h : b.length = 1
  · obtain ⟨y, u, e3⟩ := cons_of hb
    subst e3
    have hu : u = [] := by
      cases u with
      | nil => rfl
      | cons _ _ => simp at h
    subst hu
    simpa using e
  · rw [last_app (by rw [List.length_drop]; omega), List.length_drop, List.getD_eq_getElem?_getD, List.getD_eq_getElem?_getD, List.getElem?_drop]
    congr 2
    omega
theorem drop_app {a b : List Int} (h : 1 ≤ a.length) : (a ++ b).drop 1 = a.drop 1 ++ b := by
  obtain ⟨x, t, e⟩ := cons_of h
  subst e
  rfl
/-! the common beginning -/
def com : List Int → List Int → Nat
  | x :: xs, y :: ys => if x = y then com xs ys + 1 else 0
  | _, _ => 0
theorem com_le : ∀ a b, com a b ≤ a.length ∧ com a b ≤ b.length
  | [], _ => by simp [com]
  | _ :: _, [] => by simp [com]
  | x :: xs, y :: ys => by
    unfold com
    split
    · have := com_le xs ys
      simp only [List.length_cons]
      omega
    · simp
theorem com_eq : ∀ (a b : List Int) (i : Nat), i < com a b → a.getD i 0 = b.getD i 0
  | [], _, i, h => by simp [com] at h
  | _ :: _, [], i, h => by simp [com] at h
  | x :: xs, y :: ys, i, h => by
    unfold com at h
    split at h
    · rename_i e
      cases i with
      | zero => simpa using e
      | succ i =>
        have := com_eq xs ys i (by omega)
        simpa using this
    · omega
theorem com_stop : ∀ a b : List Int, com a b < a.length → com a b < b.length → a.getD (com a b) 0 ≠ b.getD (com a b) 0
  | [], _, h, _ => by simp [com] at h
  | _ :: _, [], _, h => by simp [com] at h
  | x :: xs, y :: ys, h1, h2 => by
    unfold com at h1 h2 ⊢
    split
    · rename_i e
      rw [if_pos e] at h1 h2
      have := com_stop xs ys (by simpa using h1) (by simpa using h2)
      simpa using this
    · rename_i e
      simpa using e
theorem com_split : ∀ a b : List Int, ∃ p s t, a = p ++ s ∧ b = p ++ t ∧ p.length = com a b ∧ (s = [] ∨ t = [] ∨ s.getD 0 0 ≠ t.getD 0 0)
  | [], b => ⟨[], [], b, rfl, rfl, by simp [com], .inl rfl⟩
  | x :: xs, [] => ⟨[], x :: xs, [], rfl, rfl, by simp [com], .inr (.inl rfl)⟩
  | x :: xs, y :: ys => by
    by_cases e : x = y
    · obtain ⟨p, s, t, h1, h2, h3, h4⟩ := com_split xs ys
      exact ⟨x :: p, s, t, by rw [h1]; rfl, by rw [h2, e]; rfl, by unfold com; rw [if_pos e, List.length_cons, h3], h4⟩
    · exact ⟨[], x :: xs, y :: ys, rfl, rfl, by unfold com; rw [if_neg e]; rfl, .inr (.inr (by simpa using e))⟩
theorem rd_rev {l : List Int} (h : Rd l) : Rd l.reverse := fun i hi => by
  rw [List.length_reverse] at hi
  have := h (l.length - 1 - (i + 2)) (by omega)
  rw [List.getD_eq_getElem?_getD, List.getD_eq_getElem?_getD, List.getElem?_reverse (by omega), List.getElem?_reverse (by omega), ← List.getD_eq_getElem?_getD, ← List.getD_eq_getElem?_getD]
  rw [show l.length - 1 - (i + 2) + 2 = l.length - 1 - i by omega] at this
  exact this.symm
theorem rd_mid {x y : List Int} {c : Int} (hx : Rd (x ++ [c])) (hy : Rd (c :: y)) (h : x = [] ∨ y = [] ∨ x.getD (x.length - 1) 0 ≠ y.getD 0 0) : Rd (x ++ c :: y) := fun i hi => by
  rw [List.length_append, List.length_cons] at hi
  by_cases h1 : i + 2 < x.length + 1
  · have := hx i (by rw [List.length_append]; show i + 2 < x.length + 1; omega)
    rw [show x ++ c :: y = (x ++ [c]) ++ y by simp, getD_app_l (p := x ++ [c]) (by rw [List.length_append]; show i < x.length + 1; omega), getD_app_l (p := x ++ [c]) (by rw [List.length_append]; show i + 2 < x.length + 1; omega)]
    exact this
  · by_cases h2 : x.length ≤ i
    · have := hy (i - x.length) (by simp; omega)
      rw [getD_app_r h2, getD_app_r (by omega), show i + 2 - x.length = i - x.length + 2 by omega]
      exact this
    · have e : i = x.length - 1 := by omega
      rw [getD_app_l (by omega), getD_app_r (by omega), show i + 2 - x.length = 1 by omega, e]
      have hy1 : (c :: y).getD 1 0 = y.getD 0 0 := by cases y <;> rfl
      rw [hy1]
      rcases h with h | h | h
      · rw [h] at h2; simp at h2
      · rw [h] at hi; simp at hi; omega
      · exact h
/-- the steps between two straight rows from one place -/
theorem gap_com {a b : List Int} (ha : Rd a) (hb : Rd b) (la : 1 ≤ a.length) (lb : 1 ≤ b.length) (e : a.getD 0 0 = b.getD 0 0) : ((struckM (a.reverse ++ b.drop 1)).length : Int) - 1 = (a.length : Int) + (b.length : Int) - 2 * (com a b : Int) := by
  obtain ⟨p, s, t, h1, h2, h3, h4⟩ := com_split a b
  have hp : 1 ≤ p.length := by
    rw [h3]
    obtain ⟨x, u, e1⟩ := cons_of la
    obtain ⟨y, v, e2⟩ := cons_of lb
    subst e1 e2
    unfold com
    rw [if_pos (by simpa using e)]
    omega
  obtain ⟨q, c, h5, h6⟩ := snoc_of hp
  obtain ⟨n, hn⟩ := pal_sks p hp
  rw [h6] at hn
  have e1 : a.reverse ++ b.drop 1 = s.reverse ++ (p.reverse ++ p.drop 1) ++ t := by
    rw [h1, h2, drop_app hp]
    simp
  have e2 : struckM (a.reverse ++ b.drop 1) = s.reverse ++ c :: t := by
    rw [e1, (hn.app s.reverse t).struck, show s.reverse ++ [c] ++ t = s.reverse ++ c :: t by simp]
    refine struck_rd (rd_mid ?_ ?_ ?_)
    · have : Rd (c :: s) := by
        rw [h1, h5, List.append_assoc] at ha
        exact ha.suf
      have := rd_rev this
      simpa using this
    · rw [h2, h5, List.append_assoc] at hb
      exact hb.suf
    · rcases h4 with h4 | h4 | h4
      · exact .inl (by rw [h4]; rfl)
      · exact .inr (.inl h4)
      · refine .inr (.inr ?_)
        rw [List.length_reverse, last_rev]
        exact h4
  rw [e2]
  have l1 : a.length = p.length + s.length := by rw [h1, List.length_append]
  have l2 : b.length = p.length + t.length := by rw [h2, List.length_append]
  have l3 : (s.reverse ++ c :: t).length = s.length + t.length + 1 := by simp; omega
  omega
theorem gap_sym {a b : List Int} (la : 1 ≤ a.length) (lb : 1 ≤ b.length) (e : a.getD 0 0 = b.getD 0 0) : (struckM (b.reverse ++ a.drop 1)).length = (struckM (a.reverse ++ b.drop 1)).length := by
  obtain ⟨x, u, e1⟩ := cons_of la
  obtain ⟨y, v, e2⟩ := cons_of lb
  subst e1 e2
  have e : x = y := by simpa using e
  subst e
  have : ((x :: v).reverse ++ (x :: u).drop 1) = ((x :: u).reverse ++ (x :: v).drop 1).reverse := by simp
  rw [this, struck_rev, List.length_reverse]
theorem cut_neg1 (xs : List Int) (h : 1 ≤ xs.length) : cut xs (some (-1)) none = xs.drop (xs.length - 1) := by
  unfold cut
  have e2 : HT.sIx xs.length 0 (some (-1)) = xs.length - 1 := by
    show (if (-1 : Int) < 0 then ((-1 : Int) + (xs.length : Int)).toNat else min (-1 : Int).toNat xs.length) = _
    rw [if_pos (by decide)]
    omega
  rw [HT.sIx_none, e2, List.take_of_length_le (by rw [List.length_drop]; omega)]
theorem cut_top (xs : List Int) (n : Nat) : cut xs none (some (n : Int)) = xs.take n := by
  unfold cut
  rw [HT.sIx_none, HT.sIx_nat, List.drop_zero, Nat.sub_zero]
  by_cases h : n ≤ xs.length
  · rw [show min n xs.length = n by omega]
  · rw [show min n xs.length = xs.length by omega, List.take_length, List.take_of_length_le (by omega)]
theorem fold_eq (a : List Int) : List.foldl stk [] a = struckM a := rfl
end BC

namespace BC
/-! ### cores: the plain part -/
def St (l : List Int) (b : Nat) : Prop := 2 * b + 2 < l.length ∧ l.getD (b + 1) 0 = l.getD (l.length - b - 2) 0
instance (l : List Int) (b : Nat) : Decidable (St l b) := by unfold St; exact inferInstance
def coreG (l : List Int) : Nat → Nat → Nat
  | 0, b => b
  | n + 1, b => if St l b then coreG l n (b + 1) else b
def coreB (l : List Int) : Nat := coreG l l.length 0
theorem coreG_spec (l : List Int) : ∀ n b, l.length ≤ n + b → (∀ c, c < b → St l c) → (∀ c, c < coreG l n b → St l c) ∧ ¬ St l (coreG l n b)
  | 0, b, h, k => ⟨k, fun z => by
    have : 2 * b + 2 < l.length := z.1
    omega⟩
  | n + 1, b, h, k => by
    unfold coreG
    by_cases e : St l b
    · rw [if_pos e]
      refine coreG_spec l n (b + 1) (by omega) fun c hc => ?_
      by_cases q : c = b
      · rw [q]; exact e
      · exact k c (by omega)
    · rw [if_neg e]
      exact ⟨k, e⟩
theorem coreB_spec (l : List Int) : (∀ c, c < coreB l → St l c) ∧ ¬ St l (coreB l) := coreG_spec l l.length 0 (by omega) fun c h => absurd h (Nat.not_lt_zero c)
theorem coreB_eq {l : List Int} {b : Nat} (h : ∀ c, c < b → St l c) (k : ¬ St l b) : b = coreB l := by
  obtain ⟨h2, k2⟩ := coreB_spec l
  by_cases e : b < coreB l
  · exact absurd (h2 b e) k
  · by_cases e2 : coreB l < b
    · exact absurd (h _ e2) k2
    · omega
def tailB (l : List Int) (b : Nat) : List Int := l.take (b + 1)
def innB (l : List Int) (b : Nat) : List Int := (l.drop b).take (l.length - 2 * b)
def coreM (row : List Int) : List (List Int) := [tailB (struckM row) (coreB (struckM row)), innB (struckM row) (coreB (struckM row))]
theorem st_len {l : List Int} {b : Nat} (h : ∀ c, c < b → St l c) (hl : 1 ≤ l.length) : 2 * b + 1 ≤ l.length := by
  cases b with
  | zero => omega
  | succ b =>
    have := (h b (by omega)).1
    omega
theorem inn_len {l : List Int} {b : Nat} (h : 2 * b + 1 ≤ l.length) : (innB l b).length = l.length - 2 * b := by
  unfold innB
  rw [List.length_take, List.length_drop]
  omega
theorem inn_get {l : List Int} {b i : Nat} (h : i < l.length - 2 * b) : (innB l b).getD i 0 = l.getD (b + i) 0 := by
  unfold innB
  rw [List.getD_eq_getElem?_getD, List.getElem?_take_of_lt h, List.getElem?_drop, ← List.getD_eq_getElem?_getD]
theorem tail_len {l : List Int} {b : Nat} (h : 2 * b + 1 ≤ l.length) : (tailB l b).length = b + 1 := by
  unfold tailB
  rw [List.length_take]
  omega
theorem tail_get {l : List Int} {b i : Nat} (h : i < b + 1) : (tailB l b).getD i 0 = l.getD i 0 := by
  unfold tailB
  rw [List.getD_eq_getElem?_getD, List.getElem?_take_of_lt h, ← List.getD_eq_getElem?_getD]
theorem st_sym {l : List Int} {b : Nat} (h : ∀ c, c < b → St l c) (hc : l.getD 0 0 = l.getD (l.length - 1) 0) (j : Nat) (hj : j ≤ b) : l.getD j 0 = l.getD (l.length - 1 - j) 0 := by
  cases j with
  | zero => simpa using hc
  | succ j =>
    have := (h j (by omega)).2
    rw [this]
    congr 1
    omega
theorem getD_ext {a b : List Int} (hl : a.length = b.length) (h : ∀ i, i < a.length → a.getD i 0 = b.getD i 0) : a = b := by
  refine List.ext_getElem hl fun i h1 h2 => ?_
  have := h i h1
  rw [List.getD_eq_getElem?_getD, List.getD_eq_getElem?_getD, List.getElem?_eq_getElem h1, List.getElem?_eq_getElem h2] at this
  simpa using this
theorem drop_get {l : List Int} {b i : Nat} : (l.drop b).getD i 0 = l.getD (b + i) 0 := by
  rw [List.getD_eq_getElem?_getD, List.getElem?_drop, ← List.getD_eq_getElem?_getD]
theorem rev_get {l : List Int} {i : Nat} (h : i < l.length) : l.reverse.getD i 0 = l.getD (l.length - 1 - i) 0 := by
  rw [List.getD_eq_getElem?_getD, List.getElem?_reverse h, ← List.getD_eq_getElem?_getD]
theorem core_whole {l : List Int} {b : Nat} (h : ∀ c, c < b → St l c) (hl : 1 ≤ l.length) (hc : l.getD 0 0 = l.getD (l.length - 1) 0) : tailB l b ++ (innB l b).drop 1 ++ (tailB l b).reverse.drop 1 = l := by
  have n1 := st_len h hl
  have n2 := inn_len n1
  have n3 := tail_len n1
  refine getD_ext (by rw [List.length_append, List.length_append, List.length_drop, List.length_drop, List.length_reverse, n2, n3]; omega) fun i hi => ?_
  have li : i < l.length := by
    rw [List.length_append, List.length_append, List.length_drop, List.length_drop, List.length_reverse, n2, n3] at hi
    omega
  by_cases e1 : i < b + 1
  · rw [getD_app_l (by rw [List.length_append, n3]; omega), getD_app_l (by rw [n3]; omega), tail_get e1]
  · by_cases e2 : i < l.length - b
    · rw [getD_app_l (by rw [List.length_append, n3, List.length_drop, n2]; omega), getD_app_r (by rw [n3]; omega), n3, drop_get, inn_get (by omega)]
      congr 1
      omega
    · rw [getD_app_r (by rw [List.length_append, n3, List.length_drop, n2]; omega), List.length_append, n3, List.length_drop, n2, drop_get, rev_get (by rw [n3]; omega), n3, tail_get (by omega)]
      have := st_sym h hc (l.length - 1 - i) (by omega)
      rw [show b + 1 - 1 - (1 + (i - (b + 1 + (l.length - 2 * b - 1)))) = l.length - 1 - i by omega, this]
      congr 1
      omega
theorem rd_inn {l : List Int} (h : Rd l) (b : Nat) : Rd (innB l b) := by
  have e : l = l.take b ++ (innB l b ++ (l.drop b).drop (l.length - 2 * b)) := by
    unfold innB
    rw [List.take_append_drop, List.take_append_drop]
  rw [e] at h
  exact h.suf.pre
theorem rd_tail {l : List Int} (h : Rd l) (b : Nat) : Rd (tailB l b) := by
  have e : l = tailB l b ++ l.drop (b + 1) := (List.take_append_drop _ _).symm
  rw [e] at h
  exact h.pre
/-- all that the law asks of a core -/
structure CoreOk (l t i : List Int) : Prop where
  t0 : t.getD 0 0 = l.getD 0 0
  t1 : 1 ≤ t.length
  i1 : 1 ≤ i.length
  ti : t.getD (t.length - 1) 0 = i.getD 0 0
  ii : i.getD 0 0 = i.getD (i.length - 1) 0
  wh : t ++ i.drop 1 ++ t.reverse.drop 1 = l
  rt : Rd t
  ri : Rd i
  ln : l.length + 2 = 2 * t.length + i.length
  n3 : i.length ≠ 3
  op : 3 < i.length → i.getD 1 0 ≠ i.getD (i.length - 2) 0
theorem core_ok {l : List Int} (hr : Rd l) (hl : 1 ≤ l.length) (hc : l.getD 0 0 = l.getD (l.length - 1) 0) : CoreOk l (tailB l (coreB l)) (innB l (coreB l)) := by
  obtain ⟨h, k⟩ := coreB_spec l
  have n1 := st_len h hl
  have n2 := inn_len n1
  have n3 := tail_len n1
  have e0 : (innB l (coreB l)).getD 0 0 = l.getD (coreB l) 0 := by rw [inn_get (by omega)]; rfl
  have eii : (innB l (coreB l)).getD 0 0 = (innB l (coreB l)).getD ((innB l (coreB l)).length - 1) 0 := by
    rw [e0, n2, inn_get (by omega), st_sym h hc (coreB l) (Nat.le_refl _)]
    congr 1
    omega
  refine ⟨tail_get (by omega), by omega, by omega, ?_, eii, core_whole h hl hc, rd_tail hr _, rd_inn hr _, by omega, fun e => ?_, fun e => ?_⟩
  · rw [n3, e0, tail_get (by omega)]
    congr 1
  · rw [e] at eii
    exact rd_inn hr (coreB l) 0 (by omega) eii
  · intro z
    rw [n2] at e z
    rw [inn_get (by omega), inn_get (by omega)] at z
    refine k ⟨by omega, ?_⟩
    rw [z]
    congr 1
    omega
theorem core_self {i : List Int} (h : 3 < i.length → i.getD 1 0 ≠ i.getD (i.length - 2) 0) (n3 : i.length ≠ 3) (hl : 1 ≤ i.length) : tailB i (coreB i) = i.take 1 ∧ innB i (coreB i) = i := by
  have e : 0 = coreB i := coreB_eq (fun c hc => absurd hc (Nat.not_lt_zero c)) fun z => by
    have h1 := z.1
    have h2 := z.2
    exact h (by omega) (by simpa using h2)
  rw [← e]
  refine ⟨rfl, ?_⟩
  unfold innB
  rw [List.drop_zero]
  exact List.take_of_length_le (by omega)
def ClosedOk (row : List Int) : Prop := RowOk row ∧ row.getD 0 0 = row.getD (row.length - 1) 0
theorem cut_mid {α : Type} (xs : List α) (i j : Int) (h0 : 0 ≤ i) (h1 : i ≤ j) (h2 : j ≤ xs.length) : cut xs (some i) (some j) = (xs.drop i.toNat).take (j.toNat - i.toNat) := by
  unfold cut
  have e1 := HT.sIx_nat xs.length 0 i.toNat
  have e2 := HT.sIx_nat xs.length xs.length j.toNat
  rw [show ((i.toNat : Nat) : Int) = i by omega] at e1
  rw [show ((j.toNat : Nat) : Int) = j by omega] at e2
  rw [e1, e2, show min i.toNat xs.length = i.toNat by omega, show min j.toNat xs.length = j.toNat by omega]
theorem cut_1m1 {α : Type} (xs : List α) (h : 2 ≤ xs.length) : cut xs (some 1) (some (-1)) = (xs.drop 1).take (xs.length - 2) := by
  unfold cut
  have e1 : HT.sIx xs.length 0 (some 1) = 1 := by
    have := HT.sIx_nat xs.length 0 1
    rw [show min 1 xs.length = 1 by omega] at this
    exact this
  have e2 : HT.sIx xs.length xs.length (some (-1)) = xs.length - 1 := by
    show (if (-1 : Int) < 0 then ((-1 : Int) + (xs.length : Int)).toNat else min (-1 : Int).toNat xs.length) = _
    rw [if_pos (by decide)]
    omega
  rw [e1, e2, show xs.length - 1 - 1 = xs.length - 2 by omega]
end BC

namespace BC
open PySem PySem.Spec PyProof.Rows L2
def topS (i : Nat) : Stmt := PySem.Challenge.pw_betweencoats_k10_cores_and_their_tails.main.body.getD i (.Pass ⟨0, 0, 0, 0⟩)

/-! ### the law's source -/
def Val (s : List Int) : Prop := s.length = 2 ∧ 0 ≤ s.getD 1 0 ∧ s.getD 1 0 < 2147483647
def tk (s : List Int) (t : Int) : Int × List Int :=
  if 0 < s.getD 0 0 then (s.getD 0 0 % t, s.set 0 (s.getD 0 0 / t))
  else (((s.set 1 ((s.getD 1 0 * 39373 + 7) % 2147483647)).getD 1 0 * (s.set 1 ((s.getD 1 0 * 39373 + 7) % 2147483647)).getD 1 0 % 2147483629 / 32) % t, s.set 1 ((s.getD 1 0 * 39373 + 7) % 2147483647))
theorem tk_lt {s : List Int} {t : Int} (h : 0 < t) : 0 ≤ (tk s t).1 ∧ (tk s t).1 < t := by
  unfold tk
  split
  · exact ⟨Int.emod_nonneg _ (by omega), Int.emod_lt_of_pos _ h⟩
  · exact ⟨Int.emod_nonneg _ (by omega), Int.emod_lt_of_pos _ h⟩
theorem tk_val {s : List Int} {t : Int} (h : Val s) : Val (tk s t).2 := by
  obtain ⟨h1, h2, h3⟩ := h
  have e : ∀ y, (s.set 0 y).getD 1 0 = s.getD 1 0 := fun y => by
    rw [List.getD_eq_getElem?_getD, List.getD_eq_getElem?_getD, List.getElem?_set_ne (by decide)]
  have e2 : ∀ y, (s.set 1 y).getD 1 0 = y := fun y => by
    rw [List.getD_eq_getElem?_getD, List.getElem?_set_self (by omega)]
    rfl
  unfold tk
  split
  · refine ⟨by rw [List.length_set]; exact h1, ?_⟩
    show 0 ≤ (s.set 0 _).getD 1 0 ∧ (s.set 0 _).getD 1 0 < _
    rw [e]
    exact ⟨h2, h3⟩
  · refine ⟨by rw [List.length_set]; exact h1, ?_⟩
    show 0 ≤ (s.set 1 _).getD 1 0 ∧ (s.set 1 _).getD 1 0 < _
    rw [e2]
    exact ⟨Int.emod_nonneg _ (by decide), Int.emod_lt_of_pos _ (by decide)⟩
theorem tkp {s : List Int} (t : Int) (h : Val s) (h0 : 0 < t) (h1 : t < 1073741824) : Val (s, t).1 ∧ 0 < (s, t).2 ∧ (s, t).2 < 1073741824 := ⟨h, h0, h1⟩
theorem onp {s : List Int} (t : List Int) (h : Val s) (h0 : 0 < t.length) (h1 : t.length ≤ 100000) : Val (s, Lst.mk t).1 ∧ 0 < (s, Lst.mk t).2.l.length ∧ (s, Lst.mk t).2.l.length ≤ 100000 := ⟨h, h0, h1⟩
def cell (l : List Int) (k : Int) : Int := if k < (l.length : Int) then l.getD k.toNat 0 else if l ≠ [] then l.getD 0 0 else 0
def bigM (l : List Int) (k : Int) : Int := max (cell l k) (-1 - cell l k)
def poolM (l : List Int) (k : Int) : List Int := [bigM l k * (if decide (10 ^ (18 : Int).toNat ≤ bigM l k) = true then (1 : Int) else 0), (bigM l k % 2147483629 + 7919 * k * k + 31 * k + 17) * 48271 % 2147483647]
theorem pool_val (l : List Int) (k : Int) : Val (poolM l k) := ⟨rfl, Int.emod_nonneg _ (by decide), Int.emod_lt_of_pos _ (by decide)⟩
theorem cmul_l {i j : Int} (h : -18446744073709551616 < i ∧ i < 18446744073709551616) : L2.CMul i j := .inl h
theorem cmul_r {i j : Int} (h : -18446744073709551616 < j ∧ j < 18446744073709551616) : L2.CMul i j := .inr h

abbrev sLawPool : Stmt := topS 15
theorem scLawPool : FnScope ["script", "k", "cell", "big", "mixed"] ["script", "k"] (defScope sLawPool) := ⟨rfl, rfl, rfl, by decide +kernel, rfl, by decide +kernel, by decide +kernel⟩
def spLawPool (K : PySem.W.Frag) : Sp := Spq K (fun x : List Int × Int => x.1.length ≤ 63 ∧ 0 ≤ x.2 ∧ x.2 ≤ 1000) (fun a => [im (rv (Lsr.mk a.1)), im (rv a.2)]) fun a => .fr (rvs (poolM a.1 a.2)) []
section
variable {P : Program} {w : World} {K : PySem.W.Frag} {mg : Str → Option Value} {base : Heap}
theorem ok__law_pool {f : Addr} {fd : FuncData} (F : Fun K "_law_pool" "_law_pool" sLawPool f fd) (B : Blt mg) : FnG P w K mg base 1 f fd ["script", "k"] (spLawPool K) := by
  unfold spLawPool

  refine fn_okq F scLawPool (fun _ => rfl) fun cdv Ar outer s H E hr ⟨l, k⟩ ⟨hl, hk0, hk1⟩ => ⟨.rl (rvs (poolM l k)) [im (rv (Lsr.mk l)), im (rv k), im (rv (cell l k)), im (rv (bigM l k)), im (rv ((bigM l k % 2147483629 + 7919 * k * k + 31 * k + 17) * 48271 % 2147483647))], fits_fr, ?_⟩
  have hl : l.length ≤ 63 := hl
  have hk0 : 0 ≤ k := hk0
  have hk1 : k ≤ 1000 := hk1
  refine hs_cons (st_set 2 he_int scLawPool.nd) ?_
  refine hs_join (env2 := [im (rv (Lsr.mk l)), im (rv k), im (rv (cell l k)), un, un]) (hb_lt (he_var 1 rfl) (he_len (he_var 0 rfl) sq_lsr B.len)) (fun h => ?_) (fun h => ?_) ?_
  · have h := of_decide_eq_true h
    refine hs_nxw (hs_one (st_set 2 (he_eq (he_ixS (atI_pos ?_ ?_ 0) (he_var 0 rfl) (he_var 1 rfl)) (show _ = cell l k by unfold cell; rw [if_pos h])) scLawPool.nd)) (.k (.k (.k (.k (.k .nil)))))
    · exact hk0
    · exact h
  · have h := of_decide_eq_false h
    refine hs_one (st_if (hb_truS (he_var 0 rfl)) (fun h2 => ?_) (fun h2 => ?_))
    · have h2 : (!l.isEmpty) = true := h2
      have hn : l ≠ [] := fun z => by subst z; cases h2
      have e : cell l k = l.getD 0 0 := by unfold cell; rw [if_neg h, if_pos hn]
      have hp : 0 < l.length := List.length_pos_iff.mpr hn
      refine hs_nxw (hs_one (st_set 2 (he_eq (he_ixS (atI_pos ?_ ?_ 0) (he_var 0 rfl) he_int) (show _ = cell l k by rw [e]; rfl)) scLawPool.nd)) (.k (.k (.k (.k (.k .nil)))))
      · decide
      · show (0 : Int) < (l.length : Int)
        omega
    · have h2 : (!l.isEmpty) = false := h2
      have hn : l = [] := by
        cases l with
        | nil => rfl
        | cons x xs => cases h2
      have e : cell l k = 0 := by unfold cell; rw [if_neg h, if_neg (fun z => z hn)]
      rw [e]
      exact hs_nil
  refine hs_cons (st_set 3 (by refine (he_max2 rfl (he_intI (he_var 2 rfl) B.int) (he_intI (he_sub (he_neg he_int) (he_var 2 rfl)) B.int) B.max)) scLawPool.nd) ?_
  have b1 : 0 ≤ bigM l k % 2147483629 := Int.emod_nonneg _ (by decide)
  have b2 : bigM l k % 2147483629 < 2147483629 := Int.emod_lt_of_pos _ (by decide)
  have b3 : 0 ≤ 7919 * k * k := Int.mul_nonneg (by omega) hk0
  have b4 : 7919 * k * k ≤ 7919 * 1000 * 1000 := Int.mul_le_mul (by omega) hk1 hk0 (by decide)
  refine hs_cons (st_set 4 (P := rv ((bigM l k % 2147483629 + 7919 * k * k + 31 * k + 17) * 48271 % 2147483647)) (by refine (he_mod ?_ (he_intI (he_mul ?_ (he_add (he_add (he_add (he_mod ?_ (he_intI (he_var 3 rfl) B.int) he_int) (he_mul ?_ (he_mul ?_ he_int (he_var 1 rfl)) (he_var 1 rfl))) (he_mul ?_ he_int (he_var 1 rfl))) he_int) he_int) B.int) he_int) <;> first | decide | exact cmul_r (by omega) | exact cmul_l (by omega)) scLawPool.nd) ?_
  refine hs_one (st_retL (by refine (hl_lst (al_cons (he_mul ?_ (he_var 3 rfl) (he_intB (he_ge (he_var 3 rfl) (he_pow ?_ he_int he_int)) B.int)) (al_cons (he_var 4 rfl) al_nil))) <;> first | exact ⟨by decide, by decide, by decide⟩ | exact cmul_r (by split <;> omega) | decide))

end

abbrev sLawTake : Stmt := topS 16
theorem scLawTake : FnScope ["source", "top", "drawn"] ["source", "top"] (defScope sLawTake) := ⟨rfl, rfl, rfl, by decide +kernel, rfl, by decide +kernel, by decide +kernel⟩
def spLawTake (K : PySem.W.Frag) : Sp := Spq K (fun x : List Int × Int => Val x.1 ∧ 0 < x.2 ∧ x.2 < 1073741824) (fun a => [par a.1, im (rv a.2)]) fun a => .rt (rv (tk a.1 a.2).1) [(0, par (tk a.1 a.2).2)]
section
variable {P : Program} {w : World} {K : PySem.W.Frag} {mg : Str → Option Value} {base : Heap}
theorem ok__law_take {f : Addr} {fd : FuncData} (F : Fun K "_law_take" "_law_take" sLawTake f fd) (B : Blt mg) : FnG P w K mg base 1 f fd ["source", "top"] (spLawTake K) := by
  unfold spLawTake

  refine fn_okq F scLawTake (fun _ => rfl) fun cdv Ar outer s H E hr ⟨l, t⟩ ⟨hv, ht0, ht1⟩ => ⟨oS 2 (tk l t), fits_S, ?_⟩
  have hv : Val l := hv
  have ht0 : 0 < t := ht0
  have ht1 : t < 1073741824 := ht1
  have hl : l.length = 2 := hv.1
  obtain ⟨_, hb0, hb1⟩ := hv
  refine hs_cut (by refine (hb_gt (he_ixO own_par 0 rfl rfl (atI_pos ?_ ?_ 0) he_int) he_int) <;> (try simp only [hl]) <;> decide) (fun h => cut_end ?_ trivial) (fun h => cut_nil ?_)
  · have h : 0 < l.getD 0 0 := of_decide_eq_true h
    have e : tk l t = (l.getD 0 0 % t, l.set 0 (l.getD 0 0 / t)) := if_pos h
    rw [e]
    refine hs_cons (st_set 2 (P := rv (l.getD 0 0 % t)) (by refine (he_mod ?_ (he_intI (he_ixO own_par 0 rfl rfl (atI_pos ?_ ?_ 0) he_int) B.int) (he_var 1 rfl)) <;> (try simp only [hl]) <;> first | exact ht0 | decide) scLawTake.nd) ?_
    refine hs_cons (st_setO own_par 0 (y := l.getD 0 0 / t) (k := 0) rfl (by rw [hl]; rfl) (by refine (he_fdiv ?_ (he_ixO own_par 0 rfl rfl (atI_pos ?_ ?_ 0) he_int) (he_var 1 rfl)) <;> (try simp only [hl]) <;> first | exact ⟨ht0, ht1⟩ | decide) he_int) ?_
    exact hs_one (st_retw (he_var 2 rfl) rfl (weak_par rfl rfl))
  · have h : ¬ 0 < l.getD 0 0 := of_decide_eq_false h
    have e : tk l t = (((l.set 1 ((l.getD 1 0 * 39373 + 7) % 2147483647)).getD 1 0 * (l.set 1 ((l.getD 1 0 * 39373 + 7) % 2147483647)).getD 1 0 % 2147483629 / 32) % t, l.set 1 ((l.getD 1 0 * 39373 + 7) % 2147483647)) := if_neg h
    rw [e]
    have hl2 : ∀ y, (l.set 1 y).length = 2 := fun y => by rw [List.length_set]; exact hl
    have e2 : ∀ y, (l.set 1 y).getD 1 0 = y := fun y => by
      rw [List.getD_eq_getElem?_getD, List.getElem?_set_self (by omega)]
      rfl
    refine hs_cons (st_setO own_par 0 (y := (l.getD 1 0 * 39373 + 7) % 2147483647) (k := 1) rfl (by rw [hl]; rfl) (by refine (he_mod ?_ (he_intI (he_add (he_mul ?_ (he_ixO own_par 0 rfl rfl (atI_pos ?_ ?_ 0) he_int) he_int) he_int) B.int) he_int) <;> (try simp only [hl]) <;> first | exact cmul_r (by omega) | decide) he_int) ?_
    have m0 := Int.emod_nonneg (l.getD 1 0 * 39373 + 7) (b := 2147483647) (by decide)
    have m1 := Int.emod_lt_of_pos (l.getD 1 0 * 39373 + 7) (b := 2147483647) (by decide)
    refine hs_one (st_retw (y := ((l.set 1 ((l.getD 1 0 * 39373 + 7) % 2147483647)).getD 1 0 * (l.set 1 ((l.getD 1 0 * 39373 + 7) % 2147483647)).getD 1 0 % 2147483629 / 32) % t) (by refine (he_mod ?_ (he_intI (he_fdiv ?_ (he_mod ?_ (he_intI (he_mul ?_ (he_ixO own_par 0 rfl rfl (atI_pos ?_ ?_ 0) he_int) (he_ixO own_par 0 rfl rfl (atI_pos ?_ ?_ 0) he_int)) B.int) he_int) he_int) B.int) (he_var 1 rfl)) <;> (try simp only [List.length_set, hl]) <;> first | exact ht0 | exact cmul_r (by rw [e2]; omega) | exact ⟨by decide, by decide⟩ | decide) rfl (weak_par rfl rfl))

end

abbrev sLawOne : Stmt := topS 17
theorem scLawOne : FnScope ["source", "things"] ["source", "things"] (defScope sLawOne) := ⟨rfl, rfl, rfl, by decide +kernel, rfl, by decide +kernel, by decide +kernel⟩
def spLawOne (K : PySem.W.Frag) : Sp := Spq K (fun x : List Int × Lst Int => Val x.1 ∧ 0 < x.2.l.length ∧ x.2.l.length ≤ 100000) (fun a => [par a.1, im (rv a.2)]) fun a => .rt (rv (a.2.l.getD (tk a.1 a.2.l.length).1.toNat 0)) [(0, par (tk a.1 a.2.l.length).2)]
section
variable {P : Program} {w : World} {K : PySem.W.Frag} {mg : Str → Option Value} {base : Heap}
theorem ok__law_one {f : Addr} {fd : FuncData} (F : Fun K "_law_one" "_law_one" sLawOne f fd) (B : Blt mg) (dLawTake : Def P w K mg base "_law_take" 1 ["source", "top"] (spLawTake K)) : FnG P w K mg base 2 f fd ["source", "things"] (spLawOne K) := by
  unfold spLawOne

  refine fn_okq F scLawOne (fun _ => rfl) fun cdv Ar outer s H E hr ⟨l, t⟩ ⟨hv, ht0, ht1⟩ => ⟨oS 1 (t.l.getD (tk l t.l.length).1.toNat 0, (tk l t.l.length).2), fits_S, ?_⟩
  have hv : Val l := hv
  have ht0 : 0 < t.l.length := ht0
  have ht1 : t.l.length ≤ 100000 := ht1
  have hb := tk_lt (s := l) (t := (t.l.length : Int)) (by omega)
  refine hs_one (st_retw (he_ixL (atI_pos ?_ ?_ 0) (he_var 1 rfl) (he_call1 own_par 0 dLawTake (_, _) ?_ (hr.mono (by decide)) (ha_cons (he_len (he_var 1 rfl) sq_lst B.len) ha_nil))) rfl (weak_par rfl rfl))
  · exact hb.1
  · exact hb.2
  · exact ⟨hv, by show (0 : Int) < t.l.length; omega, by show (t.l.length : Int) < 1073741824; omega⟩

end

abbrev sStruck : Stmt := topS 9
theorem scStruck : FnScope ["row", "kept", "coat"] ["row"] (defScope sStruck) := ⟨rfl, rfl, rfl, by decide +kernel, rfl, by decide +kernel, by decide +kernel⟩
def spStruck (K : PySem.W.Frag) : Sp := Spq K (fun l : List Int => l.length ≤ 100000) (fun r => [im (rv r)]) fun r => .rt (rv (struckM r)) []
section
variable {P : Program} {w : World} {K : PySem.W.Frag} {mg : Str → Option Value} {base : Heap}
theorem ok_struck {f : Addr} {fd : FuncData} (F : Fun K "struck" "struck" sStruck f fd) (B : Blt mg) : FnG P w K mg base 1 f fd ["row"] (spStruck K) := by
  unfold spStruck

  refine fn_okq F scStruck (fun _ => rfl) fun cdv Ar outer s H E hr row hrow => ⟨oP 3 (struckM row), fits_P, ?_⟩
  show HSs _ _ _ [im (rv row), un, un] _
  have hrow : row.length ≤ 100000 := hrow
  refine hs_cons (st_own 1 (hl_lst (xs := ([] : List Int)) al_nil) scStruck.nd) ?_
  refine hs_cons (st_for (passes_of rfl) rfl (hi_tup (xs := row) (he_var 0 rfl)) (lp_fold (f := stk) (S := List Int) (en := fun k => [im (rv row), own k, un]) (es := fun x k => [im (rv row), own k, im (rv x)]) (fun x k => hg_name 2 scStruck.nd) (fun i k => k.length ≤ i ∧ i ≤ row.length) row 0 [] ⟨Nat.le_refl _, Nat.zero_le _⟩ fun i x k hx hk => ⟨⟨Nat.le_trans (stk_len k x) (by omega), ?_⟩, hs_nxw (env1 := [im (rv row), own (stk k x), im (rv x)]) ?_ (.k (.k (.f .nil)))⟩)) (hs_end (st_retP (he_tupleO own_own 1 rfl B.tuple)) trivial)
  · have := (List.getElem?_eq_some_iff.mp hx).1
    omega
  · refine hs_one (st_if (hb_dec (p := k.length > 1 ∧ k.getD (k.length - 2) 0 = x) (hb_w (hw_and (hb_gt (he_lenO own_own 1 rfl B.len) he_int) fun c1 => (hw1 (hb_eqS (he_ixO own_own 1 rfl rfl (atI_neg (i := 2) ?_ ?_ 0) (he_neg he_int)) (he_var 2 rfl))))) ?_) (fun h => ?_) (fun h => ?_))
    · have h := of_decide_eq_true c1
      omega
    · have h := of_decide_eq_true c1
      omega
    · simp
      omega
    · have h := of_decide_eq_true h
      obtain ⟨m, a, b, h1, h2⟩ := last_two k h.1
      have e : stk k x = k.dropLast := if_pos h
      rw [e]
      have e3 : k = k.dropLast ++ [b] := by
        rw [h1, show m ++ [a, b] = (m ++ [a]) ++ [b] by simp, List.dropLast_concat]
      refine hs_one (st_pop own_own 1 (xs := k.dropLast) (y := b) (by rw [← e3]; rfl))
    · have h := of_decide_eq_false h
      have e : stk k x = k ++ [x] := if_neg h
      rw [e]
      exact hs_one (st_append own_own 1 rfl rfl (by omega) (he_var 2 rfl))

end

abbrev sWantRow : Stmt := topS 8
theorem scWantRow : FnScope ["row", "at", "coat"] ["row"] (defScope sWantRow) := ⟨rfl, rfl, rfl, by decide +kernel, rfl, by decide +kernel, by decide +kernel⟩
def spWantRow (K : PySem.W.Frag) : Sp := Spq K RowOk (fun r => [im (rv r)]) fun _ => .rt (rv ()) []
section
variable {P : Program} {w : World} {K : PySem.W.Frag} {mg : Str → Option Value} {base : Heap}
theorem ok_want_row {f : Addr} {fd : FuncData} (F : Fun K "want_row" "want_row" sWantRow f fd) (B : Blt mg) (GMOST_STONES : ∃ t, mg "MOST_STONES" = some (.int 200 t)) (GMOST_COATS : ∃ t, mg "MOST_COATS" = some (.int 8 t)) : FnG P w K mg base 1 f fd ["row"] (spWantRow K) := by
  unfold spWantRow

  refine fn_okq F scWantRow (fun _ => rfl) fun cdv Ar outer s H E hr row ⟨h1, h2, h3⟩ => ⟨.nx [im (rv row), un, un], fits_nx, ?_⟩
  show HSs _ _ _ [im (rv row), un, un] _
  refine hs_cut (hb_not (hb_leLe he_int (he_len (he_var 0 rfl) sq_tup B.len) (he_gint GMOST_STONES))) (fun h => ?_) (fun h => cut_nil ?_)
  · exfalso
    simp at h
    omega
  refine hs_one (st_for (passes_of rfl) rfl (hi_enT (xs := row) (he_var 0 rfl) B.enumerate) (lp_fold (α := Int × Int) (f := fun (_ : Unit) _ => ()) (S := Unit) (en := fun _ => [im (rv row), un, un]) (es := fun y _ => [im (rv row), im (rv y.1), im (rv y.2)]) (fun y k => hg_pair (x := y.1) (y := y.2) rfl (hg_name 1 scWantRow.nd) (hg_name 2 scWantRow.nd)) (fun _ _ => True) (enr 0 row) 0 () trivial fun i y k hy _ => ⟨trivial, ?_⟩))
  rw [enr_get] at hy
  cases q : row[i]? with
  | none => rw [q] at hy; cases hy
  | some z =>
    rw [q] at hy
    have hz := h3 z (List.mem_of_getElem? q)
    have hy : ((((0 + i : Nat) : Int), z) : Int × Int) = y := Option.some.inj hy
    subst hy
    refine hs_nxw (env1 := [im (rv row), im (rv (((0 + i : Nat) : Int))), im (rv z)]) (hs_one (st_if (c := false) (hb_eq (hb_not (hb_leLt he_int (he_var 2 rfl) (he_gint GMOST_COATS))) (by simp; omega)) (fun h => by cases h) fun _ => hs_nil)) (.k (.f (.f .nil)))

end

abbrev sRest : Stmt := topS 10
theorem scRest : FnScope ["row"] ["row"] (defScope sRest) := ⟨rfl, rfl, rfl, by decide +kernel, rfl, by decide +kernel, by decide +kernel⟩
abbrev kbRest : List (List Str × Nat × List Nat) := [(["row"], 0, [0])]
def spRest (K : PySem.W.Frag) : Sp := Spq K RowOk (fun r => [im (rv r)]) fun r => .rt (rv (struckM r)) []
section
variable {P : Program} {w : World} {K : PySem.W.Frag} {mg : Str → Option Value} {base : Heap}
theorem ok_rest {f : Addr} {fd : FuncData} (F : Fun K "rest" "rest" sRest f fd) (B : Blt mg) (dWantRow : Def P w K mg base "want_row" 1 ["row"] (spWantRow K)) (dStruck : Def P w K mg base "struck" 1 ["row"] (spStruck K)) : FnG P w K mg base 2 f fd ["row"] (spRest K) := by
  unfold spRest

  refine fn_okq F scRest (fun _ => rfl) fun cdv Ar outer s H E hr row hrow => ⟨oP 1 (struckM row), fits_P, ?_⟩
  show HSs _ _ _ [im (rv row)] _
  refine hs_cons (st_expr (he_call dWantRow _ ?_ (hr.mono (by decide)) (ha_cons (he_var 0 rfl) ha_nil))) ?_
  · exact hrow
  refine hs_one (st_retP (he_call dStruck _ ?_ (hr.mono (by decide)) (ha_cons (he_var 0 rfl) ha_nil)))
  · exact Nat.le_trans hrow.2.1 (by decide)

end

abbrev sParted : Stmt := topS 12
theorem scParted : FnScope ["row", "left", "begin", "end"] ["row"] (defScope sParted) := ⟨rfl, rfl, rfl, by decide +kernel, rfl, by decide +kernel, by decide +kernel⟩
def spParted (K : PySem.W.Frag) : Sp := Spq K (fun l : List Int => 1 ≤ l.length ∧ l.length ≤ 100000) (fun r => [im (rv r)]) fun r => .rt (rv (coreM r)) []
section
variable {P : Program} {w : World} {K : PySem.W.Frag} {mg : Str → Option Value} {base : Heap}
theorem ok_parted {f : Addr} {fd : FuncData} (F : Fun K "parted" "parted" sParted f fd) (B : Blt mg) (dStruck : Def P w K mg base "struck" 1 ["row"] (spStruck K)) : FnG P w K mg base 2 f fd ["row"] (spParted K) := by
  unfold spParted

  refine fn_okq F scParted (fun _ => rfl) fun cdv Ar outer s H E hr row ⟨hl1, hl⟩ => ⟨oP 4 (coreM row), fits_P, ?_⟩
  show HSs _ _ _ [im (rv row), un, un, un] _
  refine hs_cons (st_set 1 (he_call dStruck _ ?_ (hr.mono (by decide)) (ha_cons (he_var 0 rfl) ha_nil)) scParted.nd) ?_
  · exact hl
  have ll := struck_len row
  have l1 := struck_pos hl1
  have el : (tailB (struckM row) (coreB (struckM row)) :: [innB (struckM row) (coreB (struckM row))]) = coreM row := rfl
  rw [← el]
  generalize struckM row = l at ll l1
  obtain ⟨hS, hN⟩ := coreB_spec l
  have nB := st_len hS l1
  show HSs _ _ _ [im (rv row), im (rv l), un, un] _
  refine hs_cons (st_par 2 3 rfl scParted.nd (ha_cons he_int (ha_cons (he_len (he_var 1 rfl) sq_tup B.len) ha_nil))) ?_
  refine hs_whileE (fun b : Nat => [im (rv row), im (rv l), im (rv (b : Int)), im (rv ((l.length : Int) - (b : Int)))]) (fun b => b ≤ coreB l) (fun b => b = coreB l) (fun b => coreB l - b) (passes_of rfl) (fun b hb => ?_) 0 (Nat.zero_le _) (fun b hb => ?_)
  · by_cases e : b < coreB l
    · have he := hS b e
      have he1 := he.1
      refine .inr ⟨_, b + 1, hb_eq (hb_w (hw_and (hb_gt (he_sub (he_var 3 rfl) (he_var 2 rfl)) he_int) fun c1 => (hw1 (hb_eqS (he_ixT (atI_pos ?_ ?_ 0) (he_var 1 rfl) (he_add (he_var 2 rfl) he_int)) (he_ixT (atI_pos ?_ ?_ 0) (he_var 1 rfl) (he_sub (he_var 3 rfl) he_int)))))) ?_, ?_, by omega, by omega⟩
      · omega
      · omega
      · omega
      · omega
      · rw [show ((b : Int) + 1).toNat = b + 1 by omega, show ((l.length : Int) - (b : Int) - 2).toNat = l.length - b - 2 by omega, decide_eq_true he.2]
        simp
        omega
      · refine hs_cons (st_augAdd 2 rfl he_int scParted.nd) (hs_nxw (env1 := [im (rv row), im (rv l), im (rv ((b : Int) + 1)), im (rv ((l.length : Int) - (b : Int) - 1))]) (hs_one (st_augSub 3 rfl he_int scParted.nd)) ?_)
        have e1 : (b : Int) + 1 = ((b + 1 : Nat) : Int) := by omega
        have e2 : (l.length : Int) - (b : Int) - 1 = (l.length : Int) - ((b + 1 : Nat) : Int) := by omega
        rw [e1, e2]
        exact Weak.refl _
    · have e2 : b = coreB l := by omega
      subst e2
      refine .inl ⟨hb_eq (hb_w (hw_and (hb_gt (he_sub (he_var 3 rfl) (he_var 2 rfl)) he_int) fun c2 => (hw1 (hb_eqS (he_ixT (atI_pos ?_ ?_ 0) (he_var 1 rfl) (he_add (he_var 2 rfl) he_int)) (he_ixT (atI_pos ?_ ?_ 0) (he_var 1 rfl) (he_sub (he_var 3 rfl) he_int)))))) ?_, rfl⟩
      · omega
      · have h := of_decide_eq_true c2
        omega
      · have h := of_decide_eq_true c2
        omega
      · omega
      · rw [Bool.and_eq_false_iff]
        by_cases h1 : (2 : Int) < (l.length : Int) - (coreB l : Int) - (coreB l : Int)
        · refine .inr (decide_eq_false fun z => hN ⟨by omega, ?_⟩)
          rw [show ((coreB l : Int) + 1).toNat = coreB l + 1 by omega, show ((l.length : Int) - (coreB l : Int) - 2).toNat = l.length - coreB l - 2 by omega] at z
          exact z
        · exact .inl (decide_eq_false h1)
  · subst hb
    refine hs_one (st_retP (he_tup (al_cons (he_slT (he_var 1 rfl) ho_none (ho_some (he_add (he_var 2 rfl) he_int))) (al_cons (he_slT (he_var 1 rfl) (ho_some (he_var 2 rfl)) (ho_some (he_var 3 rfl))) al_nil))) ?_)
    rw [cut_lo l _ (by omega) (by omega), cut_mid l _ _ (by omega) (by omega) (by omega)]
    unfold tailB innB
    rw [show ((coreB l : Int) + 1).toNat = coreB l + 1 by omega, show ((coreB l : Int)).toNat = coreB l by omega, show ((l.length : Int) - (coreB l : Int)).toNat - coreB l = l.length - 2 * coreB l by omega]

end

abbrev sCore : Stmt := topS 13
theorem scCore : FnScope ["row"] ["row"] (defScope sCore) := ⟨rfl, rfl, rfl, by decide +kernel, rfl, by decide +kernel, by decide +kernel⟩
abbrev kbCore : List (List Str × Nat × List Nat) := [(["row"], 0, [0])]
def spCore (K : PySem.W.Frag) : Sp := Spq K ClosedOk (fun r => [im (rv r)]) fun r => .rt (rv (coreM r)) []
section
variable {P : Program} {w : World} {K : PySem.W.Frag} {mg : Str → Option Value} {base : Heap}
theorem ok_core {f : Addr} {fd : FuncData} (F : Fun K "core" "core" sCore f fd) (B : Blt mg) (dWantRow : Def P w K mg base "want_row" 1 ["row"] (spWantRow K)) (dParted : Def P w K mg base "parted" 2 ["row"] (spParted K)) : FnG P w K mg base 3 f fd ["row"] (spCore K) := by
  unfold spCore

  refine fn_okq F scCore (fun _ => rfl) fun cdv Ar outer s H E hr row ⟨h1, h3⟩ => ⟨oP 1 (coreM row), fits_P, ?_⟩
  have l1 := h1.1
  have l2 := h1.2.1
  show HSs _ _ _ [im (rv row)] _
  refine hs_cons (st_expr (he_call dWantRow _ ?_ (hr.mono (by decide)) (ha_cons (he_var 0 rfl) ha_nil))) ?_
  · exact h1
  refine hs_cut (hb_neS (he_ixT (atI_pos ?_ ?_ 0) (he_var 0 rfl) he_int) (he_ixT (atI_neg (i := 1) ?_ ?_ 0) (he_var 0 rfl) (he_neg he_int))) (fun h => ?_) (fun _ => cut_nil ?_)
  all_goals first | omega | skip
  · exfalso
    have : row.getD 0 0 = row.getD (row.length - 1) 0 → False := by simpa using h
    exact this h3
  refine hs_one (st_retP (he_call dParted _ ?_ (hr.mono (by decide)) (ha_cons (he_var 0 rfl) ha_nil)))
  · exact ⟨l1, Nat.le_trans l2 (by decide)⟩

end

abbrev sLawRest : Stmt := topS 18
theorem scLawRest : FnScope ["row", "kept", "coat"] ["row"] (defScope sLawRest) := ⟨rfl, rfl, rfl, by decide +kernel, rfl, by decide +kernel, by decide +kernel⟩
def spLawRest (K : PySem.W.Frag) : Sp := Spq K (fun l : List Int => l.length ≤ 100000) (fun r => [im (rv r)]) fun r => .rt (rv (struckM r)) []
section
variable {P : Program} {w : World} {K : PySem.W.Frag} {mg : Str → Option Value} {base : Heap}
theorem ok__law_rest {f : Addr} {fd : FuncData} (F : Fun K "_law_rest" "_law_rest" sLawRest f fd) (B : Blt mg) : FnG P w K mg base 1 f fd ["row"] (spLawRest K) := by
  unfold spLawRest

  refine fn_okq F scLawRest (fun _ => rfl) fun cdv Ar outer s H E hr row hrow => ⟨oP 3 (struckM row), fits_P, ?_⟩
  show HSs _ _ _ [im (rv row), un, un] _
  have hrow : row.length ≤ 100000 := hrow
  refine hs_cons (st_own 1 (hl_lst (xs := ([] : List Int)) al_nil) scLawRest.nd) ?_
  refine hs_cons (st_for (passes_of rfl) rfl (hi_tup (xs := row) (he_var 0 rfl)) (lp_fold (f := stk) (S := List Int) (en := fun k => [im (rv row), own k, un]) (es := fun x k => [im (rv row), own k, im (rv x)]) (fun x k => hg_name 2 scLawRest.nd) (fun i k => k.length ≤ i ∧ i ≤ row.length) row 0 [] ⟨Nat.le_refl _, Nat.zero_le _⟩ fun i x k hx hk => ⟨⟨Nat.le_trans (stk_len k x) (by omega), ?_⟩, hs_nxw (env1 := [im (rv row), own (stk k x), im (rv x)]) ?_ (.k (.k (.f .nil)))⟩)) (hs_end (st_retP (he_tupleO own_own 1 rfl B.tuple)) trivial)
  · have := (List.getElem?_eq_some_iff.mp hx).1
    omega
  · refine hs_one (st_if (hb_dec (p := k.length > 1 ∧ k.getD (k.length - 2) 0 = x) (hb_w (hw_and (hb_gt (he_lenO own_own 1 rfl B.len) he_int) fun c1 => (hw1 (hb_eqS (he_ixO own_own 1 rfl rfl (atI_neg (i := 2) ?_ ?_ 0) (he_neg he_int)) (he_var 2 rfl))))) ?_) (fun h => ?_) (fun h => ?_))
    · have h := of_decide_eq_true c1
      omega
    · have h := of_decide_eq_true c1
      omega
    · simp
      omega
    · have h := of_decide_eq_true h
      obtain ⟨m, a, b, h1, h2⟩ := last_two k h.1
      have e : stk k x = k.dropLast := if_pos h
      rw [e]
      have e3 : k = k.dropLast ++ [b] := by
        rw [h1, show m ++ [a, b] = (m ++ [a]) ++ [b] by simp, List.dropLast_concat]
      refine hs_one (st_pop own_own 1 (xs := k.dropLast) (y := b) (by rw [← e3]; rfl))
    · have h := of_decide_eq_false h
      have e : stk k x = k ++ [x] := if_neg h
      rw [e]
      exact hs_one (st_append own_own 1 rfl rfl (by omega) (he_var 2 rfl))

end

abbrev sLawTaken : Stmt := topS 22
theorem scLawTaken : FnScope ["row", "left", "tail"] ["row"] (defScope sLawTaken) := ⟨rfl, rfl, rfl, by decide +kernel, rfl, by decide +kernel, by decide +kernel⟩
def spLawTaken (K : PySem.W.Frag) : Sp := Spq K (fun l : List Int => 1 ≤ l.length ∧ l.length ≤ 100000) (fun r => [im (rv r)]) fun r => .rt (rv (coreM r)) []
section
variable {P : Program} {w : World} {K : PySem.W.Frag} {mg : Str → Option Value} {base : Heap}
theorem ok__law_taken {f : Addr} {fd : FuncData} (F : Fun K "_law_taken" "_law_taken" sLawTaken f fd) (B : Blt mg) (dLawRest : Def P w K mg base "_law_rest" 1 ["row"] (spLawRest K)) : FnG P w K mg base 2 f fd ["row"] (spLawTaken K) := by
  unfold spLawTaken

  refine fn_okq F scLawTaken (fun _ => rfl) fun cdv Ar outer s H E hr row ⟨hl1, hl⟩ => ⟨oP 3 (coreM row), fits_P, ?_⟩
  show HSs _ _ _ [im (rv row), un, un] _
  refine hs_cons (st_set 1 (he_lst (hl_list (he_call dLawRest _ ?_ (hr.mono (by decide)) (ha_cons (he_var 0 rfl) ha_nil)) sq_tup B.list)) scLawTaken.nd) ?_
  · exact hl
  have ll := struck_len row
  have l1 := struck_pos hl1
  have el : (tailB (struckM row) (coreB (struckM row)) :: [innB (struckM row) (coreB (struckM row))]) = coreM row := rfl
  rw [← el]
  generalize struckM row = l at ll l1
  obtain ⟨hS, hN⟩ := coreB_spec l
  have nB := st_len hS l1
  show HSs _ _ _ [im (rv row), im (rv (Lst.mk l)), un] _
  refine hs_cons (st_own 2 (hl_sl (he_var 1 rfl) ho_none (ho_some he_int)) scLawTaken.nd) ?_
  have e0 : cut l none (some 1) = tailB l 0 := cut_lo l 1 (by decide) (by omega)
  have e1 : l = innB l 0 := by unfold innB; rw [List.drop_zero]; exact (List.take_of_length_le (by omega)).symm
  show HSs _ _ _ [im (rv row), im (rv (Lst.mk l)), own (cut l none (some 1))] _
  rw [e0]
  refine (fun (q : HSs _ _ _ [im (rv row), im (rv (Lst.mk (innB l 0))), own (tailB l 0)] _) => by rw [← e1] at q; exact q) ?_
  refine hs_whileE (fun b : Nat => [im (rv row), im (rv (Lst.mk (innB l b))), own (tailB l b)]) (fun b => b ≤ coreB l) (fun b => b = coreB l) (fun b => coreB l - b) (passes_of rfl) (fun b hb => ?_) 0 (Nat.zero_le _) (fun b hb => ?_)
  · have n1 : 2 * b + 1 ≤ l.length := by omega
    have n2 := inn_len n1
    by_cases e : b < coreB l
    · have he := hS b e
      have he1 := he.1
      have g1 : innB l (b + 1) = cut (innB l b) (some 1) (some (-1)) := by
        rw [cut_1m1 _ (by omega), n2]
        unfold innB
        rw [List.drop_take, List.take_take, List.drop_drop]
        congr 1
        omega
      have n4 := inn_len (l := l) (b := b + 1) (by omega)
      have g2 : tailB l (b + 1) = tailB l b ++ [(innB l (b + 1)).getD 0 0] := by
        rw [inn_get (by omega)]
        unfold tailB
        rw [List.take_succ_eq_append_getElem (by omega), List.getD_eq_getElem?_getD, List.getElem?_eq_getElem (by omega)]
        rfl
      refine .inr ⟨_, b + 1, hb_eq (hb_w (hw_and (hb_gt (he_len (he_var 1 rfl) sq_lst B.len) he_int) fun c1 => (hw1 (hb_eqS (he_ixL (atI_pos ?_ ?_ 0) (he_var 1 rfl) he_int) (he_ixL (atI_neg (i := 2) ?_ ?_ 0) (he_var 1 rfl) (he_neg he_int)))))) ?_, ?_, by omega, by omega⟩
      · decide
      · show (1 : Int) < ((innB l b).length : Int)
        omega
      · decide
      · show 2 ≤ (innB l b).length
        omega
      · show (decide ((2 : Int) < ((innB l b).length : Int)) && decide ((innB l b).getD 1 0 = (innB l b).getD ((innB l b).length - 2) 0)) = true
        rw [inn_get (by omega), n2, inn_get (by omega), he.2, show b + (l.length - 2 * b - 2) = l.length - b - 2 by omega]
        simp
        omega
      · refine hs_cons (st_set 1 (he_lst (hl_sl (he_var 1 rfl) (ho_some he_int) (ho_some (he_neg he_int)))) scLawTaken.nd) ?_
        show HSs _ _ _ [im (rv row), im (rv (Lst.mk (cut (innB l b) (some 1) (some (-1))))), own (tailB l b)] _
        rw [← g1, g2]
        refine hs_one (st_append own_own 2 rfl rfl (by unfold tailB; rw [List.length_take]; omega) (he_ixL (atI_pos ?_ ?_ 0) (he_var 1 rfl) he_int))
        · decide
        · show (0 : Int) < ((innB l (b + 1)).length : Int)
          omega
    · have e2 : b = coreB l := by omega
      subst e2
      refine .inl ⟨hb_eq (hb_w (hw_and (hb_gt (he_len (he_var 1 rfl) sq_lst B.len) he_int) fun c2 => (hw1 (hb_eqS (he_ixL (atI_pos ?_ ?_ 0) (he_var 1 rfl) he_int) (he_ixL (atI_neg (i := 2) ?_ ?_ 0) (he_var 1 rfl) (he_neg he_int)))))) ?_, rfl⟩
      · decide
      · have h := of_decide_eq_true c2
        exact Int.lt_trans (by decide) h
      · decide
      · have h : (2 : Int) < ((innB l (coreB l)).length : Int) := of_decide_eq_true c2
        show 2 ≤ (innB l (coreB l)).length
        omega
      · show (decide ((2 : Int) < ((innB l (coreB l)).length : Int)) && decide ((innB l (coreB l)).getD 1 0 = (innB l (coreB l)).getD ((innB l (coreB l)).length - 2) 0)) = false
        rw [Bool.and_eq_false_iff]
        by_cases h1 : (2 : Int) < ((innB l (coreB l)).length : Int)
        · refine .inr (decide_eq_false fun z => hN ⟨by omega, ?_⟩)
          rw [inn_get (by omega), n2, inn_get (by omega), show coreB l + (l.length - 2 * coreB l - 2) = l.length - coreB l - 2 by omega] at z
          exact z
        · exact .inl (decide_eq_false h1)
  · subst hb
    refine hs_one (st_retP (he_tup (al_cons (he_tupleO own_own 2 rfl B.tuple) (al_cons (he_tupleL (he_var 1 rfl) B.tuple) al_nil))))

end


/-! what the law draws -/
def Clo (co : Int) (r : List Int) : Prop := 1 ≤ r.length ∧ (∀ c ∈ r, 0 ≤ c ∧ c < co) ∧ r.getD 0 0 = r.getD (r.length - 1) 0
theorem Clo.ok {co : Int} {r : List Int} (h : Clo co r) (hc : co ≤ 8) (hl : r.length ≤ 200) : ClosedOk r := ⟨⟨h.1, hl, fun c hm => by have := h.2.1 c hm; omega⟩, h.2.2⟩
theorem clo_take {co : Int} {r : List Int} (h : ∀ c ∈ r, 0 ≤ c ∧ c < co) (l : 1 ≤ r.length) : Clo co (r ++ r.take 1) := by
  obtain ⟨y, u, e⟩ := cons_of l
  subst e
  refine ⟨by simp, fun c hc => ?_, ?_⟩
  · rw [List.mem_append] at hc
    exact hc.elim (h c) fun z => h c (List.mem_of_mem_take z)
  · rw [last_app (by simp)]
    simp
theorem clo_take2 {co : Int} {r : List Int} (h : ∀ c ∈ r, 0 ≤ c ∧ c < co) (l : 1 ≤ r.length) : Clo co (r ++ r ++ r.take 1) := by
  obtain ⟨y, u, e⟩ := cons_of l
  subst e
  refine ⟨by simp, fun c hc => ?_, ?_⟩
  · rw [List.mem_append, List.mem_append] at hc
    exact hc.elim (fun z => z.elim (h c) (h c)) fun z => h c (List.mem_of_mem_take z)
  · rw [last_app (by simp)]
    simp
theorem clo_pal {co : Int} {r : List Int} (h : ∀ c ∈ r, 0 ≤ c ∧ c < co) (l : 1 ≤ r.length) : Clo co (r ++ r.reverse.drop 1) := by
  refine ⟨by rw [List.length_append]; omega, fun c hc => ?_, ?_⟩
  · rw [List.mem_append] at hc
    exact hc.elim (h c) fun z => h c (by simpa using List.mem_of_mem_drop z)
  · rw [last_jn (b := r.reverse) (by rw [List.length_reverse]; exact l) l (head_rev r).symm, head_app _ l, List.length_reverse, last_rev]
theorem clo_wrap {co : Int} {t r : List Int} (h : ∀ c ∈ t, 0 ≤ c ∧ c < co) (k : Clo co r) : Clo co (t ++ r ++ t.reverse) := by
  refine ⟨by rw [List.length_append, List.length_append]; have := k.1; omega, fun c hc => ?_, ?_⟩
  · rw [List.mem_append, List.mem_append] at hc
    exact hc.elim (fun z => z.elim (h c) (k.2.1 c)) fun z => h c (by simpa using z)
  · by_cases e : t = []
    · subst e
      simpa using k.2.2
    · have lt : 1 ≤ t.length := List.length_pos_iff.mpr e
      rw [last_app (by rw [List.length_reverse]; exact lt), List.length_reverse, last_rev, List.append_assoc, head_app _ lt]
theorem clo_ins {co c : Int} {r : List Int} {a : Nat} (k : Clo co r) (ha : a < r.length) (hc : 0 ≤ c ∧ c < co) : Clo co (r.take (a + 1) ++ [c, r.getD a 0] ++ r.drop (a + 1)) := by
  have lt : 1 ≤ (r.take (a + 1)).length := by rw [List.length_take]; omega
  refine ⟨by rw [List.length_append, List.length_append]; omega, fun x hx => ?_, ?_⟩
  · rw [List.mem_append, List.mem_append] at hx
    rcases hx with (hx | hx) | hx
    · exact k.2.1 x (List.mem_of_mem_take hx)
    · simp at hx
      rcases hx with hx | hx
      · rw [hx]; exact hc
      · rw [hx]
        have := k.2.1 _ (getD_mem (d := 0) ha)
        simpa using this
    · exact k.2.1 x (List.mem_of_mem_drop hx)
  · have e0 : (r.take (a + 1) ++ [c, r.getD a 0] ++ r.drop (a + 1)).getD 0 0 = r.getD 0 0 := by
      rw [List.append_assoc, head_app _ lt, List.getD_eq_getElem?_getD, List.getElem?_take_of_lt (by omega), ← List.getD_eq_getElem?_getD]
    rw [e0, k.2.2]
    by_cases e : a + 1 = r.length
    · rw [List.drop_eq_nil_of_le (by omega), List.append_nil, last_app (by simp)]
      show _ = r.getD a 0
      congr 1
      omega
    · rw [last_app (by rw [List.length_drop]; omega), List.length_drop, drop_get]
      congr 1
      omega

abbrev sLawRing : Stmt := topS 19
theorem scLawRing : FnScope ["source", "coats", "size", "some", "k"] ["source", "coats"] (defScope sLawRing) := ⟨rfl, rfl, rfl, by decide +kernel, rfl, by decide +kernel, by decide +kernel⟩
def spLawRing (K : PySem.W.Frag) : Sp := Spq K (fun a : List Int × Int => Val a.1 ∧ 1 ≤ a.2 ∧ a.2 ≤ 8) (fun a => [par a.1, im (rv a.2)]) fun a => .rt (exP fun z : Lst Int => Clo a.2 z.l ∧ z.l.length ≤ 13) [(0, exS par Val)]
section
variable {P : Program} {w : World} {K : PySem.W.Frag} {mg : Str → Option Value} {base : Heap}
theorem ok__law_ring {f : Addr} {fd : FuncData} (F : Fun K "_law_ring" "_law_ring" sLawRing f fd) (B : Blt mg) (dLawTake : Def P w K mg base "_law_take" 1 ["source", "top"] (spLawTake K)) (dLawOne : Def P w K mg base "_law_one" 2 ["source", "things"] (spLawOne K)) : FnG P w K mg base 3 f fd ["source", "coats"] (spLawRing K) := by
  unfold spLawRing

  refine fn_okq F scLawRing (fun _ => rfl) fun cdv Ar outer s H E hr ⟨src, co⟩ ⟨hsrc, hc1, hc8⟩ => ⟨.rt (exP fun z : Lst Int => Clo co z.l ∧ z.l.length ≤ 13) [exS par Val, un, un, un, un], fits_rt1, ?_⟩
  have hsrc : Val src := hsrc
  have hc1 : 1 ≤ co := hc1
  have hc8 : co ≤ 8 := hc8
  show HSs _ _ _ [par src, im (rv co), un, un, un] _
  refine hs_cons (st_set 2 (he_call1 own_par 0 dLawOne (_, _) ?_ (hr.mono (by decide)) (ha_cons (he_lst (hl_lst (al_cons he_int (al_cons he_int (al_cons he_int (al_cons he_int (al_cons he_int (al_cons he_int al_nil)))))))) ha_nil)) scLawRing.nd) ?_
  · exact onp [1, 3, 3, 4, 5, 6] hsrc (by decide) (by decide)
  refine hs_abs 2 (fun i : Int => im (rv i)) (fun i => 1 ≤ i ∧ i ≤ 6) (b := [1, 3, 3, 4, 5, 6].getD (tk src ((6 : Nat) : Int)).1.toNat 0) ?_ rfl fun m hm => ?_
  · have h := tk_lt (s := src) (t := ((6 : Nat) : Int)) (by decide)
    have h2 := getD_mem (xs := ([1, 3, 3, 4, 5, 6] : List Int)) (d := 0) (i := (tk src ((6 : Nat) : Int)).1.toNat) (by show _ < 6; omega)
    revert h2
    generalize ([1, 3, 3, 4, 5, 6] : List Int).getD (tk src ((6 : Nat) : Int)).1.toNat 0 = z
    intro h2
    simp at h2
    omega
  refine hs_abs 0 par Val (b := (tk src ((6 : Nat) : Int)).2) (tk_val hsrc) rfl fun src hsrc => ?_
  show HSs _ _ _ [par src, im (rv co), im (rv m), un, un] _
  obtain ⟨q1, q2⟩ := scn_all (fun s (_ : Int) => tk s co) Val (fun c => 0 ≤ c ∧ c < co) (fun s x h => tk_val h) (fun s x h => tk_lt (by omega)) (rng 0 m.toNat) src hsrc
  have q3 := scn_len (fun s (_ : Int) => tk s co) (rng 0 m.toNat) src
  rw [rng_len] at q3
  refine hs_cons (st_ownLc 3 (own' := [("k", 4)]) rfl scLawRing.nd (hi_rng1 (he_var 2 rfl) ?_ B.range) (blkOk_by rfl) ?_ (cl_scn (S := List Int) (fun s (_ : Int) => tk s co) Val (fun s x h => tk_val h) (en := fun s => [par s, im (rv co), im (rv m), un, un]) (es := fun s x => [par s, im (rv co), im (rv m), un, im (rv x)]) (fun s x => rfl) rfl (rng 0 (m).toNat) (src) (hsrc) (fun x hx s0 h s H C cl fp => hg_name 4 scLawRing.nd) (fun x hx s0 h s H C cl fp => he_call1 own_par 0 dLawTake (_, _) (tkp co h (by omega) (by omega)) (hr.mono (by decide)) (ha_cons (he_var 1 rfl) ha_nil))) lc_env) ?_
  · omega
  · rw [rvs_len, rng_len]
    omega
  refine hs_freeze 3 rfl ?_
  revert q1 q2 q3
  generalize scn (fun s (_ : Int) => tk s co) src (rng 0 m.toNat) = z
  obtain ⟨some, src⟩ := z
  intro q1 q2 q3
  have q1 : ∀ c ∈ some, 0 ≤ c ∧ c < co := q1
  have q2 : Val src := q2
  have q3 : some.length = m.toNat := q3
  show HSs _ _ _ [par src, im (rv co), im (rv m), im (rv (Lst.mk some)), un] _
  have l1 : 1 ≤ some.length := by omega
  have e1 : cut some none (Option.some 1) = some.take 1 := cut_lo some 1 (by decide) (by omega)
  refine hs_one (st_retX (φ := fun z : Lst Int => Clo co z.l ∧ z.l.length ≤ 13) (he_if (hb_gt (he_call1 own_par 0 dLawTake (_, _) ?_ (hr.mono (by decide)) (ha_cons he_int ha_nil)) he_int) (fun h => he_ex (he_lst (hl_rep1 ?_ (he_lst (hl_cat ?_ (he_var 3 rfl) (he_lst (hl_sl (he_var 3 rfl) ho_none (ho_some he_int))))) he_int)) ?_) (fun h => he_ex (he_lst (hl_cat ?_ (he_lst (hl_cat ?_ (he_var 3 rfl) (he_var 3 rfl))) (he_lst (hl_sl (he_var 3 rfl) ho_none (ho_some he_int))))) ?_)) (fun z h => h) (.x (tk_val q2) (.f (.f (.f (.f .nil))))))
  · exact tkp 3 q2 (by decide) (by decide)
  · show (some ++ cut some none (Option.some 1)).length ≤ 100000
    rw [e1, List.length_append, List.length_take]
    omega
  · show some.length + (cut some none (Option.some 1)).length ≤ 100000
    rw [e1, List.length_take]
    omega
  · show Clo co (some ++ cut some none (Option.some 1)) ∧ (some ++ cut some none (Option.some 1)).length ≤ 13
    rw [e1]
    exact ⟨clo_take q1 l1, by rw [List.length_append, List.length_take]; omega⟩
  · show (some ++ some).length + (cut some none (Option.some 1)).length ≤ 100000
    rw [e1, List.length_append, List.length_take]
    omega
  · show some.length + some.length ≤ 100000
    omega
  · show Clo co (some ++ some ++ cut some none (Option.some 1)) ∧ (some ++ some ++ cut some none (Option.some 1)).length ≤ 13
    rw [e1]
    exact ⟨clo_take2 q1 l1, by rw [List.length_append, List.length_append, List.length_take]; omega⟩

end

abbrev sLawShaken : Stmt := topS 20
theorem scLawShaken : FnScope ["source", "row", "coats", "turn", "at"] ["source", "row", "coats"] (defScope sLawShaken) := ⟨rfl, rfl, rfl, by decide +kernel, rfl, by decide +kernel, by decide +kernel⟩
def spLawShaken (K : PySem.W.Frag) : Sp := Spq K (fun a : (List Int × Lst Int) × Int => Val a.1.1 ∧ (Clo a.2 a.1.2.l ∧ a.1.2.l.length ≤ 100) ∧ 1 ≤ a.2 ∧ a.2 ≤ 8) (fun a => [par a.1.1, im (rv a.1.2), im (rv a.2)]) fun a => .rt (exP fun z : Lst Int => Clo a.2 z.l ∧ z.l.length ≤ 106) [(0, exS par Val)]
section
variable {P : Program} {w : World} {K : PySem.W.Frag} {mg : Str → Option Value} {base : Heap}
theorem ok__law_shaken {f : Addr} {fd : FuncData} (F : Fun K "_law_shaken" "_law_shaken" sLawShaken f fd) (B : Blt mg) (dLawTake : Def P w K mg base "_law_take" 1 ["source", "top"] (spLawTake K)) : FnG P w K mg base 2 f fd ["source", "row", "coats"] (spLawShaken K) := by
  unfold spLawShaken

  refine fn_okq F scLawShaken (fun _ => rfl) fun cdv Ar outer s H E hr ⟨⟨src, ⟨row⟩⟩, co⟩ ⟨hsrc, ⟨hcl, hln⟩, hc1, hc8⟩ => ⟨.rt (exP fun z : Lst Int => Clo co z.l ∧ z.l.length ≤ 106) [exS par Val, un, un, un, un], fits_rt1, ?_⟩
  have hsrc : Val src := hsrc
  have hcl : Clo co row := hcl
  have hln : row.length ≤ 100 := hln
  have hc1 : 1 ≤ co := hc1
  have hc8 : co ≤ 8 := hc8
  show HSs _ _ _ [par src, im (rv (Lst.mk row)), im (rv co), un, un] _
  obtain ⟨src4, hs4⟩ : ∃ z, z = src := ⟨src, rfl⟩
  have h4 := tk_lt (s := src4) (t := 4) (by decide)
  rw [hs4] at h4
  refine hs_forE (rng 0 (tk src 4).1.toNat) (fun z : List Int × List Int => [par z.1, im (rv (Lst.mk z.2)), im (rv co), un, un]) (fun k z => Val z.1 ∧ Clo co z.2 ∧ z.2.length ≤ 100 + 2 * k) ((tk src 4).2, row) (passes_of rfl) rfl (hi_rng1 (he_call1 own_par 0 dLawTake (_, _) ?_ (hr.mono (by decide)) (ha_cons he_int ha_nil)) ?_ B.range) ⟨tk_val hsrc, hcl, hln⟩ (fun k y ⟨src, row⟩ hy ⟨i1, i2, i3⟩ => ?_) (fun ⟨src, row⟩ ⟨i1, i2, i3⟩ => ?_)
  · exact tkp 4 hsrc (by decide) (by decide)
  · omega
  · have i1 : Val src := i1
    have i2 : Clo co row := i2
    have i3 : row.length ≤ 100 + 2 * k := i3
    have hk : k < 3 := by
      have := (List.getElem?_eq_some_iff.mp hy).1
      rw [rng_len] at this
      omega
    have l1 := i2.1
    have ha := tk_lt (s := src) (t := (row.length : Int)) (by omega)
    have hv := tk_lt (s := (tk src (row.length : Int)).2) (t := co) (by omega)
    refine ⟨_, _, ((tk (tk src (row.length : Int)).2 co).2, row.take ((tk src (row.length : Int)).1.toNat + 1) ++ [(tk (tk src (row.length : Int)).2 co).1, row.getD (tk src (row.length : Int)).1.toNat 0] ++ row.drop ((tk src (row.length : Int)).1.toNat + 1)), hg_name 3 scLawShaken.nd, ?_, tk_val (tk_val i1), clo_ins i2 (by omega) hv, ?_⟩
    · refine hs_cons (st_set 4 (he_call1 own_par 0 dLawTake (_, _) ?_ (hr.mono (by decide)) (ha_cons (he_len (he_var 1 rfl) sq_lst B.len) ha_nil)) scLawShaken.nd) ?_
      · exact tkp (row.length : Int) i1 (by omega) (by omega)
      show HSs _ _ _ [par (tk src (row.length : Int)).2, im (rv (Lst.mk row)), im (rv co), im (rv y), im (rv (tk src (row.length : Int)).1)] _
      have i4 := tk_val (t := (row.length : Int)) i1
      generalize (tk src (row.length : Int)).2 = s1 at hv i4
      generalize (tk src (row.length : Int)).1 = a at ha
      have e1 := cut_lo row (a + 1) (by omega) (by omega)
      have e2 := cut_hi row (a + 1) (by omega)
      rw [show (a + 1).toNat = a.toNat + 1 by omega] at e1 e2
      rw [← e1, ← e2]
      refine hs_nxw (env1 := [par (tk s1 co).2, im (rv (Lst.mk (cut row none (some (a + 1)) ++ [(tk s1 co).1, row.getD a.toNat 0] ++ cut row (some (a + 1)) none))), im (rv co), im (rv y), im (rv a)]) (hs_one (st_set 1 (he_lst (hl_cat ?_ (he_lst (hl_cat ?_ (he_lst (hl_sl (he_var 1 rfl) ho_none (ho_some (he_add (he_var 4 rfl) he_int)))) (he_lst (hl_lst (al_cons (he_call1 own_par 0 dLawTake (_, _) ?_ (hr.mono (by decide)) (ha_cons (he_var 2 rfl) ha_nil)) (al_cons (he_ixL (atI_pos ?_ ?_ 0) (he_var 1 rfl) (he_var 4 rfl)) al_nil)))))) (he_lst (hl_sl (he_var 1 rfl) (ho_some (he_add (he_var 4 rfl) he_int)) ho_none)))) scLawShaken.nd)) (.k (.k (.k (.f (.f .nil)))))
      all_goals first | exact tkp co i4 (by omega) (by omega) | omega | exact ha.2 | skip
      · show (cut row none (some (a + 1)) ++ [(tk s1 co).1, row.getD a.toNat 0]).length + (cut row (some (a + 1)) none).length ≤ 100000
        rw [List.length_append, e1, e2, List.length_take, List.length_drop]
        show min (a.toNat + 1) row.length + 2 + _ ≤ _
        omega
      · show (cut row none (some (a + 1))).length + 2 ≤ 100000
        rw [e1, List.length_take]
        omega
    · show List.length (row.take ((tk src (row.length : Int)).1.toNat + 1) ++ [(tk (tk src (row.length : Int)).2 co).1, row.getD (tk src (row.length : Int)).1.toNat 0] ++ row.drop ((tk src (row.length : Int)).1.toNat + 1)) ≤ 100 + 2 * (k + 1)
      rw [List.length_append, List.length_append, List.length_take, List.length_drop]
      show min ((tk src (row.length : Int)).1.toNat + 1) row.length + 2 + _ ≤ _
      omega
  · rw [rng_len] at i3
    refine hs_one (st_retE (φ := fun z : Lst Int => Clo co z.l ∧ z.l.length ≤ 106) (he_var 1 rfl) ⟨i2, ?_⟩ (.x i1 (.f (.f (.f (.f .nil))))))
    have i3 : row.length ≤ _ := i3
    show row.length ≤ 106
    omega

end

abbrev sLawClosed : Stmt := topS 21
theorem scLawClosed : FnScope ["source", "coats", "way", "tail", "k", "row"] ["source"] (defScope sLawClosed) := ⟨rfl, rfl, rfl, by decide +kernel, rfl, by decide +kernel, by decide +kernel⟩
def spLawClosed (K : PySem.W.Frag) : Sp := Spq K Val (fun s => [par s]) fun _ => .rt (exP ClosedOk) [(0, exS par Val)]
section
variable {P : Program} {w : World} {K : PySem.W.Frag} {mg : Str → Option Value} {base : Heap}
theorem ok__law_closed {f : Addr} {fd : FuncData} (F : Fun K "_law_closed" "_law_closed" sLawClosed f fd) (B : Blt mg) (dLawTake : Def P w K mg base "_law_take" 1 ["source", "top"] (spLawTake K)) (dLawOne : Def P w K mg base "_law_one" 2 ["source", "things"] (spLawOne K)) (dLawRing : Def P w K mg base "_law_ring" 3 ["source", "coats"] (spLawRing K)) (dLawShaken : Def P w K mg base "_law_shaken" 2 ["source", "row", "coats"] (spLawShaken K)) : FnG P w K mg base 4 f fd ["source"] (spLawClosed K) := by
  unfold spLawClosed

  refine fn_okq F scLawClosed (fun _ => rfl) fun cdv Ar outer s H E hr src hsrc => ⟨.rt (exP ClosedOk) [exS par Val, un, un, un, un, un], fits_rt1, ?_⟩
  show HSs _ _ _ [par src, un, un, un, un, un] _
  refine hs_cons (st_asg (he_pair (he_add he_int (he_call1 own_par 0 dLawTake (_, _) ?_ (hr.mono (by decide)) (ha_cons he_int ha_nil))) (he_call1 own_par 0 dLawTake (_, _) ?_ (hr.mono (by decide)) (ha_cons he_int ha_nil))) (hg_pair rfl (hg_name 1 scLawClosed.nd) (hg_name 2 scLawClosed.nd))) ?_
  · exact tkp 7 hsrc (by decide) (by decide)
  · exact tkp 4 (tk_val hsrc) (by decide) (by decide)
  refine hs_abs 1 (fun i : Int => im (rv i)) (fun i => 1 ≤ i ∧ i ≤ 8) (b := 2 + (tk src 7).1) ?_ rfl fun co hco => ?_
  · have := tk_lt (s := src) (t := 7) (by decide)
    omega
  refine hs_abs 2 (fun i : Int => im (rv i)) (fun _ => True) (b := (tk (tk src 7).2 4).1) trivial rfl fun way _ => ?_
  refine hs_abs 0 par Val (b := (tk (tk src 7).2 4).2) (tk_val (tk_val hsrc)) rfl fun src hsrc => ?_
  show HSs _ _ _ [par src, im (rv co), im (rv way), un, un, un] _
  obtain ⟨hc1, hc8⟩ := hco
  have t5 := tk_lt (s := src) (t := 5) (by decide)
  obtain ⟨q1, q2⟩ := scn_all (fun s (_ : Int) => tk s co) Val (fun c => 0 ≤ c ∧ c < co) (fun s x h => tk_val h) (fun s x h => tk_lt (by omega)) (rng 0 (tk src 5).1.toNat) (tk src 5).2 (tk_val hsrc)
  have q3 := scn_len (fun s (_ : Int) => tk s co) (rng 0 (tk src 5).1.toNat) (tk src 5).2
  rw [rng_len] at q3
  refine hs_cons (st_ownLc 3 (own' := [("k", 4)]) rfl scLawClosed.nd (hi_rng1 (he_call1 own_par 0 dLawTake (_, _) ?_ (hr.mono (by decide)) (ha_cons he_int ha_nil)) ?_ B.range) (blkOk_by rfl) ?_ (cl_scn (S := List Int) (fun s (_ : Int) => tk s co) Val (fun s x h => tk_val h) (en := fun s => [par s, im (rv co), im (rv way), un, un, un]) (es := fun s x => [par s, im (rv co), im (rv way), un, im (rv x), un]) (fun s x => rfl) rfl (rng 0 ((tk src 5).1).toNat) ((tk src 5).2) ((tk_val hsrc)) (fun x hx s0 h s H C cl fp => hg_name 4 scLawClosed.nd) (fun x hx s0 h s H C cl fp => he_call1 own_par 0 dLawTake (_, _) (tkp co h (by omega) (by omega)) (hr.mono (by decide)) (ha_cons (he_var 1 rfl) ha_nil))) lc_env) ?_
  · exact tkp 5 hsrc (by decide) (by decide)
  · omega
  · rw [rvs_len, rng_len]
    omega
  refine hs_freeze 3 rfl ?_
  revert q1 q2 q3
  generalize scn (fun s (_ : Int) => tk s co) (tk src 5).2 (rng 0 (tk src 5).1.toNat) = z
  obtain ⟨tail, src1⟩ := z
  intro q1 q2 q3
  have q1 : ∀ c ∈ tail, 0 ≤ c ∧ c < co := q1
  have q2 : Val src1 := q2
  have q3 : tail.length = (tk src 5).1.toNat := q3
  have q4 : tail.length ≤ 4 := by omega
  show HSs _ _ _ [par src1, im (rv co), im (rv way), im (rv (Lst.mk tail)), un, un] _
  refine hs_cut (hb_eqS (he_var 2 rfl) he_int) (fun h => cut_end ?_ trivial) (fun h => cut_nil ?_)
  · have hv := tk_lt (s := src1) (t := co) (by omega)
    refine hs_cons (st_set 5 (he_lst (hl_cat ?_ (he_var 3 rfl) (he_lst (hl_lst (al_cons (he_call1 own_par 0 dLawTake (_, _) ?_ (hr.mono (by decide)) (ha_cons (he_var 1 rfl) ha_nil)) al_nil))))) scLawClosed.nd) ?_
    · show tail.length + 1 ≤ 100000
      omega
    · exact tkp co q2 (by omega) (by omega)
    show HSs _ _ _ [par (tk src1 co).2, im (rv co), im (rv way), im (rv (Lst.mk tail)), un, im (rv (Lst.mk (tail ++ [(tk src1 co).1])))] _
    have e1 : ∀ c ∈ tail ++ [(tk src1 co).1], 0 ≤ c ∧ c < co := fun c hc => by
      rw [List.mem_append] at hc
      rcases hc with hc | hc
      · exact q1 c hc
      · rw [List.mem_singleton] at hc; rw [hc]; exact hv
    have e2 : (tail ++ [(tk src1 co).1]).length = tail.length + 1 := by rw [List.length_append]; rfl
    have q5 := tk_val (t := co) q2
    generalize tail ++ [(tk src1 co).1] = row at e1 e2
    generalize (tk src1 co).2 = s2 at q5
    have e3 : cut row.reverse (some 1) none = row.reverse.drop 1 := cut_1 _
    refine hs_one (st_retX (he_tupleLE (he_call1E own_par 0 dLawShaken ((_, _), _) ?_ (hr.mono (by decide)) (ha_cons (he_lst (hl_cat ?_ (he_var 5 rfl) (he_lst (hl_sl (he_lst (hl_revL (he_var 5 rfl))) (ho_some he_int) ho_none)))) (ha_cons (he_var 1 rfl) ha_nil))) B.tuple) (fun y hy => ?_) (.cons (fun K i x w h => h) (.f (.f (.f (.f (.f .nil)))))))
    · refine ⟨q5, ⟨?_, ?_⟩, hc1, hc8⟩
      · show Clo co (row ++ cut row.reverse (some 1) none)
        rw [e3]
        exact clo_pal e1 (by omega)
      · show (row ++ cut row.reverse (some 1) none).length ≤ 100
        rw [e3, List.length_append, List.length_drop, List.length_reverse]
        omega
    · show row.length + (cut row.reverse (some 1) none).length ≤ 100000
      rw [e3, List.length_drop, List.length_reverse]
      omega
    · obtain ⟨z, ⟨h1, h2⟩, h3⟩ := hy
      rw [h3]
      exact Clo.ok h1 hc8 (by omega)
  refine hs_cut (hb_eqS (he_var 2 rfl) he_int) (fun h => cut_end ?_ trivial) (fun h => cut_nil ?_)
  · have t7 := tk_lt (s := src1) (t := ((5 : Nat) : Int)) (by decide)
    have hn : 1 ≤ ([1, 2, 4, 7, 20] : List Int).getD (tk src1 ((5 : Nat) : Int)).1.toNat 0 ∧ ([1, 2, 4, 7, 20] : List Int).getD (tk src1 ((5 : Nat) : Int)).1.toNat 0 ≤ 20 := by
      have h2 := getD_mem (xs := ([1, 2, 4, 7, 20] : List Int)) (d := 0) (i := (tk src1 ((5 : Nat) : Int)).1.toNat) (by show _ < 5; omega)
      revert h2
      generalize ([1, 2, 4, 7, 20] : List Int).getD (tk src1 ((5 : Nat) : Int)).1.toNat 0 = z
      intro h2
      simp at h2
      omega
    obtain ⟨p1, p2⟩ := scn_all (fun s (_ : Int) => tk s co) Val (fun c => 0 ≤ c ∧ c < co) (fun s x h => tk_val h) (fun s x h => tk_lt (by omega)) (rng 0 (([1, 2, 4, 7, 20] : List Int).getD (tk src1 ((5 : Nat) : Int)).1.toNat 0).toNat) (tk src1 ((5 : Nat) : Int)).2 (tk_val q2)
    have p3 := scn_len (fun s (_ : Int) => tk s co) (rng 0 (([1, 2, 4, 7, 20] : List Int).getD (tk src1 ((5 : Nat) : Int)).1.toNat 0).toNat) (tk src1 ((5 : Nat) : Int)).2
    rw [rng_len] at p3
    refine hs_cons (st_ownLc 5 (own' := [("k", 4)]) rfl scLawClosed.nd (hi_rng1 (he_call1 own_par 0 dLawOne (_, _) ?_ (hr.mono (by decide)) (ha_cons (he_lst (hl_lst (al_cons he_int (al_cons he_int (al_cons he_int (al_cons he_int (al_cons he_int al_nil))))))) ha_nil)) ?_ B.range) (blkOk_by rfl) ?_ (cl_scn (S := List Int) (fun s (_ : Int) => tk s co) Val (fun s x h => tk_val h) (en := fun s => [par s, im (rv co), im (rv way), im (rv (Lst.mk tail)), un, un]) (es := fun s x => [par s, im (rv co), im (rv way), im (rv (Lst.mk tail)), im (rv x), un]) (fun s x => rfl) rfl (rng 0 (([1, 2, 4, 7, 20] : List Int).getD (tk src1 ((5 : Nat) : Int)).1.toNat 0).toNat) ((tk src1 ((5 : Nat) : Int)).2) ((tk_val q2)) (fun x hx s0 h s H C cl fp => hg_name 4 scLawClosed.nd) (fun x hx s0 h s H C cl fp => he_call1 own_par 0 dLawTake (_, _) (tkp co h (by omega) (by omega)) (hr.mono (by decide)) (ha_cons (he_var 1 rfl) ha_nil))) lc_env) ?_
    · exact onp [1, 2, 4, 7, 20] q2 (by decide) (by decide)
    · show -(2 ^ 62) ≤ ([1, 2, 4, 7, 20] : List Int).getD (tk src1 ((5 : Nat) : Int)).1.toNat 0 ∧ ([1, 2, 4, 7, 20] : List Int).getD (tk src1 ((5 : Nat) : Int)).1.toNat 0 < 2 ^ 62
      omega
    · show (rvs (rng 0 (([1, 2, 4, 7, 20] : List Int).getD (tk src1 ((5 : Nat) : Int)).1.toNat 0).toNat)).length ≤ 100000
      rw [rvs_len, rng_len]
      omega
    refine hs_freeze 5 rfl ?_
    revert p1 p2 p3
    generalize scn (fun s (_ : Int) => tk s co) (tk src1 ((5 : Nat) : Int)).2 (rng 0 (([1, 2, 4, 7, 20] : List Int).getD (tk src1 ((5 : Nat) : Int)).1.toNat 0).toNat) = z
    obtain ⟨row, s2⟩ := z
    intro p1 p2 p3
    have p1 : ∀ c ∈ row, 0 ≤ c ∧ c < co := p1
    have p2 : Val s2 := p2
    have p3 : row.length = (([1, 2, 4, 7, 20] : List Int).getD (tk src1 ((5 : Nat) : Int)).1.toNat 0).toNat := p3
    show HSs _ _ _ [par s2, im (rv co), im (rv way), im (rv (Lst.mk tail)), un, im (rv (Lst.mk row))] _
    have e1 : cut row none (some 1) = row.take 1 := cut_lo row 1 (by decide) (by omega)
    refine hs_one (st_retE (he_tupleL (he_lst (hl_cat ?_ (he_var 5 rfl) (he_lst (hl_sl (he_var 5 rfl) ho_none (ho_some he_int))))) B.tuple) ?_ (.x p2 (.f (.f (.f (.f (.f .nil)))))))
    · show row.length + (cut row none (some 1)).length ≤ 100000
      rw [e1, List.length_take]
      omega
    · show ClosedOk (row ++ cut row none (some 1))
      rw [e1]
      exact (clo_take p1 (by omega)).ok hc8 (by rw [List.length_append, List.length_take]; omega)
  refine hs_letE (he_catEL (fun ys hy => ?_) (he_catLE (fun ys hy => ?_) (he_var 3 rfl) (he_call1E own_par 0 dLawRing (_, _) ?_ (hr.mono (by decide)) (ha_cons (he_var 1 rfl) ha_nil))) (he_lst (hl_revL (he_var 3 rfl)))) fun y hy => ?_
  · obtain ⟨z, ⟨hz1, hz2⟩, hz3⟩ := hy
    rw [hz3]
    show (tail ++ z.l).length + tail.reverse.length ≤ 100000
    rw [List.length_append, List.length_reverse]
    omega
  · have := hy.2
    show tail.length + _ ≤ _
    omega
  · exact ⟨q2, hc1, hc8⟩
  obtain ⟨z1, ⟨⟨z⟩, ⟨hz1, hz2⟩, hz3⟩, hz4⟩ := hy
  subst hz4 hz3
  have hz1 : Clo co z := hz1
  have hz2 : z.length ≤ 13 := hz2
  refine ⟨_, _, hg_name 5 scLawClosed.nd, ?_⟩
  show HSs _ _ _ [exS par Val, im (rv co), im (rv way), im (rv (Lst.mk tail)), un, im (rv (Lst.mk (tail ++ z ++ tail.reverse)))] _
  refine hs_open 0 rfl fun s2 q5 => ?_
  show HSs _ _ _ [par s2, im (rv co), im (rv way), im (rv (Lst.mk tail)), un, im (rv (Lst.mk (tail ++ z ++ tail.reverse)))] _
  refine hs_one (st_retX (he_tupleLE (he_call1E own_par 0 dLawShaken ((_, _), _) ?_ (hr.mono (by decide)) (ha_cons (he_var 5 rfl) (ha_cons (he_var 1 rfl) ha_nil))) B.tuple) (fun y hy => ?_) (.cons (fun K i x w h => h) (.f (.f (.f (.f (.f .nil)))))))
  · refine ⟨q5, ⟨clo_wrap q1 hz1, ?_⟩, hc1, hc8⟩
    show (tail ++ z ++ tail.reverse).length ≤ 100
    rw [List.length_append, List.length_append, List.length_reverse]
    omega
  · obtain ⟨z, ⟨h1, h2⟩, h3⟩ := hy
    rw [h3]
    exact Clo.ok h1 hc8 (by omega)

end

abbrev sLawRight : Stmt := topS 23
theorem scLawRight : FnScope ["row", "told", "tail", "inner", "whole", "steps"] ["row"] (defScope sLawRight) := ⟨rfl, rfl, rfl, by decide +kernel, rfl, by decide +kernel, by decide +kernel⟩
def spLawRight (K : PySem.W.Frag) : Sp := Spq K ClosedOk (fun r => [im (rv r)]) fun _ => .rt (rv true) []
section
variable {P : Program} {w : World} {K : PySem.W.Frag} {mg : Str → Option Value} {base : Heap}
theorem ok__law_right {f : Addr} {fd : FuncData} (F : Fun K "_law_right" "_law_right" sLawRight f fd) (B : Blt mg) (dCore : DefK P w K mg base "core" 3 ["row"] (spCore K) kbCore) (dLawTaken : Def P w K mg base "_law_taken" 2 ["row"] (spLawTaken K)) (dRest : DefK P w K mg base "rest" 2 ["row"] (spRest K) kbRest) (dLawRest : Def P w K mg base "_law_rest" 1 ["row"] (spLawRest K)) : FnG P w K mg base 4 f fd ["row"] (spLawRight K) := by
  unfold spLawRight
  have eCore := dCore.d
  have eRest := dRest.d

  refine fn_okq F scLawRight (fun _ => rfl) fun cdv Ar outer s H E hr row hcl => ⟨oP 6 true, fits_P, ?_⟩
  obtain ⟨hrow, hends⟩ := id hcl
  have l1 := hrow.1
  have l2 := hrow.2.1
  show HSs _ _ _ [im (rv row), un, un, un, un, un] _
  refine hs_cons (st_set 1 (he_call eCore _ ?_ (hr.mono (by decide)) (ha_cons (he_var 0 rfl) ha_nil)) scLawRight.nd) ?_
  · exact hcl
  show HSs _ _ _ [im (rv row), im (rv (coreM row)), un, un, un, un] _
  refine hs_cut (hb_w (hw_or (hb_neD (α := (List (List Int))) hr (he_var 1 rfl) (he_call dLawTaken _ ?_ (hr.mono (by decide)) (ha_cons (he_var 0 rfl) ha_nil))) fun c2 => (hw_or (hb_not (hb_val (he_isiT (T' := "tuple") (c := true) (by decide +kernel) (by decide +kernel) (he_var 1 rfl) B.isinstance B.tuple))) fun c1 => (hwo1 (hb_neS (he_len (he_var 1 rfl) sq_tup B.len) he_int))))) (fun h => ?_) (fun _ => cut_nil ?_)
  · exact ⟨l1, Nat.le_trans l2 (by decide)⟩
  · exfalso
    have h : (!decide (coreM row = coreM row) || (!true || !decide (((coreM row).length : Int) = 2))) = true := h
    have e : (coreM row).length = 2 := rfl
    rw [e] at h
    simp at h
  have hl := struck_len row
  have hl1 := struck_pos l1
  have hrd := rd_struck row
  have hc : (struckM row).getD 0 0 = (struckM row).getD ((struckM row).length - 1) 0 := by rw [struck_last, struck_head]; exact hends
  have hself := struck_rd hrd
  have hco : CoreOk (struckM row) (tailB (struckM row) (coreB (struckM row))) (innB (struckM row) (coreB (struckM row))) := core_ok hrd hl1 hc
  have hcm : coreM row = [tailB (struckM row) (coreB (struckM row)), innB (struckM row) (coreB (struckM row))] := rfl
  have hcw : coreM (struckM row) = coreM row := by unfold coreM; rw [hself]
  have hrok := struck_ok hrow
  have hh := struck_head row
  rw [hcm] at hcw ⊢
  generalize tailB (struckM row) (coreB (struckM row)) = t at hco hcw
  generalize innB (struckM row) (coreB (struckM row)) = i at hco hcw
  have lt := hco.t1
  have li := hco.i1
  have hln := hco.ln
  refine hs_cons (st_asg (he_var 1 rfl) (hg_two rfl (hg_name 2 scLawRight.nd) (hg_name 3 scLawRight.nd))) ?_
  refine hs_cons (st_set 4 (he_call eRest _ ?_ (hr.mono (by decide)) (ha_cons (he_var 0 rfl) ha_nil)) scLawRight.nd) ?_
  · exact hrow
  show HSs _ _ _ [im (rv row), im (rv [t, i]), im (rv t), im (rv i), im (rv (struckM row)), un] _
  refine hs_cut (hb_w (hw_or (hb_neS (he_ixT (atI_pos ?_ ?_ 0) (he_var 2 rfl) he_int) (he_ixT (atI_pos ?_ ?_ 0) (he_var 0 rfl) he_int)) fun c4 => (hw_or (hb_neS (he_ixT (atI_neg (i := 1) ?_ ?_ 0) (he_var 2 rfl) (he_neg he_int)) (he_ixT (atI_pos ?_ ?_ 0) (he_var 3 rfl) he_int)) fun c3 => (hwo1 (hb_neS (he_ixT (atI_pos ?_ ?_ 0) (he_var 3 rfl) he_int) (he_ixT (atI_neg (i := 1) ?_ ?_ 0) (he_var 3 rfl) (he_neg he_int))))))) (fun h => ?_) (fun _ => cut_nil ?_)
  all_goals first | omega | skip
  · exfalso
    have h : (!decide (t.getD 0 0 = row.getD 0 0) || (!decide (t.getD (t.length - 1) 0 = i.getD 0 0) || !decide (i.getD 0 0 = i.getD (i.length - 1) 0))) = true := h
    rw [hco.t0, hco.ti, hh, ← hco.ii] at h
    simp at h
  have ci := cut_1 i
  have cr := cut_1 t.reverse
  refine hs_cut (hb_w (hw_or (hb_neD (α := (List Int)) hr (he_catT ?_ (he_catT ?_ (he_var 2 rfl) (he_slT (he_var 3 rfl) (ho_some he_int) ho_none)) (he_slT (he_revT (he_var 2 rfl)) (ho_some he_int) ho_none)) (he_var 4 rfl)) fun c6 => (hw_or (hb_neD (α := (List Int)) hr (he_call dLawRest _ ?_ (hr.mono (by decide)) (ha_cons (he_var 2 rfl) ha_nil)) (he_var 2 rfl)) fun c5 => (hwo1 (hb_neD (α := (List Int)) hr (he_call dLawRest _ ?_ (hr.mono (by decide)) (ha_cons (he_var 3 rfl) ha_nil)) (he_var 3 rfl)))))) (fun h => ?_) (fun _ => cut_nil ?_)
  · show (t ++ cut i (some 1) none).length + (cut t.reverse (some 1) none).length ≤ 100000
    rw [List.length_append, ci, cr, List.length_drop, List.length_drop, List.length_reverse]
    omega
  · show t.length + (cut i (some 1) none).length ≤ 100000
    rw [ci, List.length_drop]
    omega
  · show t.length ≤ 100000
    omega
  · show i.length ≤ 100000
    omega
  · exfalso
    have h : (!decide (t ++ cut i (some 1) none ++ cut t.reverse (some 1) none = struckM row) || (!decide (struckM t = t) || !decide (struckM i = i))) = true := h
    rw [ci, cr, hco.wh, struck_rd hco.rt, struck_rd hco.ri] at h
    simp at h
  refine hs_cons (st_set 5 (he_sub (he_len (he_var 3 rfl) sq_tup B.len) he_int) scLawRight.nd) ?_
  show HSs _ _ _ [im (rv row), im (rv [t, i]), im (rv t), im (rv i), im (rv (struckM row)), im (rv ((i.length : Int) - 1))] _
  refine hs_cut (hb_w (hw_or (hb_neS (he_sub (he_len (he_var 4 rfl) sq_tup B.len) he_int) (he_add (he_mul ?_ he_int (he_sub (he_len (he_var 2 rfl) sq_tup B.len) he_int)) (he_var 5 rfl))) fun c7 => (hwo1 (hb_eqS (he_var 5 rfl) he_int)))) (fun h => ?_) (fun _ => cut_nil ?_)
  · exact cmul_l (by decide)
  · exfalso
    have h : (!decide (((struckM row).length : Int) - 1 = 2 * ((t.length : Int) - 1) + ((i.length : Int) - 1)) || decide ((i.length : Int) - 1 = 2)) = true := h
    have e1 : ((struckM row).length : Int) - 1 = 2 * ((t.length : Int) - 1) + ((i.length : Int) - 1) := by omega
    have e2 : ¬ (i.length : Int) - 1 = 2 := by have := hco.n3; omega
    rw [decide_eq_true e1, decide_eq_false e2] at h
    cases h
  obtain ⟨s1, s2⟩ := core_self hco.op hco.n3 li
  have hci : coreM i = [i.take 1, i] := by
    unfold coreM
    rw [struck_rd hco.ri, s1, s2]
  have y1 : cut i none (some 1) = i.take 1 := cut_lo i 1 (by decide) (by omega)
  have iok : ∀ c ∈ i, c ∈ struckM row := fun c hc => by
    rw [← hco.wh, List.mem_append, List.mem_append]
    by_cases e : c ∈ i.drop 1
    · exact .inl (.inr e)
    · obtain ⟨z, u, ez⟩ := cons_of li
      have : c = z := by
        rw [ez] at hc e
        simpa [show c ∉ u from e] using hc
      have e3 : c = t.getD (t.length - 1) 0 := by rw [hco.ti, this, ez]; rfl
      exact .inl (.inl (by rw [e3]; exact getD_mem (by omega)))
  refine hs_one (st_retP (he_and (he_or (he_lt (he_var 5 rfl) he_int) fun c8 => (he_one (he_neS (he_ixT (atI_pos ?_ ?_ 0) (he_var 3 rfl) he_int) (he_ixT (atI_neg (i := 2) ?_ ?_ 0) (he_var 3 rfl) (he_neg he_int))))) fun c10 => (he_and (he_eqD (α := (List (List Int))) hr (he_callK0 dCore _ ?_ (hr.mono (by decide)) (hk_cons (he_var 4 rfl) hk_nil) (hq := (List.Mem.head _))) (he_var 1 rfl)) fun c9 => (he_one (he_eqD (α := (List (List Int))) hr (he_call eCore _ ?_ (hr.mono (by decide)) (ha_cons (he_var 3 rfl) ha_nil)) (he_tup (al_cons (he_slT (he_var 3 rfl) ho_none (ho_some he_int)) (al_cons (he_var 3 rfl) al_nil))))))) ?_)
  · decide
  · have h : ¬ (i.length : Int) - 1 < 3 := (by first | exact of_decide_eq_false c1 | exact of_decide_eq_false c2 | exact of_decide_eq_false c3 | exact of_decide_eq_false c4 | exact of_decide_eq_false c5 | exact of_decide_eq_false c6 | exact of_decide_eq_false c7 | exact of_decide_eq_false c8 | exact of_decide_eq_false c9 | exact of_decide_eq_false c10 | exact of_decide_eq_false c11 | exact of_decide_eq_false c12 | exact of_decide_eq_false c13)
    omega
  · decide
  · have h : ¬ (i.length : Int) - 1 < 3 := (by first | exact of_decide_eq_false c1 | exact of_decide_eq_false c2 | exact of_decide_eq_false c3 | exact of_decide_eq_false c4 | exact of_decide_eq_false c5 | exact of_decide_eq_false c6 | exact of_decide_eq_false c7 | exact of_decide_eq_false c8 | exact of_decide_eq_false c9 | exact of_decide_eq_false c10 | exact of_decide_eq_false c11 | exact of_decide_eq_false c12 | exact of_decide_eq_false c13)
    omega
  · exact ⟨hrok, hc⟩
  · exact ⟨⟨li, by omega, fun c hc => hrok.2.2 c (iok c hc)⟩, hco.ii⟩
  · show ((decide ((i.length : Int) - 1 < 3) || !decide (i.getD 1 0 = i.getD (i.length - 2) 0)) && (decide (coreM (struckM row) = [t, i]) && decide (coreM i = [cut i none (some 1), i]))) = true
    rw [hcw, y1, hci]
    by_cases h : (i.length : Int) - 1 < 3
    · rw [decide_eq_true h]
      simp
    · rw [decide_eq_false (hco.op (by omega))]
      simp

end

abbrev sLaw : Stmt := topS 24
theorem scLaw : FnScope ["script", "k", "source", "great", "place"] ["script"] (defScope sLaw) := ⟨rfl, rfl, rfl, by decide +kernel, rfl, by decide +kernel, by decide +kernel⟩
def spLaw0 (K : PySem.W.Frag) : Sp := Spq K (fun l : List Int => l.length ≤ 63) (fun l => [im (rv (Lsr.mk l))]) fun _ => .rt (rv true) []
section
variable {P : Program} {w : World} {K : PySem.W.Frag} {mg : Str → Option Value} {base : Heap}
theorem ok_law {f : Addr} {fd : FuncData} (F : Fun K "law" "law" sLaw f fd) (B : Blt mg) (dLawTake : Def P w K mg base "_law_take" 1 ["source", "top"] (spLawTake K)) (dLawPool : Def P w K mg base "_law_pool" 1 ["script", "k"] (spLawPool K)) (dLawClosed : Def P w K mg base "_law_closed" 4 ["source"] (spLawClosed K)) (dLawRight : Def P w K mg base "_law_right" 4 ["row"] (spLawRight K)) : FnG P w K mg base 5 f fd ["script"] (spLaw0 K) := by
  unfold spLaw0

  refine fn_okq F scLaw (fun _ => rfl) fun cdv Ar outer s H E hr l hl => ⟨oP 5 true, fits_P, ?_⟩
  have hl : l.length ≤ 63 := hl
  show HSs _ _ _ [im (rv (Lsr.mk l)), un, un, un, un] _
  refine hs_forE (rng 0 (max 1 (min (l.length : Int) 3)).toNat) (fun _ : Unit => [im (rv (Lsr.mk l)), un, un, un, un]) (fun _ _ => True) () (passes_of rfl) rfl (hi_rng1 (he_max2 rfl he_int (he_min2 rfl (he_len (he_var 0 rfl) sq_lsr B.len) he_int B.min) B.max) ?_ B.range) trivial (fun i k s hk _ => ⟨_, _, (), hg_name 1 scLaw.nd, ?_, trivial⟩) (fun _ _ => ?_)
  · show _ ≤ max 1 (min (l.length : Int) 3) ∧ max 1 (min (l.length : Int) 3) < _
    omega
  · have hk := mem_rng.mp (List.mem_of_getElem? hk)
    refine hs_cons (st_own 2 (hl_call dLawPool (_, _) ?_ (hr.mono (by decide)) (ha_cons (he_var 0 rfl) (ha_cons (he_var 1 rfl) ha_nil))) scLaw.nd) ?_
    · exact ⟨hl, hk.1, by show k ≤ 1000; omega⟩
    have hp := pool_val l k
    show HSs _ _ _ [im (rv (Lsr.mk l)), im (rv k), own (poolM l k), un, un] _
    generalize poolM l k = src at hp
    refine hs_nxw (env1 := [im (rv (Lsr.mk l)), im (rv k), exS own Val, un, un]) (hs_one (st_if0 (hb_w (hw_or (d := !true) (hb_not (hb_val (he_callX dLawRight (fun _ h => h) (hr.mono (by decide)) (he_call1E own_own 2 dLawClosed _ ?_ (hr.mono (by decide)) ha_nil)))) fun _ => hwo1 (hb_not (hb_val (he_open (env := [im (rv (Lsr.mk l)), im (rv k), exS own Val, un, un]) (mk := own) (φ := Val) 2 rfl fun s2 h2 => he_callX dLawRight (fun _ h => h) (hr.mono (by decide)) (he_call1E (env := [im (rv (Lsr.mk l)), im (rv k), own s2, un, un]) (env1 := [im (rv (Lsr.mk l)), im (rv k), own s2, un, un]) own_own 2 dLawClosed _ h2 (hr.mono (by decide)) ha_nil)))))) rfl hs_nil)) (.k (.f (.f (.f (.f .nil)))))
    exact hp
  show HSs _ _ _ [im (rv (Lsr.mk l)), un, un, un, un] _
  refine hs_cons (st_own 2 (hl_call dLawPool (_, _) ?_ (hr.mono (by decide)) (ha_cons (he_var 0 rfl) (ha_cons he_int ha_nil))) scLaw.nd) ?_
  · exact ⟨hl, Int.le_refl 0, by show (0 : Int) ≤ 1000; decide⟩
  have hp := pool_val l 0
  show HSs _ _ _ [im (rv (Lsr.mk l)), un, own (poolM l 0), un, un] _
  generalize poolM l 0 = src at hp
  obtain ⟨q1, q2⟩ := scn_all (fun s (_ : Int) => tk s 3) Val (fun c => 0 ≤ c ∧ c < 3) (fun s x h => tk_val h) (fun s x h => tk_lt (by decide)) (rng 0 (199 : Int).toNat) src hp
  have q3 := scn_len (fun s (_ : Int) => tk s 3) (rng 0 (199 : Int).toNat) src
  rw [rng_len] at q3
  refine hs_cons (st_ownLc 3 (own' := [("place", 4)]) rfl scLaw.nd (hi_rng1 he_int ?_ B.range) (blkOk_by rfl) ?_ (cl_scn (S := List Int) (fun s (_ : Int) => tk s 3) Val (fun s x h => tk_val h) (en := fun s => [im (rv (Lsr.mk l)), un, own s, un, un]) (es := fun s x => [im (rv (Lsr.mk l)), un, own s, un, im (rv x)]) (fun s x => rfl) rfl (rng 0 ((199 : Int)).toNat) (src) (hp) (fun x hx s0 h s H C cl fp => hg_name 4 scLaw.nd) (fun x hx s0 h s H C cl fp => he_call1 own_own 2 dLawTake (_, _) (tkp 3 h (by decide) (by decide)) (hr.mono (by decide)) (ha_cons he_int ha_nil))) lc_env) ?_
  · decide
  · rw [rvs_len, rng_len]
    decide
  refine hs_freeze 3 rfl ?_
  revert q1 q2 q3
  generalize scn (fun s (_ : Int) => tk s 3) src (rng 0 (199 : Int).toNat) = z
  obtain ⟨row, s2⟩ := z
  intro q1 q2 q3
  have q1 : ∀ c ∈ row, 0 ≤ c ∧ c < 3 := q1
  have q3 : row.length = 199 := q3
  show HSs _ _ _ [im (rv (Lsr.mk l)), un, own s2, im (rv (Lst.mk row)), un] _
  have e1 : cut row none (some 1) = row.take 1 := cut_lo row 1 (by decide) (by omega)
  refine hs_one (st_retP (he_call dLawRight _ ?_ (hr.mono (by decide)) (ha_cons (he_tupleL (he_lst (hl_cat ?_ (he_var 3 rfl) (he_lst (hl_sl (he_var 3 rfl) ho_none (ho_some he_int))))) B.tuple) ha_nil)))
  · show ClosedOk (row ++ cut row none (some 1))
    rw [e1]
    exact (clo_take q1 (by omega)).ok (by decide) (by rw [List.length_append, List.length_take]; omega)
  · show row.length + (cut row none (some 1)).length ≤ 100000
    rw [e1, List.length_take]
    omega

end

/-! ### the end -/
theorem all_mk {l : PySem.W.OpenLaw} {w : World} {K : PySem.W.Frag} {h : Heap} {mg : Str → Option Value} {fa : Addr} (X : K.In h) (G : h.Ns mainGlobals mg) (hfa : mg "law" = some (.ref fa))
    {tMOST_STONES : Tok} {tMOST_COATS : Tok} {f0 : Addr} {od0 an0 : Option Addr} {sl0 : Array (Option Value)} {oc0 kV0 dc0 pm0 cd0 ct0 : Value} {f1 : Addr} {od1 an1 : Option Addr} {sl1 : Array (Option Value)} {oc1 kV1 dc1 pm1 cd1 ct1 : Value} {f2 : Addr} {od2 an2 : Option Addr} {sl2 : Array (Option Value)} {oc2 kV2 dc2 pm2 cd2 ct2 : Value} {f3 : Addr} {od3 an3 : Option Addr} {sl3 : Array (Option Value)} {oc3 kV3 dc3 pm3 cd3 ct3 : Value} {f4 : Addr} {od4 an4 : Option Addr} {sl4 : Array (Option Value)} {oc4 kV4 dc4 pm4 cd4 ct4 : Value} {f5 : Addr} {od5 an5 : Option Addr} {sl5 : Array (Option Value)} {oc5 kV5 dc5 pm5 cd5 ct5 : Value} {f6 : Addr} {od6 an6 : Option Addr} {sl6 : Array (Option Value)} {oc6 kV6 dc6 pm6 cd6 ct6 : Value} {f7 : Addr} {od7 an7 : Option Addr} {sl7 : Array (Option Value)} {oc7 kV7 dc7 pm7 cd7 ct7 : Value} {f8 : Addr} {od8 an8 : Option Addr} {sl8 : Array (Option Value)} {oc8 kV8 dc8 pm8 cd8 ct8 : Value} {f9 : Addr} {od9 an9 : Option Addr} {sl9 : Array (Option Value)} {oc9 kV9 dc9 pm9 cd9 ct9 : Value} {f10 : Addr} {od10 an10 : Option Addr} {sl10 : Array (Option Value)} {oc10 kV10 dc10 pm10 cd10 ct10 : Value} {f11 : Addr} {od11 an11 : Option Addr} {sl11 : Array (Option Value)} {oc11 kV11 dc11 pm11 cd11 ct11 : Value} {f12 : Addr} {od12 an12 : Option Addr} {sl12 : Array (Option Value)} {oc12 kV12 dc12 pm12 cd12 ct12 : Value} {f13 : Addr} {od13 an13 : Option Addr} {sl13 : Array (Option Value)} {oc13 kV13 dc13 pm13 cd13 ct13 : Value} {f14 : Addr} {od14 an14 : Option Addr} {sl14 : Array (Option Value)} {oc14 kV14 dc14 pm14 cd14 ct14 : Value}
    (z0 : PySem.W.nsIn K mainGlobals "len" = some none) (z1 : PySem.W.nsIn K mainGlobals "tuple" = some none) (z2 : PySem.W.nsIn K mainGlobals "list" = some none) (z3 : PySem.W.nsIn K mainGlobals "int" = some none) (z4 : PySem.W.nsIn K mainGlobals "max" = some none) (z5 : PySem.W.nsIn K mainGlobals "min" = some none) (z6 : PySem.W.nsIn K mainGlobals "repr" = some none) (z7 : PySem.W.nsIn K mainGlobals "isinstance" = some none) (z8 : PySem.W.nsIn K mainGlobals "range" = some none) (z9 : PySem.W.nsIn K mainGlobals "enumerate" = some none)
 (gMOST_STONES : PySem.W.nsIn K mainGlobals "MOST_STONES" = some (some (.int 200 tMOST_STONES)))
 (gMOST_COATS : PySem.W.nsIn K mainGlobals "MOST_COATS" = some (some (.int 8 tMOST_COATS)))
 (a0 : PySem.W.nsIn K mainGlobals "_law_pool" = some (some (.ref f0))) (l0 : K.lookup f0 = some ⟨oc0, od0, .func (PySem.W.fnOf "_law_pool" "_law_pool" (defArgs sLawPool) (defBody sLawPool) (defScope sLawPool) .none kV0 dc0 pm0 an0 cd0 ct0), sl0⟩) (c0 : PySem.W.codeIn K cd0 "_law_pool" = true) (k0 : PySem.W.keepIn K (.ref f0) = true)
 (a1 : PySem.W.nsIn K mainGlobals "_law_take" = some (some (.ref f1))) (l1 : K.lookup f1 = some ⟨oc1, od1, .func (PySem.W.fnOf "_law_take" "_law_take" (defArgs sLawTake) (defBody sLawTake) (defScope sLawTake) .none kV1 dc1 pm1 an1 cd1 ct1), sl1⟩) (c1 : PySem.W.codeIn K cd1 "_law_take" = true) (k1 : PySem.W.keepIn K (.ref f1) = true)
 (a2 : PySem.W.nsIn K mainGlobals "_law_one" = some (some (.ref f2))) (l2 : K.lookup f2 = some ⟨oc2, od2, .func (PySem.W.fnOf "_law_one" "_law_one" (defArgs sLawOne) (defBody sLawOne) (defScope sLawOne) .none kV2 dc2 pm2 an2 cd2 ct2), sl2⟩) (c2 : PySem.W.codeIn K cd2 "_law_one" = true) (k2 : PySem.W.keepIn K (.ref f2) = true)
 (a3 : PySem.W.nsIn K mainGlobals "struck" = some (some (.ref f3))) (l3 : K.lookup f3 = some ⟨oc3, od3, .func (PySem.W.fnOf "struck" "struck" (defArgs sStruck) (defBody sStruck) (defScope sStruck) .none kV3 dc3 pm3 an3 cd3 ct3), sl3⟩) (c3 : PySem.W.codeIn K cd3 "struck" = true) (k3 : PySem.W.keepIn K (.ref f3) = true)
 (a4 : PySem.W.nsIn K mainGlobals "want_row" = some (some (.ref f4))) (l4 : K.lookup f4 = some ⟨oc4, od4, .func (PySem.W.fnOf "want_row" "want_row" (defArgs sWantRow) (defBody sWantRow) (defScope sWantRow) .none kV4 dc4 pm4 an4 cd4 ct4), sl4⟩) (c4 : PySem.W.codeIn K cd4 "want_row" = true) (k4 : PySem.W.keepIn K (.ref f4) = true)
 (a5 : PySem.W.nsIn K mainGlobals "rest" = some (some (.ref f5))) (l5 : K.lookup f5 = some ⟨oc5, od5, .func (PySem.W.fnOf "rest" "rest" (defArgs sRest) (defBody sRest) (defScope sRest) .none kV5 dc5 pm5 an5 cd5 ct5), sl5⟩) (c5 : PySem.W.codeIn K cd5 "rest" = true) (k5 : PySem.W.keepIn K (.ref f5) = true)
 (a6 : PySem.W.nsIn K mainGlobals "parted" = some (some (.ref f6))) (l6 : K.lookup f6 = some ⟨oc6, od6, .func (PySem.W.fnOf "parted" "parted" (defArgs sParted) (defBody sParted) (defScope sParted) .none kV6 dc6 pm6 an6 cd6 ct6), sl6⟩) (c6 : PySem.W.codeIn K cd6 "parted" = true) (k6 : PySem.W.keepIn K (.ref f6) = true)
 (a7 : PySem.W.nsIn K mainGlobals "core" = some (some (.ref f7))) (l7 : K.lookup f7 = some ⟨oc7, od7, .func (PySem.W.fnOf "core" "core" (defArgs sCore) (defBody sCore) (defScope sCore) .none kV7 dc7 pm7 an7 cd7 ct7), sl7⟩) (c7 : PySem.W.codeIn K cd7 "core" = true) (k7 : PySem.W.keepIn K (.ref f7) = true)
 (a8 : PySem.W.nsIn K mainGlobals "_law_rest" = some (some (.ref f8))) (l8 : K.lookup f8 = some ⟨oc8, od8, .func (PySem.W.fnOf "_law_rest" "_law_rest" (defArgs sLawRest) (defBody sLawRest) (defScope sLawRest) .none kV8 dc8 pm8 an8 cd8 ct8), sl8⟩) (c8 : PySem.W.codeIn K cd8 "_law_rest" = true) (k8 : PySem.W.keepIn K (.ref f8) = true)
 (a9 : PySem.W.nsIn K mainGlobals "_law_taken" = some (some (.ref f9))) (l9 : K.lookup f9 = some ⟨oc9, od9, .func (PySem.W.fnOf "_law_taken" "_law_taken" (defArgs sLawTaken) (defBody sLawTaken) (defScope sLawTaken) .none kV9 dc9 pm9 an9 cd9 ct9), sl9⟩) (c9 : PySem.W.codeIn K cd9 "_law_taken" = true) (k9 : PySem.W.keepIn K (.ref f9) = true)
 (a10 : PySem.W.nsIn K mainGlobals "_law_ring" = some (some (.ref f10))) (l10 : K.lookup f10 = some ⟨oc10, od10, .func (PySem.W.fnOf "_law_ring" "_law_ring" (defArgs sLawRing) (defBody sLawRing) (defScope sLawRing) .none kV10 dc10 pm10 an10 cd10 ct10), sl10⟩) (c10 : PySem.W.codeIn K cd10 "_law_ring" = true) (k10 : PySem.W.keepIn K (.ref f10) = true)
 (a11 : PySem.W.nsIn K mainGlobals "_law_shaken" = some (some (.ref f11))) (l11 : K.lookup f11 = some ⟨oc11, od11, .func (PySem.W.fnOf "_law_shaken" "_law_shaken" (defArgs sLawShaken) (defBody sLawShaken) (defScope sLawShaken) .none kV11 dc11 pm11 an11 cd11 ct11), sl11⟩) (c11 : PySem.W.codeIn K cd11 "_law_shaken" = true) (k11 : PySem.W.keepIn K (.ref f11) = true)
 (a12 : PySem.W.nsIn K mainGlobals "_law_closed" = some (some (.ref f12))) (l12 : K.lookup f12 = some ⟨oc12, od12, .func (PySem.W.fnOf "_law_closed" "_law_closed" (defArgs sLawClosed) (defBody sLawClosed) (defScope sLawClosed) .none kV12 dc12 pm12 an12 cd12 ct12), sl12⟩) (c12 : PySem.W.codeIn K cd12 "_law_closed" = true) (k12 : PySem.W.keepIn K (.ref f12) = true)
 (a13 : PySem.W.nsIn K mainGlobals "_law_right" = some (some (.ref f13))) (l13 : K.lookup f13 = some ⟨oc13, od13, .func (PySem.W.fnOf "_law_right" "_law_right" (defArgs sLawRight) (defBody sLawRight) (defScope sLawRight) .none kV13 dc13 pm13 an13 cd13 ct13), sl13⟩) (c13 : PySem.W.codeIn K cd13 "_law_right" = true) (k13 : PySem.W.keepIn K (.ref f13) = true)
 (a14 : PySem.W.nsIn K mainGlobals "law" = some (some (.ref f14))) (l14 : K.lookup f14 = some ⟨oc14, od14, .func (PySem.W.fnOf "law" "law" (defArgs sLaw) (defBody sLaw) (defScope sLaw) .none kV14 dc14 pm14 an14 cd14 ct14), sl14⟩) (c14 : PySem.W.codeIn K cd14 "law" = true) (k14 : PySem.W.keepIn K (.ref f14) = true) :
    ∃ fd : FuncData, (∀ (s : Shared) (v : Value), BindsTo s fd ⟨[v], []⟩ [("script", v)]) ∧ ∀ base : Heap, K.In base → base.Ns mainGlobals mg → FnG l.prog w K mg base 5 fa fd ["script"] (spLaw K) := by
  have e := hfa.symm.trans (PySem.W.mg_of X G a14)
  cases e
  have B : Blt mg := blt_of X G z0 z1 z2 z3 z4 z5 z6 z7 z8 z9
  have F0 := fun_mk (st := sLawPool) l0 c0 k0
  have F1 := fun_mk (st := sLawTake) l1 c1 k1
  have F2 := fun_mk (st := sLawOne) l2 c2 k2
  have F3 := fun_mk (st := sStruck) l3 c3 k3
  have F4 := fun_mk (st := sWantRow) l4 c4 k4
  have F5 := fun_mk (st := sRest) l5 c5 k5
  have F6 := fun_mk (st := sParted) l6 c6 k6
  have F7 := fun_mk (st := sCore) l7 c7 k7
  have F8 := fun_mk (st := sLawRest) l8 c8 k8
  have F9 := fun_mk (st := sLawTaken) l9 c9 k9
  have F10 := fun_mk (st := sLawRing) l10 c10 k10
  have F11 := fun_mk (st := sLawShaken) l11 c11 k11
  have F12 := fun_mk (st := sLawClosed) l12 c12 k12
  have F13 := fun_mk (st := sLawRight) l13 c13 k13
  have F14 := fun_mk (st := sLaw) l14 c14 k14
  refine ⟨PySem.W.fnOf "law" "law" (defArgs sLaw) (defBody sLaw) (defScope sLaw) .none kV14 dc14 pm14 an14 cd14 ct14, fun s v => .of_eq rfl, fun base _ _ => ?_⟩
  have dLawPool : Def l.prog w K mg base "_law_pool" 1 ["script", "k"] (spLawPool K) := ⟨_, _, ok__law_pool F0 B, PySem.W.mg_of X G a0, k0, F0.binds (fun _ _ _ _ _ _ us hl => match us, hl with | [_, _], _ => rfl)⟩
  have dLawTake : Def l.prog w K mg base "_law_take" 1 ["source", "top"] (spLawTake K) := ⟨_, _, ok__law_take F1 B, PySem.W.mg_of X G a1, k1, F1.binds (fun _ _ _ _ _ _ us hl => match us, hl with | [_, _], _ => rfl)⟩
  have dLawOne : Def l.prog w K mg base "_law_one" 2 ["source", "things"] (spLawOne K) := ⟨_, _, ok__law_one F2 B dLawTake, PySem.W.mg_of X G a2, k2, F2.binds (fun _ _ _ _ _ _ us hl => match us, hl with | [_, _], _ => rfl)⟩
  have dStruck : Def l.prog w K mg base "struck" 1 ["row"] (spStruck K) := ⟨_, _, ok_struck F3 B, PySem.W.mg_of X G a3, k3, F3.binds (fun _ _ _ _ _ _ us hl => match us, hl with | [_], _ => rfl)⟩
  have dWantRow : Def l.prog w K mg base "want_row" 1 ["row"] (spWantRow K) := ⟨_, _, ok_want_row F4 B ⟨_, PySem.W.mg_of X G gMOST_STONES⟩ ⟨_, PySem.W.mg_of X G gMOST_COATS⟩, PySem.W.mg_of X G a4, k4, F4.binds (fun _ _ _ _ _ _ us hl => match us, hl with | [_], _ => rfl)⟩
  have dRest : DefK l.prog w K mg base "rest" 2 ["row"] (spRest K) kbRest := ⟨_, _, ok_rest F5 B dWantRow dStruck, PySem.W.mg_of X G a5, k5, F5.binds (fun _ _ _ _ _ _ us hl => match us, hl with | [_], _ => rfl), fun q hq => by
    rw [List.mem_singleton] at hq
    subst hq
    exact ⟨fun s us ws h1 h2 => match us, ws, h1, h2 with | [], [_], _, _ => .of_eq rfl⟩⟩
  have dParted : Def l.prog w K mg base "parted" 2 ["row"] (spParted K) := ⟨_, _, ok_parted F6 B dStruck, PySem.W.mg_of X G a6, k6, F6.binds (fun _ _ _ _ _ _ us hl => match us, hl with | [_], _ => rfl)⟩
  have dCore : DefK l.prog w K mg base "core" 3 ["row"] (spCore K) kbCore := ⟨_, _, ok_core F7 B dWantRow dParted, PySem.W.mg_of X G a7, k7, F7.binds (fun _ _ _ _ _ _ us hl => match us, hl with | [_], _ => rfl), fun q hq => by
    rw [List.mem_singleton] at hq
    subst hq
    exact ⟨fun s us ws h1 h2 => match us, ws, h1, h2 with | [], [_], _, _ => .of_eq rfl⟩⟩
  have dLawRest : Def l.prog w K mg base "_law_rest" 1 ["row"] (spLawRest K) := ⟨_, _, ok__law_rest F8 B, PySem.W.mg_of X G a8, k8, F8.binds (fun _ _ _ _ _ _ us hl => match us, hl with | [_], _ => rfl)⟩
  have dLawTaken : Def l.prog w K mg base "_law_taken" 2 ["row"] (spLawTaken K) := ⟨_, _, ok__law_taken F9 B dLawRest, PySem.W.mg_of X G a9, k9, F9.binds (fun _ _ _ _ _ _ us hl => match us, hl with | [_], _ => rfl)⟩
  have dLawRing : Def l.prog w K mg base "_law_ring" 3 ["source", "coats"] (spLawRing K) := ⟨_, _, ok__law_ring F10 B dLawTake dLawOne, PySem.W.mg_of X G a10, k10, F10.binds (fun _ _ _ _ _ _ us hl => match us, hl with | [_, _], _ => rfl)⟩
  have dLawShaken : Def l.prog w K mg base "_law_shaken" 2 ["source", "row", "coats"] (spLawShaken K) := ⟨_, _, ok__law_shaken F11 B dLawTake, PySem.W.mg_of X G a11, k11, F11.binds (fun _ _ _ _ _ _ us hl => match us, hl with | [_, _, _], _ => rfl)⟩
  have dLawClosed : Def l.prog w K mg base "_law_closed" 4 ["source"] (spLawClosed K) := ⟨_, _, ok__law_closed F12 B dLawTake dLawOne dLawRing dLawShaken, PySem.W.mg_of X G a12, k12, F12.binds (fun _ _ _ _ _ _ us hl => match us, hl with | [_], _ => rfl)⟩
  have dLawRight : Def l.prog w K mg base "_law_right" 4 ["row"] (spLawRight K) := ⟨_, _, ok__law_right F13 B dCore dLawTaken dRest dLawRest, PySem.W.mg_of X G a13, k13, F13.binds (fun _ _ _ _ _ _ us hl => match us, hl with | [_], _ => rfl)⟩
  exact law_ok (ok_law F14 B dLawTake dLawPool dLawClosed dLawRight)
end BC

open PySem PySem.W PyProof.Rows in
set_option maxRecDepth 100000 in
set_option maxHeartbeats 0 in
theorem PySem.Challenge.cw_betweencoats_k10_cores_and_their_tails_holds : PySem.Challenge.rw_betweencoats_k10_cores_and_their_tails.Holds := by
  w_on; o_law; k_head; (case hw => w_witness2)
  k_fill
  refine BC.walkG (l := PySem.Challenge.rw_betweencoats_k10_cores_and_their_tails) (k := 5) (x := "script") rfl rfl ⟨rfl, by decide, by decide⟩ (fun w h Y => PySem.W.kIn_of Y) ?F
  case F =>
    intro w mg fa h KX G hmg
    refine' BC.all_mk KX G hmg ?z0 ?z1 ?z2 ?z3 ?z4 ?z5 ?z6 ?z7 ?z8 ?z9 ?gMOST_STONES ?gMOST_COATS ?a0 ?l0 ?c0 ?k0 ?a1 ?l1 ?c1 ?k1 ?a2 ?l2 ?c2 ?k2 ?a3 ?l3 ?c3 ?k3 ?a4 ?l4 ?c4 ?k4 ?a5 ?l5 ?c5 ?k5 ?a6 ?l6 ?c6 ?k6 ?a7 ?l7 ?c7 ?k7 ?a8 ?l8 ?c8 ?k8 ?a9 ?l9 ?c9 ?k9 ?a10 ?l10 ?c10 ?k10 ?a11 ?l11 ?c11 ?k11 ?a12 ?l12 ?c12 ?k12 ?a13 ?l13 ?c13 ?k13 ?a14 ?l14 ?c14 ?k14
    (case z0 => k_is)
    (case z1 => k_is)
    (case z2 => k_is)
    (case z3 => k_is)
    (case z4 => k_is)
    (case z5 => k_is)
    (case z6 => k_is)
    (case z7 => k_is)
    (case z8 => k_is)
    (case z9 => k_is)
    (case gMOST_STONES => k_is)
    (case gMOST_COATS => k_is)
    (case a0 => k_is)
    (case l0 => k_is)
    (case c0 => k_is)
    (case k0 => k_is)
    (case a1 => k_is)
    (case l1 => k_is)
    (case c1 => k_is)
    (case k1 => k_is)
    (case a2 => k_is)
    (case l2 => k_is)
    (case c2 => k_is)
    (case k2 => k_is)
    (case a3 => k_is)
    (case l3 => k_is)
    (case c3 => k_is)
    (case k3 => k_is)
    (case a4 => k_is)
    (case l4 => k_is)
    (case c4 => k_is)
    (case k4 => k_is)
    (case a5 => k_is)
    (case l5 => k_is)
    (case c5 => k_is)
    (case k5 => k_is)
    (case a6 => k_is)
    (case l6 => k_is)
    (case c6 => k_is)
    (case k6 => k_is)
    (case a7 => k_is)
    (case l7 => k_is)
    (case c7 => k_is)
    (case k7 => k_is)
    (case a8 => k_is)
    (case l8 => k_is)
    (case c8 => k_is)
    (case k8 => k_is)
    (case a9 => k_is)
    (case l9 => k_is)
    (case c9 => k_is)
    (case k9 => k_is)
    (case a10 => k_is)
    (case l10 => k_is)
    (case c10 => k_is)
    (case k10 => k_is)
    (case a11 => k_is)
    (case l11 => k_is)
    (case c11 => k_is)
    (case k11 => k_is)
    (case a12 => k_is)
    (case l12 => k_is)
    (case c12 => k_is)
    (case k12 => k_is)
    (case a13 => k_is)
    (case l13 => k_is)
    (case c13 => k_is)
    (case k13 => k_is)
    (case a14 => k_is)
    (case l14 => k_is)
    (case c14 => k_is)
    (case k14 => k_is)
