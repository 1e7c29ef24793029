import PyProof.Rows.All
import Wide.All
import OpenK.AllK
import Wide.FinOn
import HandS.ForMost
import HandS.TupAny
import HandS.Conv
import HandS.Zip
import HandS.IsInst
import HandS.TupLen
import HandS.SortRule
import HandS.SortInts
import HandS.Deep
import HandS.TupLe
import HandS.Style
import KE.GoesMore
import KE.GoesEnum
import HandS.More
import KE.KDictDisplayH
import HandS.SetFor
import HandS.Strs
import PySem.Challenge.RW_sweptrooms_k26_whole_smaller
set_option Elab.async false
set_option linter.all false
set_option maxRecDepth 100000
set_option maxHeartbeats 4000000
/-! Z1: values as typed data, growth of the heap, what an expression evaluates to. -/
namespace Zw
open PySem L2

/-! ### data that never changes -/
def TupK (H H' : Hp) : Prop := ∀ a xs, H a = some (.tup xs) → H' a = some (.tup xs)
theorem TupK.refl (H : Hp) : TupK H H := fun _ _ h => h
theorem TupK.trans {H H1 H2 : Hp} (a : TupK H H1) (b : TupK H1 H2) : TupK H H2 := fun x o h => b x o (a x o h)
theorem TupK.new {H : Hp} {p : Addr} {o : HO} (h : H p = none) : TupK H (upd H p o) := fun a u e => by
  rw [upd_ne (ne_of_none e h)]; exact e
theorem TupK.put {H : Hp} {p : Addr} {o u : HO} (h : H p = some u) (hn : ∀ xs, u ≠ .tup xs) : TupK H (upd H p o) := fun a xs e => by
  rw [upd_ne (ne_of e h (fun z => hn xs z.symm))]; exact e

class PyI (α : Type) where
  rep : α → V → Hp → Prop
  keep : ∀ {d : α} {v : V} {H H' : Hp}, TupK H H' → rep d v H → rep d v H'
class NN (α : Type) [PyI α] : Prop where
  nn : ∀ {d : α} {v : V} {H : Hp}, PyI.rep d v H → v ≠ .non

/-- two lists side by side -/
def RL {α : Type} (R : α → V → Prop) (ds : List α) (xs : List V) : Prop := ds.length = xs.length ∧ ∀ (i : Nat) d x, ds[i]? = some d → xs[i]? = some x → R d x
theorem RL.nil {α : Type} {R : α → V → Prop} : RL R [] [] := ⟨rfl, fun i d x h => by simp at h⟩
theorem RL.mono {α : Type} {R R' : α → V → Prop} {ds : List α} {xs : List V} (h : RL R ds xs) (m : ∀ d x, R d x → R' d x) : RL R' ds xs := ⟨h.1, fun i d x a b => m d x (h.2 i d x a b)⟩
theorem RL.cons {α : Type} {R : α → V → Prop} {d : α} {x : V} {ds : List α} {xs : List V} (h : R d x) (t : RL R ds xs) : RL R (d :: ds) (x :: xs) := by
  refine ⟨by simp [t.1], fun i d' x' a b => ?_⟩
  cases i with
  | zero => simp at a b; rw [← a, ← b]; exact h
  | succ i => simp at a b; exact t.2 i d' x' a b
theorem RL.uncons {α : Type} {R : α → V → Prop} {d : α} {ds : List α} {xs : List V} (h : RL R (d :: ds) xs) : ∃ y ys, xs = y :: ys ∧ R d y ∧ RL R ds ys := by
  cases xs with
  | nil => exact absurd h.1 (by simp)
  | cons y ys => exact ⟨y, ys, rfl, h.2 0 d y rfl rfl, by have := h.1; simpa using this, fun i d' x' a b => h.2 (i + 1) d' x' (by simpa using a) (by simpa using b)⟩
theorem RL.nil_inv {α : Type} {R : α → V → Prop} {xs : List V} (h : RL R ([] : List α) xs) : xs = [] := by
  cases xs with
  | nil => rfl
  | cons y ys => exact absurd h.1 (by simp)
theorem RL.snoc {α : Type} {R : α → V → Prop} {d : α} {x : V} {ds : List α} {xs : List V} (t : RL R ds xs) (h : R d x) : RL R (ds ++ [d]) (xs ++ [x]) := by
  refine ⟨by simp [t.1], fun i d' x' a b => ?_⟩
  by_cases hi : i < ds.length
  · rw [List.getElem?_append_left hi] at a
    rw [List.getElem?_append_left (t.1 ▸ hi)] at b
    exact t.2 i d' x' a b
  · rw [List.getElem?_append_right (by omega)] at a
    rw [List.getElem?_append_right (by have := t.1; omega)] at b
    rw [← t.1] at b
    have hz : i - ds.length = 0 := by
      have := (List.getElem?_eq_some_iff.mp a).1
      simp at this
      omega
    rw [hz] at a b
    simp at a b
    rw [← a, ← b]; exact h
theorem RL.append {α : Type} {R : α → V → Prop} {ds es : List α} {xs ys : List V} (t : RL R ds xs) (u : RL R es ys) : RL R (ds ++ es) (xs ++ ys) := by
  refine ⟨by simp [t.1, u.1], fun i d' x' a b => ?_⟩
  by_cases hi : i < ds.length
  · rw [List.getElem?_append_left hi] at a
    rw [List.getElem?_append_left (t.1 ▸ hi)] at b
    exact t.2 i d' x' a b
  · rw [List.getElem?_append_right (by omega)] at a
    rw [List.getElem?_append_right (by have := t.1; omega)] at b
    rw [← t.1] at b
    exact u.2 _ d' x' a b
theorem RL.get {α : Type} {R : α → V → Prop} {ds : List α} {xs : List V} (t : RL R ds xs) {i : Nat} {d : α} (h : ds[i]? = some d) : ∃ x, xs[i]? = some x ∧ R d x := by
  have hi : i < xs.length := by rw [← t.1]; exact (List.getElem?_eq_some_iff.mp h).1
  exact ⟨xs[i], by simp [hi], t.2 i d _ h (by simp [hi])⟩
theorem RL.getR {α : Type} {R : α → V → Prop} {ds : List α} {xs : List V} (t : RL R ds xs) {i : Nat} {x : V} (h : xs[i]? = some x) : ∃ d, ds[i]? = some d ∧ R d x := by
  have hi : i < ds.length := by rw [t.1]; exact (List.getElem?_eq_some_iff.mp h).1
  exact ⟨ds[i], by simp [hi], t.2 i _ x (by simp [hi]) h⟩
theorem RL.drop {α : Type} {R : α → V → Prop} {ds : List α} {xs : List V} (t : RL R ds xs) (n : Nat) : RL R (ds.drop n) (xs.drop n) :=
  ⟨by simp [t.1], fun i d x a b => t.2 (n + i) d x (by simpa using a) (by simpa using b)⟩
theorem RL.take {α : Type} {R : α → V → Prop} {ds : List α} {xs : List V} (t : RL R ds xs) (n : Nat) : RL R (ds.take n) (xs.take n) := by
  refine ⟨by simp [t.1], fun i d x a b => ?_⟩
  rw [List.getElem?_take] at a b
  split at a
  · rename_i hi
    rw [if_pos hi] at b
    exact t.2 i d x a b
  · cases a
theorem RL.map {α : Type} {R : α → V → Prop} {f : α → V} {ds : List α} (h : ∀ d ∈ ds, R d (f d)) : RL R ds (ds.map f) := by
  refine ⟨by simp, fun i d x a b => ?_⟩
  rw [List.getElem?_map, a] at b
  simp at b
  rw [← b]; exact h d (List.mem_of_getElem? a)
theorem RL.eq_map {α : Type} {f : α → V} {ds : List α} {xs : List V} (h : RL (fun d x => x = f d) ds xs) : xs = ds.map f := by
  refine List.ext_getElem? fun i => ?_
  rw [List.getElem?_map]
  cases e : ds[i]? with
  | none =>
    have : ds.length ≤ i := List.getElem?_eq_none_iff.mp e
    rw [h.1] at this
    rw [List.getElem?_eq_none_iff.mpr this]
    rfl
  | some d =>
    obtain ⟨x, hx, r⟩ := h.get e
    rw [hx, r]; rfl
theorem RL.erase {α : Type} {R : α → V → Prop} : ∀ {ds : List α} {xs : List V} (k : Nat), RL R ds xs → RL R (ds.eraseIdx k) (xs.eraseIdx k)
  | [], xs, k, h => by rw [h.nil_inv]; simp; exact RL.nil
  | d :: ds, xs, 0, h => by obtain ⟨y, ys, rfl, _, t⟩ := h.uncons; simpa using t
  | d :: ds, xs, k + 1, h => by obtain ⟨y, ys, rfl, r, t⟩ := h.uncons; simpa using (RL.erase k t).cons r
theorem RL.reverse {α : Type} {R : α → V → Prop} : ∀ {ds : List α} {xs : List V}, RL R ds xs → RL R ds.reverse xs.reverse
  | [], xs, h => by rw [h.nil_inv]; exact RL.nil
  | d :: ds, xs, h => by obtain ⟨y, ys, rfl, r, t⟩ := h.uncons; simpa using (RL.reverse t).snoc r

instance : PyI Int := ⟨fun i v _ => v = .int i, fun _ h => h⟩
instance : PyI Bool := ⟨fun b v _ => v = .bl b, fun _ h => h⟩
instance : PyI Str := ⟨fun s v _ => v = .str s, fun _ h => h⟩
instance : PyI Unit := ⟨fun _ v _ => v = .non, fun _ h => h⟩
instance instPair {α β : Type} [PyI α] [PyI β] : PyI (α × β) := ⟨fun d v H => ∃ p x y, v = .ref p ∧ H p = some (.tup [x, y]) ∧ PyI.rep d.1 x H ∧ PyI.rep d.2 y H,
  fun k ⟨p, x, y, e, h, a, b⟩ => ⟨p, x, y, e, k _ _ h, PyI.keep k a, PyI.keep k b⟩⟩
/-- a list of Lean is a tuple of Python -/
instance instTup {α : Type} [PyI α] : PyI (List α) := ⟨fun d v H => ∃ p xs, v = .ref p ∧ H p = some (.tup xs) ∧ RL (fun a x => PyI.rep a x H) d xs,
  fun k ⟨p, xs, e, h, a⟩ => ⟨p, xs, e, k _ _ h, a.mono fun _ _ r => PyI.keep k r⟩⟩
instance instOpt {α : Type} [PyI α] : PyI (Option α) := ⟨fun d v H => match d with | none => v = .non | some a => v ≠ .non ∧ PyI.rep a v H,
  fun {d v H H'} k h => by cases d with | none => exact h | some a => exact ⟨h.1, PyI.keep k h.2⟩⟩
instance : NN Int := ⟨fun h => by rw [h]; exact fun z => nomatch z⟩
instance : NN Bool := ⟨fun h => by rw [h]; exact fun z => nomatch z⟩
instance : NN Str := ⟨fun h => by rw [h]; exact fun z => nomatch z⟩
instance {α β : Type} [PyI α] [PyI β] : NN (α × β) := ⟨fun ⟨p, x, y, e, _⟩ => by rw [e]; exact fun z => nomatch z⟩
instance {α : Type} [PyI α] : NN (List α) := ⟨fun ⟨p, x, e, _⟩ => by rw [e]; exact fun z => nomatch z⟩

/-! ### houses: what besides keeps -/
def nbrs (a : Int) : List (Int × Int) → List Int
  | [] => []
  | (x, y) :: r => (if x = a then [y] else []) ++ (if y = a then [x] else []) ++ nbrs a r
def isortI (l : List Int) : List Int := l.mergeSort (fun a b => decide (a ≤ b))
def besM (r : Int) (ds : List (Int × Int)) : List (List Int) := (List.range r.toNat).map fun (a : Nat) => isortI (nbrs (a : Int) ds)
def hFields (r : Int) (t l : Addr) : List (Str × V) := [("rooms", .int r), ("doors", .ref t), ("looked", .ref l)]
def Own (H : Hp) (a : Addr) (ns : List (List Int)) : Prop := ∀ p C dx r t (ds : List (Int × Int)), H p = some (.ins C dx (hFields r t a)) → PyI.rep ds (.ref t) H → ns = besM r ds

/-! ### growth -/
/-- houses own their looked -/
def NotH (o : HO) : Prop := ∀ C dx r t l, o ≠ .ins C dx (hFields r t l)
def Neat (H : Hp) : Prop := (∀ p C dx r t l, H p = some (.ins C dx (hFields r t l)) → H l ≠ none) ∧ ∀ p p' C C' dx dx' r r' t t' l, H p = some (.ins C dx (hFields r t l)) → H p' = some (.ins C' dx' (hFields r' t' l)) → p = p'
theorem Neat.put {H : Hp} {p : Addr} {o : HO} (n : Neat H) (h : NotH o) : Neat (upd H p o) := by
  have key : ∀ q C dx r t l, (upd H p o) q = some (.ins C dx (hFields r t l)) → H q = some (.ins C dx (hFields r t l)) := fun q C dx r t l e => by
    by_cases hq : q = p
    · rw [hq, upd_same] at e; cases e; exact absurd rfl (h C dx r t l)
    · rw [upd_ne hq] at e; exact e
  refine ⟨fun q C dx r t l e => ?_, fun q q' C C' dx dx' r r' t t' l e e' => n.2 q q' C C' dx dx' r r' t t' l (key _ _ _ _ _ _ e) (key _ _ _ _ _ _ e')⟩
  have := n.1 q C dx r t l (key _ _ _ _ _ _ e)
  by_cases hl : l = p
  · rw [hl, upd_same]; exact fun z => nomatch z
  · rw [upd_ne hl]; exact this
def warm (v : V) : HO := .dK [(Sum.inr "beside", v)]
def Chg : HO → Prop
  | .dK [] => True
  | .dK [(Sum.inr _, _)] => True
  | _ => False
/-- a house of H keeps its looked at a -/
def Owned (H : Hp) (a : Addr) : Prop := ∃ p C dx r t, H p = some (.ins C dx (hFields r t a))
structure Gr (H H' : Hp) : Prop where
  old : ∀ a o, H a = some o → H' a = some o ∨ (Chg o ∧ Owned H a ∧ ∃ v ns, H' a = some (warm v) ∧ PyI.rep (α := List (List Int)) ns v H' ∧ Own H a ns)
  neat : Neat H → Neat H'
  newH : ∀ p C dx r t l, H' p = some (.ins C dx (hFields r t l)) → H l ≠ none → H p = some (.ins C dx (hFields r t l))
theorem Gr.refl (H : Hp) : Gr H H := ⟨fun _ _ h => .inl h, id, fun _ _ _ _ _ _ h _ => h⟩
theorem Gr.at {H H' : Hp} (g : Gr H H') {a : Addr} {o : HO} (h : H a = some o) (n : ¬ Chg o) : H' a = some o := (g.old a o h).elim id fun z => absurd z.1 n
theorem Gr.tup {H H' : Hp} (g : Gr H H') : TupK H H' := fun a xs h => g.at h (fun z => nomatch z)
theorem Gr.lst {H H' : Hp} (g : Gr H H') {a : Addr} {xs : List V} (h : H a = some (.lst xs)) : H' a = some (.lst xs) := g.at h (fun z => nomatch z)
theorem Gr.ins {H H' : Hp} (g : Gr H H') {a C dx : Addr} {fs : List (Str × V)} (h : H a = some (.ins C dx fs)) : H' a = some (.ins C dx fs) := g.at h (fun z => nomatch z)
theorem Gr.dT {H H' : Hp} (g : Gr H H') {a : Addr} {kvs} (h : H a = some (.dT kvs)) : H' a = some (.dT kvs) := g.at h (fun z => nomatch z)
theorem Gr.back {H H' : Hp} {p : Addr} (e : Gr H H') (h : H' p = none) : H p = none := by
  cases h1 : H p with
  | none => rfl
  | some o =>
    rcases e.old p o h1 with z | ⟨_, _, v, ns, z, _⟩ <;> (rw [h] at z; cases z)
theorem Gr.owned {H H' : Hp} (g : Gr H H') {a : Addr} (h : H a ≠ none) (o : Owned H' a) : Owned H a := by
  obtain ⟨p, C, dx, r, t, e⟩ := o
  exact ⟨p, C, dx, r, t, g.newH p C dx r t a e h⟩
theorem Gr.trans {H H1 H2 : Hp} (a : Gr H H1) (b : Gr H1 H2) : Gr H H2 := ⟨fun x o h => by
  have key : ∀ v ns, H2 x = some (warm v) → PyI.rep (α := List (List Int)) ns v H2 → Own H1 x ns → Owned H1 x → Chg o → H2 x = some o ∨ (Chg o ∧ Owned H x ∧ ∃ v ns, H2 x = some (warm v) ∧ PyI.rep (α := List (List Int)) ns v H2 ∧ Own H x ns) := fun v ns h2 r ow od e => .inr ⟨e, a.owned (by rw [h]; exact fun z => nomatch z) od, v, ns, h2, r, fun p C dx r t ds hp hd => ow p C dx r t ds (a.ins hp) (PyI.keep a.tup hd)⟩
  rcases a.old x o h with h1 | ⟨e, od, v, ns, h1, r, ow⟩
  · rcases b.old x o h1 with h2 | ⟨e, od, v, ns, h2, r, ow⟩
    · exact .inl h2
    · exact key v ns h2 r ow od e
  · rcases b.old x _ h1 with h2 | ⟨_, od', v, ns, h2, r, ow⟩
    · exact .inr ⟨e, od, v, ns, h2, PyI.keep b.tup r, ow⟩
    · exact key v ns h2 r ow od' e, fun n => b.neat (a.neat n), fun p C dx r t l e h => a.newH p C dx r t l (b.newH p C dx r t l e (fun z => h (a.back z))) h⟩
theorem Gr.new {H : Hp} {p : Addr} {o : HO} (h : H p = none) (no : NotH o := by intro _ _ _ _ _ z; cases z) : Gr H (upd H p o) := ⟨fun a u e => by
  rw [upd_ne (ne_of_none e h)]; exact .inl e, fun n => n.put no, fun q C dx r t l e _ => by
  by_cases hq : q = p
  · rw [hq, upd_same] at e; cases e; exact absurd rfl (no C dx r t l)
  · rw [upd_ne hq] at e; exact e⟩
/-- an object that H does not know may change -/
theorem Gr.mutN {H H' : Hp} {p : Addr} {o u : HO} (g : Gr H H') (h : H p = none) (hp : H' p = some u) (hn : ∀ xs, u ≠ .tup xs) (no : Neat H' → Neat (upd H' p o)) (nh : ∀ C dx r t l, o = .ins C dx (hFields r t l) → H l = none) : Gr H (upd H' p o) := ⟨fun a w ha => by
  have ne : a ≠ p := ne_of_none ha h
  rw [upd_ne ne]
  rcases g.old a w ha with z | ⟨e, od, v, ns, z, r, ow⟩
  · exact .inl z
  · exact .inr ⟨e, od, v, ns, z, PyI.keep (TupK.put hp hn) r, ow⟩, fun n => no (g.neat n), fun q C dx r t l e hl => by
  by_cases hq : q = p
  · rw [hq, upd_same] at e; cases e; exact absurd (nh C dx r t l rfl) hl
  · rw [upd_ne hq] at e; exact g.newH q C dx r t l e hl⟩
theorem Gr.mut {H H' : Hp} {p : Addr} {o u : HO} (g : Gr H H') (h : H p = none) (hp : H' p = some u) (hn : ∀ xs, u ≠ .tup xs) (no : NotH o := by intro _ _ _ _ _ z; cases z) : Gr H (upd H' p o) := g.mutN h hp hn (fun n => n.put no) fun C dx r t l e => absurd e (no C dx r t l)
theorem Gr.rd {H H' : Hp} (g : Gr H H') {a : Addr} {u : HO} (h : Rd H a u) (n : ¬ Chg u) : Rd H' a u := by
  rcases h with h | ⟨o, h⟩
  · exact .inl (g.at h n)
  · exact .inr ⟨o, g.at h (fun z => nomatch z)⟩
theorem Gr.sqL {K : PySem.W.Frag} {H H' : Hp} {a : Addr} {xs : List V} (g : Gr H H') (h : SqL K H a xs) : SqL K H' a xs := by
  rcases h with h | h
  · exact .inl (g.rd h (fun z => nomatch z))
  · exact .inr h
theorem Gr.sqT {K : PySem.W.Frag} {H H' : Hp} {a : Addr} {xs : List V} (g : Gr H H') (h : SqT K H a xs) : SqT K H' a xs := by
  rcases h with h | h
  · exact .inl (g.rd h (fun z => nomatch z))
  · exact .inr h

/-! ### data -/
class Py (α : Type) where
  rep : α → V → Hp → Prop
  mono : ∀ {d : α} {v : V} {H H' : Hp}, Gr H H' → rep d v H → rep d v H'
instance (priority := 10) instPyI {α : Type} [PyI α] : Py α := ⟨PyI.rep, fun g h => PyI.keep g.tup h⟩
/-- a list of Python -/
structure Ls (α : Type) where
  l : List α
instance instLs {α : Type} [Py α] : Py (Ls α) := ⟨fun d v H => ∃ p xs, v = .ref p ∧ H p = some (.lst xs) ∧ RL (fun a x => Py.rep a x H) d.l xs,
  fun g ⟨p, xs, e, h, a⟩ => ⟨p, xs, e, g.lst h, a.mono fun _ _ r => Py.mono g r⟩⟩
/-- a list or a tuple -/
structure Sq (α : Type) where
  l : List α
instance instSq {α : Type} [Py α] : Py (Sq α) := ⟨fun d v H => ∃ p xs, v = .ref p ∧ (H p = some (.lst xs) ∨ H p = some (.tup xs)) ∧ RL (fun a x => Py.rep a x H) d.l xs,
  fun g ⟨p, xs, e, h, a⟩ => ⟨p, xs, e, h.imp g.lst (g.tup _ _), a.mono fun _ _ r => Py.mono g r⟩⟩
theorem rep_i {α : Type} [PyI α] {d : α} {v : V} {H : Hp} : Py.rep d v H = PyI.rep d v H := rfl
theorem Ls.sq {α : Type} [Py α] {l : List α} {v : V} {H : Hp} (h : Py.rep (Ls.mk l) v H) : Py.rep (Sq.mk l) v H := let ⟨p, xs, e, a, b⟩ := h; ⟨p, xs, e, .inl a, b⟩
theorem tup_sq {α : Type} [PyI α] {l : List α} {v : V} {H : Hp} (h : Py.rep l v H) : Py.rep (Sq.mk l) v H := let ⟨p, xs, e, a, b⟩ := h; ⟨p, xs, e, .inr a, b⟩

/-! ### what evaluates to what -/
def Ed {α : Type} [Py α] (te : TE) (σ : L2.St) (H : Hp) (P : α → Prop) : Prop := ∀ H1, Gr H H1 → ∀ Q : VK, (∀ d v H2, P d → Gr H1 H2 → Py.rep d v H2 → Q v H2) → te σ H1 Q
abbrev Ev {α : Type} [Py α] (te : TE) (σ : L2.St) (H : Hp) (d : α) : Prop := Ed te σ H (· = d)
def EdT (tt : TT) (σ : L2.St) (H : Hp) (P : Bool → Prop) : Prop := ∀ H1, Gr H H1 → ∀ Q : Bool → Hp → Prop, (∀ b H2, P b → Gr H1 H2 → Q b H2) → tt σ H1 Q
abbrev EvT (tt : TT) (σ : L2.St) (H : Hp) (b : Bool) : Prop := EdT tt σ H (· = b)
/-- argument lists -/
def EvA (ta : TA) (σ : L2.St) (H : Hp) (R : List V → Hp → Prop) : Prop := ∀ H1, Gr H H1 → ∀ Q : List V → Hp → Prop, (∀ vs H2, Gr H1 H2 → R vs H2 → Q vs H2) → ta σ H1 Q
def EvO (to : TO) (σ : L2.St) (H : Hp) (o : Option Int) : Prop := ∀ H1, Gr H H1 → ∀ Q : Option Int → Hp → Prop, (∀ H2, Gr H1 H2 → Q o H2) → to σ H1 Q

section
variable {K : PySem.W.Frag} {σ : L2.St} {H H' : Hp} {ta tb te : TE} {t u : TT} {α β γ : Type} [Py α] [Py β] [Py γ]
theorem Ed.mono {P : α → Prop} (e : Gr H H') (h : Ed te σ H P) : Ed te σ H' P := fun H1 a Q q => h H1 (e.trans a) Q q
theorem Ed.imp {P P' : α → Prop} (h : Ed te σ H P) (i : ∀ d, P d → P' d) : Ed te σ H P' := fun H1 a Q q => h H1 a Q fun d v H2 p => q d v H2 (i d p)
theorem EdT.mono {P : Bool → Prop} (e : Gr H H') (h : EdT t σ H P) : EdT t σ H' P := fun H1 a Q q => h H1 (e.trans a) Q q
theorem EdT.imp {P P' : Bool → Prop} (h : EdT t σ H P) (i : ∀ d, P d → P' d) : EdT t σ H P' := fun H1 a Q q => h H1 a Q fun d H2 p => q d H2 (i d p)
theorem ev_is {x y : α} (h : Ev te σ H x) (e : x = y) : Ev te σ H y := e ▸ h
theorem et_is {x y : Bool} (h : EvT t σ H x) (e : x = y) : EvT t σ H y := e ▸ h
theorem ev_var {i : Nat} {v : V} {d : α} (h : σ[i]? = some (some v)) (r : Py.rep d v H) : Ev (tVar i) σ H d := fun H1 g _ q => ⟨v, h, q d v H1 rfl (Gr.refl H1) (Py.mono g r)⟩
theorem ev_c {v : V} {d : α} (r : Py.rep d v H) : Ev (tC v) σ H d := fun H1 g _ q => q d v H1 rfl (Gr.refl H1) (Py.mono g r)
theorem ev_int {i : Int} : Ev (tC (.int i)) σ H i := ev_c rfl
theorem ev_bl {i : Bool} : Ev (tC (.bl i)) σ H i := ev_c rfl
theorem ev_str {i : Str} : Ev (tC (.str i)) σ H i := ev_c rfl
/-- two-place operations on values -/
def RO (r : R2) (a : α) (b : β) (P : γ → Prop) : Prop := ∀ (x y : V) (H : Hp), Py.rep a x H → Py.rep b y H → ∀ Q : VK, (∀ d v H2, P d → Gr H H2 → Py.rep d v H2 → Q v H2) → r x y H Q
theorem ed_op {r : R2} {Pa : α → Prop} {Pb : β → Prop} {P : γ → Prop} (ha : Ed ta σ H Pa) (hb : Ed tb σ H Pb) (hr : ∀ a b, Pa a → Pb b → RO r a b P) : Ed (tOp r ta tb) σ H P := fun H1 e Q q =>
  ha H1 e _ fun a x H2 pa e2 rx => hb H2 (e.trans e2) _ fun b y H3 pb e3 ry => hr a b pa pb x y H3 (Py.mono e3 rx) ry Q fun d v H4 p e4 r4 => q d v H4 p ((e2.trans e3).trans e4) r4
theorem ev_op {r : R2} {a : α} {b : β} {c : γ} (ha : Ev ta σ H a) (hb : Ev tb σ H b) (hr : RO r a b (· = c)) : Ev (tOp r ta tb) σ H c := ed_op ha hb (by rintro _ _ rfl rfl; exact hr)
theorem RO.inl {r r' : R2} {a : α} {b : β} {P : γ → Prop} (h : RO r a b P) : RO (fun x y H Q => r x y H Q ∨ r' x y H Q) a b P := fun x y H rx ry Q q => .inl (h x y H rx ry Q q)
theorem RO.inr {r r' : R2} {a : α} {b : β} {P : γ → Prop} (h : RO r' a b P) : RO (fun x y H Q => r x y H Q ∨ r' x y H Q) a b P := fun x y H rx ry Q q => .inr (h x y H rx ry Q q)
theorem RO.imp {r : R2} {a : α} {b : β} {P P' : γ → Prop} (h : RO r a b P) (i : ∀ d, P d → P' d) : RO r a b P' := fun x y H rx ry Q q => h x y H rx ry Q fun d v H2 p => q d v H2 (i d p)
end
end Zw
/-! Z2: the rules of expressions, by type. -/
namespace Zw
open PySem L2

section
variable {K : PySem.W.Frag} {σ : L2.St} {H H' : Hp} {ta tb tc te : TE} {t u : TT}

/-! ### ints -/
theorem ro_I0 {γ : Type} [Py γ] {g : Int → Int → V} {i j : Int} {c : γ} (h : ∀ H, Py.rep c (g i j) H) : RO (rI0 g) i j (· = c) := fun x y H rx ry Q q => ⟨i, j, rx, ry, q c _ H rfl (Gr.refl H) (h H)⟩
theorem ro_I {γ : Type} [Py γ] {C : Int → Int → Prop} {g : Int → Int → V} {i j : Int} {c : γ} (hc : C i j) (h : ∀ H, Py.rep c (g i j) H) : RO (rI C g) i j (· = c) := fun x y H rx ry Q q => ⟨i, j, rx, ry, hc, q c _ H rfl (Gr.refl H) (h H)⟩
abbrev rAddI : R2 := rI0 fun i j => .int (i + j)
abbrev rSubI : R2 := rI0 fun i j => .int (i - j)
theorem ev_add {i j : Int} (ha : Ev ta σ H i) (hb : Ev tb σ H j) : Ev (tOp (rI0 fun i j => .int (i + j)) ta tb) σ H (i + j) := ev_op ha hb (ro_I0 fun _ => rfl)
theorem ev_sub {i j : Int} (ha : Ev ta σ H i) (hb : Ev tb σ H j) : Ev (tOp (rI0 fun i j => .int (i - j)) ta tb) σ H (i - j) := ev_op ha hb (ro_I0 fun _ => rfl)
theorem ev_lt {i j : Int} (ha : Ev ta σ H i) (hb : Ev tb σ H j) : Ev (tOp (rI0 fun i j => .bl (decide (i < j))) ta tb) σ H (decide (i < j)) := ev_op ha hb (ro_I0 fun _ => rfl)
theorem ev_le {i j : Int} (ha : Ev ta σ H i) (hb : Ev tb σ H j) : Ev (tOp (rI0 fun i j => .bl (decide (i ≤ j))) ta tb) σ H (decide (i ≤ j)) := ev_op ha hb (ro_I0 fun _ => rfl)
theorem ev_gt {i j : Int} (ha : Ev ta σ H i) (hb : Ev tb σ H j) : Ev (tOp (rI0 fun i j => .bl (decide (j < i))) ta tb) σ H (decide (j < i)) := ev_op ha hb (ro_I0 fun _ => rfl)
theorem ev_ge {i j : Int} (ha : Ev ta σ H i) (hb : Ev tb σ H j) : Ev (tOp (rI0 fun i j => .bl (decide (j ≤ i))) ta tb) σ H (decide (j ≤ i)) := ev_op ha hb (ro_I0 fun _ => rfl)
theorem ev_neg {i : Int} (ha : Ev ta σ H i) : Ev (tUn (rU fun i => .int (-i)) ta) σ H (-i) := fun H1 g Q q => ha H1 g _ fun d x H2 e g2 r => by subst e; exact ⟨d, r, q _ _ H2 rfl g2 rfl⟩
theorem ev_not {i : Bool} (ha : Ev ta σ H i) : Ev (tNotV ta) σ H (!i) := fun H1 g Q q => ha H1 g _ fun d x H2 e g2 r => by subst e; exact ⟨d, r, q _ _ H2 rfl g2 rfl⟩
theorem ro_eq {α : Type} [Py α] [DecidableEq α] (f : α → V) (hf : ∀ d v H, Py.rep d v H → v = f d) (inj : ∀ a b, f a = f b → a = b) (sc : ∀ a b, scal (f a) (f b) = true) {a b : α} : RO rEq a b (· = decide (a = b)) := fun x y H rx ry Q q => by
  have e1 := hf _ _ _ rx
  have e2 := hf _ _ _ ry
  subst e1 e2
  refine ⟨sc a b, ?_⟩
  have e : decide (f a = f b) = decide (a = b) := decide_eq_decide.mpr ⟨inj a b, fun e => by rw [e]⟩
  rw [e]
  exact q _ _ H rfl (Gr.refl H) rfl
theorem ro_ne {α : Type} [Py α] [DecidableEq α] (f : α → V) (hf : ∀ d v H, Py.rep d v H → v = f d) (inj : ∀ a b, f a = f b → a = b) (sc : ∀ a b, scal (f a) (f b) = true) {a b : α} : RO rNe a b (· = !decide (a = b)) := fun x y H rx ry Q q => by
  have e1 := hf _ _ _ rx
  have e2 := hf _ _ _ ry
  subst e1 e2
  refine ⟨sc a b, ?_⟩
  have e : decide (f a = f b) = decide (a = b) := decide_eq_decide.mpr ⟨inj a b, fun e => by rw [e]⟩
  rw [e]
  exact q _ _ H rfl (Gr.refl H) rfl
theorem ev_eqI {i j : Int} (ha : Ev ta σ H i) (hb : Ev tb σ H j) : Ev (tOp rEq ta tb) σ H (decide (i = j)) := ev_op ha hb (ro_eq V.int (fun _ _ _ h => h) (fun _ _ e => V.int.inj e) fun _ _ => rfl)
theorem ev_neI {i j : Int} (ha : Ev ta σ H i) (hb : Ev tb σ H j) : Ev (tOp rNe ta tb) σ H (!decide (i = j)) := ev_op ha hb (ro_ne V.int (fun _ _ _ h => h) (fun _ _ e => V.int.inj e) fun _ _ => rfl)
theorem ev_eqB {i j : Bool} (ha : Ev ta σ H i) (hb : Ev tb σ H j) : Ev (tOp rEq ta tb) σ H (decide (i = j)) := ev_op ha hb (ro_eq V.bl (fun _ _ _ h => h) (fun _ _ e => V.bl.inj e) fun _ _ => rfl)
theorem ev_neB {i j : Bool} (ha : Ev ta σ H i) (hb : Ev tb σ H j) : Ev (tOp rNe ta tb) σ H (!decide (i = j)) := ev_op ha hb (ro_ne V.bl (fun _ _ _ h => h) (fun _ _ e => V.bl.inj e) fun _ _ => rfl)
theorem ev_eqS {i j : Str} (ha : Ev ta σ H i) (hb : Ev tb σ H j) : Ev (tOp rEq ta tb) σ H (decide (i = j)) := ev_op ha hb (ro_eq V.str (fun _ _ _ h => h) (fun _ _ e => V.str.inj e) fun _ _ => rfl)
theorem ev_neS {i j : Str} (ha : Ev ta σ H i) (hb : Ev tb σ H j) : Ev (tOp rNe ta tb) σ H (!decide (i = j)) := ev_op ha hb (ro_ne V.str (fun _ _ _ h => h) (fun _ _ e => V.str.inj e) fun _ _ => rfl)
/-- a < b < c -/
theorem ev_chain {r r' : R2} {a b c : Int} {k k' : Bool} (ha : Ev ta σ H a) (hb : Ev tb σ H b) (hc : Ev tc σ H c) (h1 : RO r a b (· = k)) (h2 : RO r' b c (· = k')) : Ev (tChain r r' ta tb tc) σ H (k && k') := by
  intro H1 g Q q
  refine ha H1 g _ fun a' x H2 ea g2 rx => ?_
  refine hb H2 (g.trans g2) _ fun b' y H3 eb g3 ry => ?_
  subst ea eb
  refine h1 x y H3 (Py.mono g3 rx) ry _ fun d z H4 ek g4 rz => ?_
  subst ek
  refine ⟨d, rz, ?_⟩
  cases d with
  | true =>
    refine hc H4 (((g.trans g2).trans g3).trans g4) _ fun c' w H5 ec g5 rw' => ?_
    subst ec
    refine h2 y w H5 (Py.mono (g4.trans g5) ry) rw' Q fun d2 z2 H6 e6 g6 r6 => ?_
    subst e6
    exact q _ z2 H6 rfl ((((g2.trans g3).trans g4).trans g5).trans g6) (by simpa using r6)
  | false => exact q _ _ H4 rfl ((g2.trans g3).trans g4) rfl
theorem ro_lt {i j : Int} : RO (rI0 fun i j => .bl (decide (i < j))) i j (· = decide (i < j)) := ro_I0 fun _ => rfl
theorem ro_le {i j : Int} : RO (rI0 fun i j => .bl (decide (i ≤ j))) i j (· = decide (i ≤ j)) := ro_I0 fun _ => rfl

/-! ### tests -/
theorem et_test {b : Bool} (h : Ev te σ H b) : EvT (tTest te) σ H b := fun H1 e _ q => h H1 e _ fun d v H2 p e2 r => by subst p; exact ⟨d, r, q _ H2 rfl e2⟩
theorem et_B {b : Bool} (h : Ev te σ H b) : EvT (tB te) σ H b := fun H1 e _ q => h H1 e _ fun d v H2 p e2 r => by subst p; exact ⟨d, r, q _ H2 rfl e2⟩
theorem etd_test {P : Bool → Prop} (h : Ed te σ H P) : EdT (tTest te) σ H P := fun H1 e _ q => h H1 e _ fun d v H2 p e2 r => ⟨d, r, q _ H2 p e2⟩
theorem etd_B {P : Bool → Prop} (h : Ed te σ H P) : EdT (tB te) σ H P := fun H1 e _ q => h H1 e _ fun d v H2 p e2 r => ⟨d, r, q _ H2 p e2⟩
theorem et_yes : EvT tYes σ H true := fun H1 _ _ q => q _ H1 rfl (Gr.refl H1)
theorem et_and {a b : Bool} (h1 : EvT t σ H a) (h2 : a = true → EvT u σ H b) : EvT (tAnd t u) σ H (a && b) := fun H1 e Q q => h1 H1 e _ fun a' H2 ea e2 => by
  subst ea
  cases a' with
  | true => exact h2 rfl H2 (e.trans e2) Q fun b' H3 eb e3 => by subst eb; exact q _ H3 rfl (e2.trans e3)
  | false => exact q _ H2 rfl e2
theorem et_or {a b : Bool} (h1 : EvT t σ H a) (h2 : a = false → EvT u σ H b) : EvT (tOr t u) σ H (a || b) := fun H1 e Q q => h1 H1 e _ fun a' H2 ea e2 => by
  subst ea
  cases a' with
  | true => exact q _ H2 rfl e2
  | false => exact h2 rfl H2 (e.trans e2) Q fun b' H3 eb e3 => by subst eb; exact q _ H3 rfl (e2.trans e3)
theorem et_not {a : Bool} (h1 : EvT t σ H a) : EvT (tNot t) σ H (!a) := fun H1 e _ q => h1 H1 e _ fun a' H2 ea e2 => by subst ea; exact q _ H2 rfl e2
theorem etd_and {Pa Pb : Bool → Prop} (h1 : EdT t σ H Pa) (h2 : EdT u σ H Pb) : EdT (tAnd t u) σ H (fun _ => True) := fun H1 e Q q => h1 H1 e _ fun a' H2 ea e2 => by
  cases a' with
  | true => exact h2 H2 (e.trans e2) Q fun b' H3 eb e3 => q _ H3 trivial (e2.trans e3)
  | false => exact q _ H2 trivial e2
theorem ev_andV {a b : Bool} (h1 : Ev ta σ H a) (h2 : a = true → Ev tb σ H b) : Ev (tAndV ta tb) σ H (a && b) := fun H1 e Q q => h1 H1 e _ fun a' v H2 ea e2 r => by
  subst ea
  refine ⟨a', r, ?_⟩
  cases a' with
  | true => exact h2 rfl H2 (e.trans e2) Q fun b' w H3 eb e3 r3 => by subst eb; exact q _ w H3 rfl (e2.trans e3) (by simpa using r3)
  | false => exact q _ _ H2 rfl e2 rfl
theorem ev_orV {a b : Bool} (h1 : Ev ta σ H a) (h2 : a = false → Ev tb σ H b) : Ev (tOrV ta tb) σ H (a || b) := fun H1 e Q q => h1 H1 e _ fun a' v H2 ea e2 r => by
  subst ea
  refine ⟨a', r, ?_⟩
  cases a' with
  | true => exact q _ _ H2 rfl e2 rfl
  | false => exact h2 rfl H2 (e.trans e2) Q fun b' w H3 eb e3 r3 => by subst eb; exact q _ w H3 rfl (e2.trans e3) (by simpa using r3)
theorem ev_if {α : Type} [Py α] {b : Bool} {x y : α} (h : EvT t σ H b) (h1 : b = true → Ev ta σ H x) (h2 : b = false → Ev tb σ H y) : Ev (tIf t ta tb) σ H (if b = true then x else y) := fun H1 e Q q => h H1 e _ fun b' H2 eb e2 => by
  subst eb
  cases b' with
  | true => exact h1 rfl H2 (e.trans e2) Q fun d v H3 p e3 r => q d v H3 (by rw [p]; rfl) (e2.trans e3) r
  | false => exact h2 rfl H2 (e.trans e2) Q fun d v H3 p e3 r => q d v H3 (by rw [p]; rfl) (e2.trans e3) r
theorem ed_if {α : Type} [Py α] {b : Bool} {P : α → Prop} (h : EvT t σ H b) (h1 : b = true → Ed ta σ H P) (h2 : b = false → Ed tb σ H P) : Ed (tIf t ta tb) σ H P := fun H1 e Q q => h H1 e _ fun b' H2 eb e2 => by
  subst eb
  cases b' with
  | true => exact h1 rfl H2 (e.trans e2) Q fun d v H3 p e3 r => q d v H3 p (e2.trans e3) r
  | false => exact h2 rfl H2 (e.trans e2) Q fun d v H3 p e3 r => q d v H3 p (e2.trans e3) r

/-! ### arguments -/
theorem ea_nil : EvA tNil σ H (fun vs _ => vs = []) := fun H1 _ _ q => q [] H1 (Gr.refl H1) rfl
theorem ea_cons {α : Type} [Py α] {P : α → Prop} {tr : TA} {R : List V → Hp → Prop} (h : Ed te σ H P) (hr : EvA tr σ H R) : EvA (tCons te tr) σ H (fun vs H' => ∃ v ws d, vs = v :: ws ∧ P d ∧ Py.rep d v H' ∧ R ws H') := fun H1 e Q q =>
  h H1 e _ fun d v H2 p e2 r => hr H2 (e.trans e2) _ fun ws H3 e3 rr => q _ H3 (e2.trans e3) ⟨v, ws, d, rfl, p, Py.mono e3 r, rr⟩
theorem ea_1 {α : Type} [Py α] {P : α → Prop} (h : Ed te σ H P) : EvA (tCons te tNil) σ H (fun vs H' => ∃ v d, vs = [v] ∧ P d ∧ Py.rep d v H') := fun H1 e Q q =>
  h H1 e _ fun d v H2 p e2 r => q _ H2 e2 ⟨v, d, rfl, p, r⟩
theorem ea_2 {α β : Type} [Py α] [Py β] {P : α → Prop} {P' : β → Prop} (h : Ed ta σ H P) (h' : Ed tb σ H P') : EvA (tCons ta (tCons tb tNil)) σ H (fun vs H' => ∃ v w d d', vs = [v, w] ∧ P d ∧ P' d' ∧ Py.rep d v H' ∧ Py.rep d' w H') := fun H1 e Q q =>
  h H1 e _ fun d v H2 p e2 r => h' H2 (e.trans e2) _ fun d' w H3 p' e3 r' => q _ H3 (e2.trans e3) ⟨v, w, d, d', rfl, p, p', Py.mono e3 r, r'⟩
/-- a tuple of items of one kind -/
def AllI {α : Type} [Py α] (ds : List α) (vs : List V) (H : Hp) : Prop := RL (fun d v => Py.rep d v H) ds vs
theorem eal_nil {α : Type} [Py α] : EvA tNil σ H (AllI ([] : List α)) := fun H1 _ _ q => q [] H1 (Gr.refl H1) RL.nil
theorem eal_cons {α : Type} [Py α] {d : α} {ds : List α} {tr : TA} (h : Ev te σ H d) (hr : EvA tr σ H (AllI ds)) : EvA (tCons te tr) σ H (AllI (d :: ds)) := fun H1 e Q q =>
  h H1 e _ fun d' v H2 p e2 r => hr H2 (e.trans e2) _ fun ws H3 e3 rr => by subst p; exact q _ H3 (e2.trans e3) (rr.cons (Py.mono e3 r))
theorem ev_tup {α : Type} [PyI α] {ds : List α} {tr : TA} (h : EvA tr σ H (AllI ds)) (hl : ds.length ≤ 100000) : Ev (tTup tr) σ H ds := fun H1 e Q q =>
  h H1 e _ fun vs H2 e2 r => ⟨by rw [← r.1]; exact Nat.le_trans hl (by decide), fun p hp => q ds _ _ rfl (e2.trans (Gr.new hp)) ⟨p, vs, rfl, upd_same, r.mono fun _ _ z => Py.mono (Gr.new hp) z⟩⟩
theorem ev_lst {α : Type} [Py α] {ds : List α} {tr : TA} (h : EvA tr σ H (AllI ds)) (hl : ds.length ≤ 100000) : Ev (tLst tr) σ H (Ls.mk ds) := fun H1 e Q q =>
  h H1 e _ fun vs H2 e2 r => ⟨by rw [← r.1]; exact Nat.le_trans hl (by decide), fun p hp => q _ _ _ rfl (e2.trans (Gr.new hp)) ⟨p, vs, rfl, upd_same, r.mono fun _ _ z => Py.mono (Gr.new hp) z⟩⟩
theorem ed_pair {α β : Type} [PyI α] [PyI β] {P : α → Prop} {P' : β → Prop} (h : Ed ta σ H P) (h' : Ed tb σ H P') : Ed (tTup (tCons ta (tCons tb tNil))) σ H (fun d : α × β => P d.1 ∧ P' d.2) := fun H1 e Q q =>
  ea_2 h h' H1 e _ fun vs H2 e2 ⟨v, w, d, d', ev, p, p', r, r'⟩ => by
    subst ev
    exact ⟨by show 2 ≤ sizeLine; decide, fun p0 hp => q (d, d') _ _ ⟨p, p'⟩ (e2.trans (Gr.new hp)) ⟨p0, v, w, rfl, upd_same, Py.mono (Gr.new hp) r, Py.mono (Gr.new hp) r'⟩⟩
theorem ev_pair {α β : Type} [PyI α] [PyI β] {a : α} {b : β} (h : Ev ta σ H a) (h' : Ev tb σ H b) : Ev (tTup (tCons ta (tCons tb tNil))) σ H (a, b) := (ed_pair h h').imp fun d h => Prod.ext h.1 h.2
theorem eo_none : EvO tNoPart σ H none := fun H1 _ _ q => q H1 (Gr.refl H1)
theorem eo_some {i : Int} (h : Ev te σ H i) : EvO (tPart te) σ H (some i) := fun H1 e _ q => h H1 e _ fun d v H2 p e2 r => by subst p; exact ⟨d, r, q H2 e2⟩

/-! ### built-ins by values -/
def RC {α γ : Type} [Py α] [Py γ] (r : List V → Hp → VK → Prop) (a : α) (P : γ → Prop) : Prop := ∀ (x : V) (H : Hp), Py.rep a x H → ∀ Q : VK, (∀ d v H2, P d → Gr H H2 → Py.rep d v H2 → Q v H2) → r [x] H Q
theorem ed_cb1 {α γ : Type} [Py α] [Py γ] {r : List V → Hp → VK → Prop} {P : α → Prop} {P' : γ → Prop} (h : Ed te σ H P) (hr : ∀ a, P a → RC r a P') : Ed (tCB r (tCons te tNil)) σ H P' := fun H1 e Q q =>
  h H1 e _ fun d v H2 p e2 rv => hr d p v H2 rv Q fun d' v' H3 p' e3 r3 => q d' v' H3 p' (e2.trans e3) r3
theorem ev_cb1 {α γ : Type} [Py α] [Py γ] {r : List V → Hp → VK → Prop} {a : α} {c : γ} (h : Ev te σ H a) (hr : RC r a (· = c)) : Ev (tCB r (tCons te tNil)) σ H c := ed_cb1 h fun a' e => by rw [e]; exact hr
def RC2 {α β γ : Type} [Py α] [Py β] [Py γ] (r : List V → Hp → VK → Prop) (a : α) (b : β) (P : γ → Prop) : Prop := ∀ (x y : V) (H : Hp), Py.rep a x H → Py.rep b y H → ∀ Q : VK, (∀ d v H2, P d → Gr H H2 → Py.rep d v H2 → Q v H2) → r [x, y] H Q
theorem ed_cb2 {α β γ : Type} [Py α] [Py β] [Py γ] {r : List V → Hp → VK → Prop} {Pa : α → Prop} {Pb : β → Prop} {P' : γ → Prop} (h : Ed ta σ H Pa) (h' : Ed tb σ H Pb) (hr : ∀ a b, Pa a → Pb b → RC2 r a b P') : Ed (tCB r (tCons ta (tCons tb tNil))) σ H P' := fun H1 e Q q =>
  h H1 e _ fun d v H2 p e2 rv => h' H2 (e.trans e2) _ fun d' v' H3 p' e3 r3 => hr d d' p p' v v' H3 (Py.mono e3 rv) r3 Q fun d2 v2 H4 p2 e4 r4 => q d2 v2 H4 p2 ((e2.trans e3).trans e4) r4
theorem ev_cb2 {α β γ : Type} [Py α] [Py β] [Py γ] {r : List V → Hp → VK → Prop} {a : α} {b : β} {c : γ} (h : Ev ta σ H a) (h' : Ev tb σ H b) (hr : RC2 r a b (· = c)) : Ev (tCB r (tCons ta (tCons tb tNil))) σ H c := ed_cb2 h h' fun a' b' e e' => by rw [e, e']; exact hr
theorem sqL_of {α : Type} [Py α] {l : List α} {v : V} {H : Hp} (h : Py.rep (Ls.mk l) v H) : ∃ p xs, v = .ref p ∧ H p = some (.lst xs) ∧ RL (fun a x => Py.rep a x H) l xs := h
theorem ints_of {l : List Int} {xs : List V} {H : Hp} (h : RL (fun (a : Int) x => Py.rep a x H) l xs) : xs = l.map V.int := RL.eq_map h
theorem bools_of {l : List Bool} {xs : List V} {H : Hp} (h : RL (fun (a : Bool) x => Py.rep a x H) l xs) : xs = l.map V.bl := RL.eq_map h
theorem of_ints {l : List Int} {H : Hp} : RL (fun (a : Int) x => Py.rep a x H) l (l.map V.int) := RL.map fun _ _ => rfl
theorem rc_all {K : PySem.W.Frag} {l : List Bool} : RC (rAll K) (Ls.mk l) (· = l.all id) := fun x H ⟨p, xs, e, hp, r⟩ Q q => ⟨p, l, by rw [e], .of (by rw [hp, bools_of r]), q _ _ H rfl (Gr.refl H) rfl⟩
theorem rc_any {K : PySem.W.Frag} {l : List Bool} : RC (rAny K) (Ls.mk l) (· = l.any id) := fun x H ⟨p, xs, e, hp, r⟩ Q q => ⟨p, l, by rw [e], .of (by rw [hp, bools_of r]), q _ _ H rfl (Gr.refl H) rfl⟩
theorem ev_all {l : List Bool} (h : Ev te σ H (Ls.mk l)) : Ev (tCB (rAll K) (tCons te tNil)) σ H (l.all id) := ev_cb1 h rc_all
theorem ev_any {l : List Bool} (h : Ev te σ H (Ls.mk l)) : Ev (tCB (rAny K) (tCons te tNil)) σ H (l.any id) := ev_cb1 h rc_any
abbrev rLenA (K : PySem.W.Frag) : List V → Hp → VK → Prop := fun xs H Q => ∃ x n, xs = [x] ∧ LenV K x H n ∧ Q (.int n) H
theorem rc_lenL {α : Type} [Py α] {K : PySem.W.Frag} {l : List α} : RC (rLenA K) (Ls.mk l) (· = (l.length : Int)) := fun x H ⟨p, xs, e, hp, r⟩ Q q => ⟨x, l.length, rfl, by rw [e]; exact .inl ⟨xs, .of hp, r.1⟩, q _ _ H rfl (Gr.refl H) rfl⟩
theorem rc_lenT {α : Type} [PyI α] {K : PySem.W.Frag} {l : List α} : RC (rLenA K) l (· = (l.length : Int)) := fun x H ⟨p, xs, e, hp, r⟩ Q q => ⟨x, l.length, rfl, by rw [e]; exact .inr ⟨xs, .of hp, r.1⟩, q _ _ H rfl (Gr.refl H) rfl⟩
theorem rc_lenS {K : PySem.W.Frag} {s : Str} (hs : s.length ≤ 100000) : RC (rLenA K) s (· = (s.length : Int)) := fun x H e Q q => ⟨x, s.length, rfl, by rw [show x = V.str s from e]; exact ⟨Nat.le_trans hs (by decide), rfl⟩, q _ _ H rfl (Gr.refl H) rfl⟩
theorem ev_lenL {α : Type} [Py α] {l : List α} (h : Ev te σ H (Ls.mk l)) : Ev (tCB (rLenA K) (tCons te tNil)) σ H (l.length : Int) := ev_cb1 h rc_lenL
theorem ev_lenT {α : Type} [PyI α] {l : List α} (h : Ev te σ H l) : Ev (tCB (rLenA K) (tCons te tNil)) σ H (l.length : Int) := ev_cb1 h rc_lenT
theorem ev_lenS {s : Str} (h : Ev te σ H s) (hs : s.length ≤ 100000) : Ev (tCB (rLenA K) (tCons te tNil)) σ H (s.length : Int) := ev_cb1 h (rc_lenS hs)
end
end Zw
/-! Z3: subscripts, slices, comprehensions, calls, statements, loops. -/
namespace Zw
open PySem L2 RZ

theorem RL.atI {α : Type} {R : α → V → Prop} {ds : List α} {xs : List V} (h : RL R ds xs) {i : Int} {d : α} (e : L2.atI ds i = some d) : ∃ x, L2.atI xs i = some x ∧ R d x := by
  unfold L2.atI at e ⊢
  rw [← h.1]
  cases q : ixN ds.length i with
  | none => rw [q] at e; cases e
  | some j => rw [q] at e; exact h.get e
def cutL {α : Type} (xs : List α) (lo hi : Option Int) : List α := (xs.drop (HT.sIx xs.length 0 lo)).take (HT.sIx xs.length xs.length hi - HT.sIx xs.length 0 lo)
theorem RL.cut {α : Type} {R : α → V → Prop} {ds : List α} {xs : List V} (h : RL R ds xs) (lo hi : Option Int) : RL R (cutL ds lo hi) (cutV xs lo hi) := by
  unfold cutL cutV
  rw [← h.1]
  exact (h.drop _).take _
theorem cutL_whole {α : Type} {xs : List α} {lo hi : Option Int} (h : HT.sIx xs.length 0 lo = 0 ∧ HT.sIx xs.length xs.length hi = xs.length) : cutL xs lo hi = xs := by
  unfold cutL
  rw [h.1, h.2]
  simp

section
variable {K : PySem.W.Frag} {σ : L2.St} {H H' : Hp} {ta tb tc te tl : TE} {t u tt : TT} {α β γ : Type}

/-! ### subscripts -/
theorem ed_ixT [PyI α] {ds : List α} {Pi : Int → Prop} {P : α → Prop} (h : Ev ta σ H ds) (hi : Ed tb σ H Pi) (e : ∀ i, Pi i → ∃ d, L2.atI ds i = some d ∧ P d) : Ed (tOp (rIxT K) ta tb) σ H P := ed_op h hi fun ds' i e1 pi x y H2 ⟨p, xs, ex, hp, r⟩ ry Q q => by
  subst e1
  obtain ⟨d, ed, pd⟩ := e i pi
  obtain ⟨z, ez, rz⟩ := r.atI ed
  exact ⟨p, xs, i, z, ex, ry, .of hp, ez, q d z H2 pd (Gr.refl H2) rz⟩
theorem ev_ixT [PyI α] {ds : List α} {i : Int} {d : α} (h : Ev ta σ H ds) (hi : Ev tb σ H i) (e : L2.atI ds i = some d) : Ev (tOp (rIxT K) ta tb) σ H d := ed_ixT h hi fun i' e' => ⟨d, by rw [e']; exact e, rfl⟩
theorem ed_ixL [Py α] {ds : List α} {Pi : Int → Prop} {P : α → Prop} (h : Ev ta σ H (Ls.mk ds)) (hi : Ed tb σ H Pi) (e : ∀ i, Pi i → ∃ d, L2.atI ds i = some d ∧ P d) : Ed (tOp (rIxL K) ta tb) σ H P := ed_op h hi fun ds' i e1 pi x y H2 ⟨p, xs, ex, hp, r⟩ ry Q q => by
  subst e1
  obtain ⟨d, ed, pd⟩ := e i pi
  obtain ⟨z, ez, rz⟩ := r.atI ed
  exact ⟨p, xs, i, z, ex, ry, .of hp, ez, q d z H2 pd (Gr.refl H2) rz⟩
theorem ev_ixL [Py α] {ds : List α} {i : Int} {d : α} (h : Ev ta σ H (Ls.mk ds)) (hi : Ev tb σ H i) (e : L2.atI ds i = some d) : Ev (tOp (rIxL K) ta tb) σ H d := ed_ixL h hi fun i' e' => ⟨d, by rw [e']; exact e, rfl⟩
theorem ev_fst [PyI α] [PyI β] {d : α × β} (h : Ev ta σ H d) : Ev (tOp (rIxT K) ta (tC (.int 0))) σ H d.1 := fun H1 g Q q => h H1 g _ fun d' v H2 e g2 ⟨p, x, y, ev, hp, r1, r2⟩ => by
  subst e
  exact ⟨p, _, 0, x, ev, rfl, .of hp, rfl, q _ x H2 rfl g2 r1⟩
theorem ev_snd [PyI α] [PyI β] {d : α × β} (h : Ev ta σ H d) : Ev (tOp (rIxT K) ta (tC (.int 1))) σ H d.2 := fun H1 g Q q => h H1 g _ fun d' v H2 e g2 ⟨p, x, y, ev, hp, r1, r2⟩ => by
  subst e
  exact ⟨p, _, 1, y, ev, rfl, .of hp, rfl, q _ y H2 rfl g2 r2⟩
theorem ev_slT [PyI α] {ds : List α} {lo hi : Option Int} {to th : TO} (h : Ev te σ H ds) (h1 : EvO to σ H lo) (h2 : EvO th σ H hi) : Ev (tSl (rSlA K) te to th) σ H (cutL ds lo hi) := fun H1 e Q q =>
  h H1 e _ fun d v H2 p e2 ⟨a, xs, ev, ha, r⟩ => h1 H2 (e.trans e2) _ fun H3 e3 => h2 H3 ((e.trans e2).trans e3) _ fun H4 e4 => by
    subst p
    have e24 := e3.trans e4
    refine ⟨a, xs, ev, .of (e24.tup _ _ ha), fun hw => ?_, fun _ p hp => ?_⟩
    · rw [← r.1] at hw
      exact q _ _ H4 (cutL_whole hw).symm (e2.trans e24) ⟨a, xs, rfl, e24.tup _ _ ha, r.mono fun _ _ z => PyI.keep e24.tup z⟩
    · exact q _ _ _ rfl ((e2.trans e24).trans (Gr.new hp)) ⟨p, _, rfl, upd_same, (r.cut lo hi).mono fun _ _ z => PyI.keep (e24.tup.trans (TupK.new hp)) z⟩
theorem ev_slL [PyI α] {ds : List α} {lo hi : Option Int} {to th : TO} (h : Ev te σ H (Ls.mk ds)) (h1 : EvO to σ H lo) (h2 : EvO th σ H hi) : Ev (tSl (rSlL K) te to th) σ H (Ls.mk (cutL ds lo hi)) := fun H1 e Q q =>
  h H1 e _ fun d v H2 p e2 ⟨a, xs, ev, ha, r⟩ => h1 H2 (e.trans e2) _ fun H3 e3 => h2 H3 ((e.trans e2).trans e3) _ fun H4 e4 => by
    subst p
    have e24 := e3.trans e4
    exact ⟨a, xs, ev, .of (e24.lst ha), fun p hp => q _ _ _ rfl ((e2.trans e24).trans (Gr.new hp)) ⟨p, _, rfl, upd_same, (r.cut lo hi).mono fun _ _ z => PyI.keep (e24.tup.trans (TupK.new hp)) z⟩⟩
/-- t + u of tuples -/
theorem ro_catT [PyI α] {a b : List α} (hz : a.length + b.length ≤ 100000) : RO (rCatA K) a b (· = a ++ b) := fun x y H ⟨p, xs, e, hp, r⟩ ⟨p', xs', e', hp', r'⟩ Q q => by
  refine ⟨p, p', xs, xs', e, e', .of hp, .of hp', by rw [← r.1, ← r'.1]; exact Nat.le_trans hz (by decide), fun h0 => ?_, fun h0 h1 => ?_, fun _ _ p0 hp0 => ?_⟩
  · have ea : a = [] := by have := r.1; rw [h0] at this; exact List.eq_nil_of_length_eq_zero this
    exact q _ _ H (by rw [ea]; rfl) (Gr.refl H) ⟨p', xs', rfl, hp', r'⟩
  · have eb : b = [] := by have := r'.1; rw [h1] at this; exact List.eq_nil_of_length_eq_zero this
    exact q _ _ H (by rw [eb, List.append_nil]) (Gr.refl H) ⟨p, xs, rfl, hp, r⟩
  · exact q _ _ _ rfl (Gr.new hp0) ⟨p0, _, rfl, upd_same, (r.append r').mono fun _ _ z => PyI.keep (TupK.new hp0) z⟩
theorem ev_catT [PyI α] {a b : List α} (ha : Ev ta σ H a) (hb : Ev tb σ H b) (hz : a.length + b.length ≤ 100000) : Ev (tOp (rCatA K) ta tb) σ H (a ++ b) := ev_op ha hb (ro_catT hz)
theorem ro_catL [PyI α] {a b : List α} (hz : a.length + b.length ≤ 100000) : RO rCat (Ls.mk a) (Ls.mk b) (· = Ls.mk (a ++ b)) := fun x y H ⟨p, xs, e, hp, r⟩ ⟨p', xs', e', hp', r'⟩ Q q =>
  ⟨p, p', xs, xs', e, e', hp, hp', by rw [← r.1, ← r'.1]; exact Nat.le_trans hz (by decide), fun p0 hp0 => q _ _ _ rfl (Gr.new hp0) ⟨p0, _, rfl, upd_same, (r.append r').mono fun _ _ z => PyI.keep (TupK.new hp0) z⟩⟩
theorem ev_catL [PyI α] {a b : List α} (ha : Ev ta σ H (Ls.mk a)) (hb : Ev tb σ H (Ls.mk b)) (hz : a.length + b.length ≤ 100000) : Ev (tOp rCat ta tb) σ H (Ls.mk (a ++ b)) := ev_op ha hb (ro_catL hz)
/-- tuple(xs), list(xs) -/
abbrev rTupOf (K : PySem.W.Frag) : List V → Hp → VK → Prop := fun xs H Q => ∃ p ys, xs = [.ref p] ∧ ((SqL K H p ys ∧ ∀ l, H l = none → Q (.ref l) (upd H l (.tup ys))) ∨ (SqT K H p ys ∧ Q (.ref p) H))
abbrev rLstOf (K : PySem.W.Frag) : List V → Hp → VK → Prop := fun xs H Q => ∃ p ys, xs = [.ref p] ∧ (SqL K H p ys ∨ SqT K H p ys) ∧ ∀ l, H l = none → Q (.ref l) (upd H l (.lst ys))
theorem rc_tupL [PyI α] {a : List α} : RC (rTupOf K) (Ls.mk a) (· = a) := fun x H ⟨p, xs, e, hp, r⟩ Q q => ⟨p, xs, by rw [e], .inl ⟨.of hp, fun l hl => q _ _ _ rfl (Gr.new hl) ⟨l, xs, rfl, upd_same, r.mono fun _ _ z => PyI.keep (TupK.new hl) z⟩⟩⟩
theorem rc_tupT [PyI α] {a : List α} : RC (rTupOf K) a (· = a) := fun x H ⟨p, xs, e, hp, r⟩ Q q => ⟨p, xs, by rw [e], .inr ⟨.of hp, q _ _ _ rfl (Gr.refl H) ⟨p, xs, rfl, hp, r⟩⟩⟩
theorem rc_lstL [PyI α] {a : List α} : RC (rLstOf K) (Ls.mk a) (· = Ls.mk a) := fun x H ⟨p, xs, e, hp, r⟩ Q q => ⟨p, xs, by rw [e], .inl (.of hp), fun l hl => q _ _ _ rfl (Gr.new hl) ⟨l, xs, rfl, upd_same, r.mono fun _ _ z => PyI.keep (TupK.new hl) z⟩⟩
theorem rc_lstT [PyI α] {a : List α} : RC (rLstOf K) a (· = Ls.mk a) := fun x H ⟨p, xs, e, hp, r⟩ Q q => ⟨p, xs, by rw [e], .inr (.of hp), fun l hl => q _ _ _ rfl (Gr.new hl) ⟨l, xs, rfl, upd_same, r.mono fun _ _ z => PyI.keep (TupK.new hl) z⟩⟩
theorem ev_tupL [PyI α] {a : List α} (h : Ev te σ H (Ls.mk a)) : Ev (tCB (rTupOf K) (tCons te tNil)) σ H a := ev_cb1 h rc_tupL
theorem ev_tupT [PyI α] {a : List α} (h : Ev te σ H a) : Ev (tCB (rTupOf K) (tCons te tNil)) σ H a := ev_cb1 h rc_tupT
theorem ev_lstL [PyI α] {a : List α} (h : Ev te σ H (Ls.mk a)) : Ev (tCB (rLstOf K) (tCons te tNil)) σ H (Ls.mk a) := ev_cb1 h rc_lstL
theorem ev_lstT [PyI α] {a : List α} (h : Ev te σ H a) : Ev (tCB (rLstOf K) (tCons te tNil)) σ H (Ls.mk a) := ev_cb1 h rc_lstT

/-! ### what is walked -/
/-- S: what must stand of the source; ds: what is yielded -/
structure Wk [Py α] (J : It) (ds : List α) (S : Hp → Prop) : Prop where
  stop : ∀ H, S H → J.stop ds.length H
  go : ∀ H, S H → ∀ i d, ds[i]? = some d → J.go i H ∧ ∀ x H', J.yld i H x H' → Gr H H' ∧ Py.rep d x H'
/-- a source that stands while tuples stand -/
def SrcT [Py α] (wi : TI) (σ : L2.St) (H : Hp) (ds : List α) : Prop := ∀ H1, Gr H H1 → ∀ R : It → Hp → Prop, (∀ J H2, Gr H1 H2 → Wk J ds (TupK H2) → R J H2) → wi σ H1 R
/-- a list -/
def SrcL [Py α] (wi : TI) (σ : L2.St) (H : Hp) (ds : List α) : Prop := ∀ H1, Gr H H1 → ∀ R : It → Hp → Prop, (∀ J H2 a xs, Gr H1 H2 → H2 a = some (.lst xs) → Wk J ds (fun H3 => H3 a = some (.lst xs) ∧ TupK H2 H3) → R J H2) → wi σ H1 R
/-- while the heap grows only -/
def Src [Py α] (wi : TI) (σ : L2.St) (H : Hp) (ds : List α) : Prop := ∀ H1, Gr H H1 → ∀ R : It → Hp → Prop, (∀ J H2, Gr H1 H2 → Wk J ds (Gr H2) → R J H2) → wi σ H1 R
theorem Wk.imp [Py α] {J : It} {ds : List α} {S S' : Hp → Prop} (w : Wk J ds S) (i : ∀ H, S' H → S H) : Wk J ds S' := ⟨fun H h => w.stop H (i H h), fun H h => w.go H (i H h)⟩
theorem SrcT.src [Py α] {wi : TI} {ds : List α} (h : SrcT wi σ H ds) : Src wi σ H ds := fun H1 g R r => h H1 g R fun J H2 g2 w => r J H2 g2 (w.imp fun _ z => z.tup)
theorem SrcL.src [Py α] {wi : TI} {ds : List α} (h : SrcL wi σ H ds) : Src wi σ H ds := fun H1 g R r => h H1 g R fun J H2 a xs g2 ha w => r J H2 g2 (w.imp fun _ z => ⟨z.lst ha, z.tup⟩)
theorem src_tup [PyI α] {ds : List α} (h : Ev tl σ H ds) : SrcT (iTup K tl) σ H ds := fun H1 g R r => h H1 g _ fun d v H2 e g2 ⟨p, xs, ev, hp, rl⟩ => by
  subst e
  refine ⟨p, ev, ⟨xs, .of hp⟩, r _ H2 g2 ⟨fun H3 k => ⟨xs, .of (k _ _ hp), by rw [rl.1]; exact Nat.le_refl _⟩, fun H3 k i d' hd => ?_⟩⟩
  obtain ⟨x, hx, rx⟩ := rl.get hd
  refine ⟨⟨xs, x, .of (k _ _ hp), hx⟩, fun y H4 hy => ?_⟩
  obtain ⟨e4, hy⟩ := hy
  subst e4
  have e5 := hy xs (.of (k _ _ hp))
  rw [hx] at e5
  cases e5
  exact ⟨Gr.refl _, PyI.keep k rx⟩
theorem src_lst [PyI α] {ds : List α} (h : Ev tl σ H (Ls.mk ds)) : SrcL (iList K tl) σ H ds := fun H1 g R r => h H1 g _ fun d v H2 e g2 ⟨p, xs, ev, hp, rl⟩ => by
  subst e
  refine ⟨p, ev, ⟨xs, .of hp⟩, r _ H2 p xs g2 hp ⟨fun H3 k => ⟨xs, .of k.1, by rw [rl.1]; exact Nat.le_refl _⟩, fun H3 k i d' hd => ?_⟩⟩
  obtain ⟨x, hx, rx⟩ := rl.get hd
  refine ⟨⟨xs, x, .of k.1, hx⟩, fun y H4 hy => ?_⟩
  obtain ⟨e4, hy⟩ := hy
  subst e4
  have e5 := hy xs (.of k.1)
  rw [hx] at e5
  cases e5
  exact ⟨Gr.refl _, PyI.keep k.2 rx⟩
def rngI (lo : Int) (n : Nat) : List Int := (List.range n).map fun (i : Nat) => lo + (i : Int)
theorem rngI_length (lo : Int) (n : Nat) : (rngI lo n).length = n := by unfold rngI; simp
theorem rngI_get {lo : Int} {n i : Nat} {d : Int} (h : (rngI lo n)[i]? = some d) : i < n ∧ d = lo + i := by
  unfold rngI at h
  rw [List.getElem?_map] at h
  by_cases hi : i < n
  · rw [List.getElem?_range hi] at h
    simp at h
    exact ⟨hi, h.symm⟩
  · rw [List.getElem?_eq_none (by simp; omega)] at h
    cases h
theorem mem_rngI {lo : Int} {n : Nat} {d : Int} : d ∈ rngI lo n ↔ lo ≤ d ∧ d < lo + n := by
  unfold rngI
  rw [List.mem_map]
  constructor
  · rintro ⟨i, hi, rfl⟩
    have := List.mem_range.mp hi
    omega
  · rintro ⟨h1, h2⟩
    exact ⟨(d - lo).toNat, List.mem_range.mpr (by omega), by omega⟩
theorem wk_rng {lo : Int} {n : Nat} {S : Hp → Prop} : Wk (Itr lo n) (rngI lo n) S :=
  ⟨fun H _ => by rw [rngI_length]; exact Nat.le_refl n, fun H _ i d hd => by
    obtain ⟨hi, rfl⟩ := rngI_get hd
    exact ⟨hi, fun x H' ⟨e, ex⟩ => by subst e; exact ⟨Gr.refl _, ex⟩⟩⟩
theorem src_rng1 {n : Int} (h : Ev te σ H n) (hn : -100000 ≤ n ∧ n ≤ 100000) : SrcT (iRng1 (tCons te tNil)) σ H (rngI 0 n.toNat) := fun H1 g R r => ea_1 h H1 g _ fun vs H2 g2 ⟨v, d, ev, pd, rd⟩ => by
  subst ev pd
  exact ⟨d, by rw [show v = V.int d from rd], by omega, by omega, r _ H2 g2 wk_rng⟩
theorem src_rng2 {lo n : Int} (h0 : Ev ta σ H lo) (h : Ev te σ H n) (hn : -100000 ≤ lo ∧ lo ≤ 100000 ∧ -100000 ≤ n ∧ n ≤ 100000) : SrcT (iRng2 (tCons ta (tCons te tNil))) σ H (rngI lo (n - lo).toNat) := fun H1 g R r => ea_2 h0 h H1 g _ fun vs H2 g2 ⟨v, w, d, d', ev, pd, pd', rd, rd'⟩ => by
  subst ev pd pd'
  exact ⟨d, d', by rw [show v = V.int d from rd, show w = V.int d' from rd'], ⟨by omega, by omega, by omega, by omega⟩, r _ H2 g2 wk_rng⟩
/-- zip of two tuples; of two lists -/
theorem src_zipT [PyI α] [PyI β] {ds : List α} {es : List β} (h : Ev ta σ H ds) (h' : Ev tb σ H es) : SrcT (iZipA K (tCons ta (tCons tb tNil))) σ H (ds.zip es) := fun H1 g R r => ea_2 h h' H1 g _ fun vs H2 g2 ⟨v, w, d, d', ev, pd, pd', ⟨a, xs, e1, ha, r1⟩, ⟨b, ys, e2, hb, r2⟩⟩ => by
  subst ev pd pd'
  refine ⟨a, b, xs, ys, by rw [e1, e2], .inr ⟨.of ha, .of hb, r _ H2 g2 ⟨fun H3 k => ⟨xs, ys, .of (k _ _ ha), .of (k _ _ hb), ?_⟩, fun H3 k i z hz => ?_⟩⟩⟩
  · rw [List.length_zip, r1.1, r2.1]
    by_cases hl : xs.length ≤ ys.length
    · exact .inl (by omega)
    · exact .inr (by omega)
  · obtain ⟨z1, z2⟩ := z
    obtain ⟨hd1, hd2⟩ := List.getElem?_zip_eq_some.mp hz
    obtain ⟨x, hx, rx⟩ := r1.get hd1
    obtain ⟨y, hy, ry⟩ := r2.get hd2
    refine ⟨⟨xs, ys, x, y, .of (k _ _ ha), .of (k _ _ hb), hx, hy⟩, fun v' H4 hv => ?_⟩
    obtain ⟨T, x', y', ev', hT, e4, hx', hy'⟩ := hv
    have q1 := hx' xs (.of (k _ _ ha))
    have q2 := hy' ys (.of (k _ _ hb))
    rw [hx] at q1
    rw [hy] at q2
    cases q1
    cases q2
    subst e4
    exact ⟨Gr.new hT, T, x, y, ev', upd_same, PyI.keep (k.trans (TupK.new hT)) rx, PyI.keep (k.trans (TupK.new hT)) ry⟩
theorem src_zipL [PyI α] [PyI β] {ds : List α} {es : List β} (h : Ev ta σ H (Ls.mk ds)) (h' : Ev tb σ H (Ls.mk es)) : Src (iZipA K (tCons ta (tCons tb tNil))) σ H (ds.zip es) := fun H1 g R r => ea_2 h h' H1 g _ fun vs H2 g2 ⟨v, w, d, d', ev, pd, pd', ⟨a, xs, e1, ha, r1⟩, ⟨b, ys, e2, hb, r2⟩⟩ => by
  subst ev pd pd'
  refine ⟨a, b, xs, ys, by rw [e1, e2], .inl ⟨.of ha, .of hb, r _ H2 g2 ⟨fun H3 k => ⟨xs, ys, .of (k.lst ha), .of (k.lst hb), ?_⟩, fun H3 k i z hz => ?_⟩⟩⟩
  · rw [List.length_zip, r1.1, r2.1]
    by_cases hl : xs.length ≤ ys.length
    · exact .inl (by omega)
    · exact .inr (by omega)
  · obtain ⟨z1, z2⟩ := z
    obtain ⟨hd1, hd2⟩ := List.getElem?_zip_eq_some.mp hz
    obtain ⟨x, hx, rx⟩ := r1.get hd1
    obtain ⟨y, hy, ry⟩ := r2.get hd2
    refine ⟨⟨xs, ys, x, y, .of (k.lst ha), .of (k.lst hb), hx, hy⟩, fun v' H4 hv => ?_⟩
    obtain ⟨T, x', y', ev', hT, e4, hx', hy'⟩ := hv
    have q1 := hx' xs (.of (k.lst ha))
    have q2 := hy' ys (.of (k.lst hb))
    rw [hx] at q1
    rw [hy] at q2
    cases q1
    cases q2
    subst e4
    exact ⟨Gr.new hT, T, x, y, ev', upd_same, PyI.keep (k.tup.trans (TupK.new hT)) rx, PyI.keep (k.tup.trans (TupK.new hT)) ry⟩
/-- the signs of a text -/
def signsL (x : Str) : List Str := x.cps.toList.map fun c => ⟨#[c]⟩
theorem src_str {x : Str} (h : Ev te σ H x) : SrcT (iStr te) σ H (signsL x) := fun H1 g R r => h H1 g _ fun d v H2 e g2 rv => by
  subst e
  refine ⟨d, rv, r _ H2 g2 ⟨fun H3 _ => by unfold signsL; show d.cps.size ≤ _; simp, fun H3 k i z hz => ?_⟩⟩
  unfold signsL at hz
  rw [List.getElem?_map] at hz
  have hz' : (d.cps[i]?).map (fun c => (⟨#[c]⟩ : Str)) = some z := by simpa using hz
  cases q : d.cps[i]? with
  | none => rw [q] at hz'; cases hz'
  | some c =>
    rw [q] at hz'
    simp at hz'
    subst hz'
    refine ⟨?_, fun x H4 ⟨e, c', hc, ex⟩ => ?_⟩
    · show i < d.cps.size
      exact (Array.getElem?_eq_some_iff.mp q).1
    · subst e
      rw [q] at hc
      cases hc
      exact ⟨Gr.refl _, ex⟩

/-! ### comprehensions -/
def SlotN [Py α] (σw : L2.St) (j : Nat) (d : α) (σ2 : L2.St) (H : Hp) : Prop := ∃ x, σ2 = σw.set j (some x) ∧ Py.rep d x H
def SlotP [Py α] [Py β] (σw : L2.St) (i j : Nat) (d : α × β) (σ2 : L2.St) (H : Hp) : Prop := ∃ x y, σ2 = (σw.set i (some x)).set j (some y) ∧ Py.rep d.1 x H ∧ Py.rep d.2 y H
theorem el_lc [Py α] [PyI β] {wi : TI} {g : TG} {vs : List Nat} {ds : List α} (S : α → L2.St → Hp → Prop) (f : α → Bool) (v : α → β) (hs : Src wi σ H ds) (hz : ds.length ≤ 100000)
    (hg : ∀ d x H', Py.rep d x H' → ∀ Q : L2.St → Hp → Prop, (∀ σ2, wipe σ2 vs = wipe σ vs → S d σ2 H' → Q σ2 H') → g x (wipe σ vs) H' Q)
    (ht : ∀ d σ2 H', d ∈ ds → Gr H H' → S d σ2 H' → EvT tt σ2 H' (f d)) (he : ∀ d σ2 H', d ∈ ds → Gr H H' → S d σ2 H' → f d = true → Ev te σ2 H' (v d)) :
    Ev (tLc wi g tt te vs) σ H (Ls.mk ((ds.filter f).map v)) := by
  intro H1 g1 Q q
  refine hs H1 g1 _ fun J H2 g2 w D hD => ?_
  have gD : Gr H2 (upd H2 D (.lst [])) := Gr.new hD
  refine ⟨fun i m H' => m = ds.length - i ∧ i ≤ ds.length ∧ Gr H2 H' ∧ ∃ xs, H' D = some (.lst xs) ∧ RL (fun a x => PyI.rep a x H') (((ds.take i).filter f).map v) xs, ⟨ds.length, by simp, Nat.zero_le _, gD, [], upd_same, by simpa using RL.nil⟩, ?_⟩
  rintro i m H3 ⟨rfl, hi, g3, xs, hx, rx⟩
  by_cases hlt : i < ds.length
  · have hd : ds[i]? = some ds[i] := by simp [hlt]
    obtain ⟨hgo, hy⟩ := w.go H3 g3 i _ hd
    have hmem : ds[i] ∈ ds := List.getElem_mem hlt
    have htk : ds.take (i + 1) = ds.take i ++ [ds[i]] := by rw [List.take_add_one, hd]; rfl
    have hle : (((ds.take i).filter f).map v).length ≤ 100000 := by
      rw [List.length_map]
      exact Nat.le_trans (List.length_filter_le _ _) (by rw [List.length_take]; omega)
    refine .inr ⟨hgo, fun H' => i + 1 ≤ ds.length ∧ Gr H2 H' ∧ ∃ xs, H' D = some (.lst xs) ∧ RL (fun a x => PyI.rep a x H') (((ds.take (i + 1)).filter f).map v) xs, fun H' h => ⟨ds.length - (i + 1), by omega, rfl, h.1, h.2⟩, fun x H4 hyl => ?_⟩
    obtain ⟨g4, r4⟩ := hy x H4 hyl
    refine hg _ x H4 r4 _ fun σ2 hw hS => ⟨hw, ?_⟩
    have gH4 : Gr H H4 := ((g1.trans g2).trans g3).trans g4
    refine ht _ σ2 H4 hmem gH4 hS H4 (Gr.refl _) _ fun b H5 eb g5 => ?_
    subst eb
    cases hf : f ds[i] with
    | true =>
      refine he _ σ2 H4 hmem gH4 hS hf H5 g5 _ fun z y H6 ez g6 r6 => ?_
      subst ez
      have g36 : Gr H3 H6 := (g4.trans g5).trans g6
      refine ⟨xs, g36.lst hx, by rw [← rx.1]; exact Nat.lt_of_le_of_lt hle (by decide), hlt, (g3.trans g36).mut hD (g36.lst hx) (fun _ z => nomatch z), _, upd_same, ?_⟩
      have hp : TupK H6 (upd H6 D (.lst (xs ++ [y]))) := TupK.put (g36.lst hx) (fun _ z => nomatch z)
      rw [htk, List.filter_append, List.map_append, List.filter_cons, if_pos hf]
      exact (rx.mono fun _ _ z => PyI.keep (g36.tup.trans hp) z).snoc (PyI.keep hp r6)
    | false =>
      refine ⟨hlt, g3.trans (g4.trans g5), xs, (g4.trans g5).lst hx, ?_⟩
      rw [htk, List.filter_append, List.map_append, List.filter_cons, if_neg (by rw [hf]; decide)]
      simpa using rx.mono fun _ _ z => PyI.keep (g4.trans g5).tup z
  · have e : i = ds.length := by omega
    subst e
    refine .inl ⟨w.stop H3 g3, q _ _ H3 rfl (g2.trans g3) ⟨D, xs, rfl, hx, ?_⟩⟩
    rw [List.take_length] at rx
    exact rx
theorem el_lcN [Py α] [PyI β] {wi : TI} {j : Nat} {vs : List Nat} {ds : List α} {f : α → Bool} {v : α → β} (hs : Src wi σ H ds) (hz : ds.length ≤ 100000) (hw : ∀ x, wipe ((wipe σ vs).set j (some x)) vs = wipe σ vs)
    (ht : ∀ d x H', d ∈ ds → Gr H H' → Py.rep d x H' → EvT tt ((wipe σ vs).set j (some x)) H' (f d)) (he : ∀ d x H', d ∈ ds → Gr H H' → Py.rep d x H' → f d = true → Ev te ((wipe σ vs).set j (some x)) H' (v d)) :
    Ev (tLc wi (gName j) tt te vs) σ H (Ls.mk ((ds.filter f).map v)) :=
  el_lc (SlotN (wipe σ vs) j) f v hs hz (fun d x H' r Q q => q _ (hw x) ⟨x, rfl, r⟩) (fun d σ2 H' m g ⟨x, e, r⟩ => by subst e; exact ht d x H' m g r) (fun d σ2 H' m g ⟨x, e, r⟩ hf => by subst e; exact he d x H' m g r hf)
theorem gTup2 [PyI α] [PyI β] {i j : Nat} {d : α × β} {x : V} {H : Hp} {Q : L2.St → Hp → Prop} (r : Py.rep d x H) (q : ∀ y z, Py.rep d.1 y H → Py.rep d.2 z H → Q ((σ.set i (some y)).set j (some z)) H) :
    gTup K 2 (gCons (gName i) (gCons (gName j) gNil)) x σ H Q := by
  obtain ⟨p, y, z, e, hp, r1, r2⟩ := r
  exact ⟨p, _, e, .of hp, rfl, y, _, rfl, z, _, rfl, rfl, q y z r1 r2⟩
theorem el_lcP [PyI α] [PyI β] [PyI γ] {wi : TI} {i j : Nat} {vs : List Nat} {ds : List (α × β)} {f : α × β → Bool} {v : α × β → γ} (hs : Src wi σ H ds) (hz : ds.length ≤ 100000) (hw : ∀ x y, wipe (((wipe σ vs).set i (some x)).set j (some y)) vs = wipe σ vs)
    (ht : ∀ d x y H', d ∈ ds → Gr H H' → Py.rep d.1 x H' → Py.rep d.2 y H' → EvT tt (((wipe σ vs).set i (some x)).set j (some y)) H' (f d))
    (he : ∀ d x y H', d ∈ ds → Gr H H' → Py.rep d.1 x H' → Py.rep d.2 y H' → f d = true → Ev te (((wipe σ vs).set i (some x)).set j (some y)) H' (v d)) :
    Ev (tLc wi (gTup K 2 (gCons (gName i) (gCons (gName j) gNil))) tt te vs) σ H (Ls.mk ((ds.filter f).map v)) :=
  el_lc (SlotP (wipe σ vs) i j) f v hs hz (fun d x H' r Q q => gTup2 r fun y z r1 r2 => q _ (hw y z) ⟨y, z, rfl, r1, r2⟩) (fun d σ2 H' m g ⟨x, y, e, r, r'⟩ => by subst e; exact ht d x y H' m g r r') (fun d σ2 H' m g ⟨x, y, e, r, r'⟩ hf => by subst e; exact he d x y H' m g r r' hf)
/-- no test -/
theorem filter_yes {l : List α} : l.filter (fun _ => true) = l := by induction l with | nil => rfl | cons a l ih => rw [List.filter_cons, if_pos rfl, ih]
theorem el_mapN [Py α] [PyI β] {wi : TI} {j : Nat} {vs : List Nat} {ds : List α} {v : α → β} (hs : Src wi σ H ds) (hz : ds.length ≤ 100000) (hw : ∀ x, wipe ((wipe σ vs).set j (some x)) vs = wipe σ vs)
    (he : ∀ d x H', d ∈ ds → Gr H H' → Py.rep d x H' → Ev te ((wipe σ vs).set j (some x)) H' (v d)) : Ev (tLc wi (gName j) tYes te vs) σ H (Ls.mk (ds.map v)) := by
  have h := el_lcN (f := fun _ => true) hs hz hw (fun _ _ _ _ _ _ => et_yes) (fun d x H' m g r _ => he d x H' m g r)
  rw [filter_yes] at h
  exact h
theorem el_mapP [PyI α] [PyI β] [PyI γ] {wi : TI} {i j : Nat} {vs : List Nat} {ds : List (α × β)} {v : α × β → γ} (hs : Src wi σ H ds) (hz : ds.length ≤ 100000) (hw : ∀ x y, wipe (((wipe σ vs).set i (some x)).set j (some y)) vs = wipe σ vs)
    (he : ∀ d x y H', d ∈ ds → Gr H H' → Py.rep d.1 x H' → Py.rep d.2 y H' → Ev te (((wipe σ vs).set i (some x)).set j (some y)) H' (v d)) :
    Ev (tLc wi (gTup K 2 (gCons (gName i) (gCons (gName j) gNil))) tYes te vs) σ H (Ls.mk (ds.map v)) := by
  have h := el_lcP (K := K) (f := fun _ => true) hs hz hw (fun _ _ _ _ _ _ _ _ => et_yes) (fun d x y H' m g r r' _ => he d x y H' m g r r')
  rw [filter_yes] at h
  exact h
end
end Zw
/-! Z4: houses, promises, calls, statements, loops. -/
namespace Zw
open PySem L2 RZ

/-! ### houses -/
structure Hs (C : Addr) where
  r : Int
  ds : List (Int × Int)
instance instHs {C : Addr} : Py (Hs C) := ⟨fun h v H => ∃ p dx t l, v = .ref p ∧ H p = some (.ins C dx (hFields h.r t l)) ∧ Neat H ∧ PyI.rep h.ds (.ref t) H ∧ (H l = some (.dK []) ∨ ∃ b, H l = some (warm b) ∧ PyI.rep (besM h.r h.ds) b H),
  fun {d v H H'} g ⟨p, dx, t, l, e, hp, hn, ht, hl⟩ => ⟨p, dx, t, l, e, g.ins hp, g.neat hn, PyI.keep g.tup ht, by
    have key : ∀ o, H l = some o → H' l = some o ∨ ∃ b, H' l = some (warm b) ∧ PyI.rep (besM d.r d.ds) b H' := fun o ho => by
      rcases g.old l _ ho with z | ⟨_, _, v, ns, z, r, ow⟩
      · exact .inl z
      · exact .inr ⟨v, z, by rw [← ow p C dx d.r t d.ds hp ht]; exact r⟩
    rcases hl with hl | ⟨b, hl, hb⟩
    · exact key _ hl
    · rcases key _ hl with z | z
      · exact .inr ⟨b, z, PyI.keep g.tup hb⟩
      · exact .inr z⟩⟩

theorem lk_doors {r : Int} {t l : Addr} : (hFields r t l).lookup ("doors" : Str) = some (.ref t) := by
  have h : (("doors" : Str) == "rooms") = false := by decide +kernel
  have h2 : (("doors" : Str) == "doors") = true := by decide +kernel
  simp [hFields, List.lookup, h, h2]
theorem lk_looked {r : Int} {t l : Addr} : (hFields r t l).lookup ("looked" : Str) = some (.ref l) := by
  have h : (("looked" : Str) == "rooms") = false := by decide +kernel
  have h1 : (("looked" : Str) == "doors") = false := by decide +kernel
  have h2 : (("looked" : Str) == "looked") = true := by decide +kernel
  simp [hFields, List.lookup, h, h1, h2]

/-! ### promises -/
def Sp0 {γ : Type} [Py γ] (P : γ → Prop) : Sp := fun vs H Q _ => vs = [] ∧ ∀ d w H', P d → Gr H H' → Py.rep d w H' → Q w H'
def Sp1 {α γ : Type} [Py α] [Py γ] (pre : α → Prop) (P : α → γ → Prop) : Sp := fun vs H Q _ => ∃ v a, vs = [v] ∧ Py.rep a v H ∧ pre a ∧ ∀ d w H', P a d → Gr H H' → Py.rep d w H' → Q w H'
def Sp2 {α β γ : Type} [Py α] [Py β] [Py γ] (pre : α → β → Prop) (P : α → β → γ → Prop) : Sp := fun vs H Q _ => ∃ v v' a b, vs = [v, v'] ∧ Py.rep a v H ∧ Py.rep b v' H ∧ pre a b ∧ ∀ d w H', P a b d → Gr H H' → Py.rep d w H' → Q w H'
def Sp3 {α β β' γ : Type} [Py α] [Py β] [Py β'] [Py γ] (pre : α → β → β' → Prop) (P : α → β → β' → γ → Prop) : Sp := fun vs H Q _ => ∃ v v' v'' a b c, vs = [v, v', v''] ∧ Py.rep a v H ∧ Py.rep b v' H ∧ Py.rep c v'' H ∧ pre a b c ∧ ∀ d w H', P a b c d → Gr H H' → Py.rep d w H' → Q w H'
def Sp4 {α β β' β'' γ : Type} [Py α] [Py β] [Py β'] [Py β''] [Py γ] (pre : α → β → β' → β'' → Prop) (P : α → β → β' → β'' → γ → Prop) : Sp := fun vs H Q _ => ∃ v1 v2 v3 v4 a b c d0, vs = [v1, v2, v3, v4] ∧ Py.rep a v1 H ∧ Py.rep b v2 H ∧ Py.rep c v3 H ∧ Py.rep d0 v4 H ∧ pre a b c d0 ∧ ∀ d w H', P a b c d0 d → Gr H H' → Py.rep d w H' → Q w H'
theorem Sp1.len {α γ : Type} [Py α] [Py γ] {pre : α → Prop} {P : α → γ → Prop} {vs : List V} {H : Hp} {Q : VK} {E : XK} (h : Sp1 pre P vs H Q E) : vs.length = 1 := by obtain ⟨_, _, rfl, _⟩ := h; rfl
theorem Sp2.len {α β γ : Type} [Py α] [Py β] [Py γ] {pre : α → β → Prop} {P : α → β → γ → Prop} {vs : List V} {H : Hp} {Q : VK} {E : XK} (h : Sp2 pre P vs H Q E) : vs.length = 2 := by obtain ⟨_, _, _, _, rfl, _⟩ := h; rfl
theorem Sp3.len {α β β' γ : Type} [Py α] [Py β] [Py β'] [Py γ] {pre : α → β → β' → Prop} {P : α → β → β' → γ → Prop} {vs : List V} {H : Hp} {Q : VK} {E : XK} (h : Sp3 pre P vs H Q E) : vs.length = 3 := by obtain ⟨_, _, _, _, _, _, rfl, _⟩ := h; rfl
theorem Sp4.len {α β β' β'' γ : Type} [Py α] [Py β] [Py β'] [Py β''] [Py γ] {pre : α → β → β' → β'' → Prop} {P : α → β → β' → β'' → γ → Prop} {vs : List V} {H : Hp} {Q : VK} {E : XK} (h : Sp4 pre P vs H Q E) : vs.length = 4 := by obtain ⟨_, _, _, _, _, _, _, _, rfl, _⟩ := h; rfl

section
variable {K : PySem.W.Frag} {σ : L2.St} {H Hb H' : Hp} {ta tb tc td te tl : TE} {t u tt : TT} {α β β' β'' γ : Type} {E : XK}
theorem ed_call0 [Py γ] {P P' : γ → Prop} (hP : ∀ d, P d → P' d) : Ed (tCall (Sp0 P) [] E tNil) σ H P' := fun H1 e Q q => ⟨rfl, fun d w H' p g r => q d w H' (hP d p) g r⟩
theorem ed_call1 [Py α] [Py γ] {pre : α → Prop} {P : α → γ → Prop} {Pa : α → Prop} {P' : γ → Prop} (h : Ed ta σ H Pa) (hp : ∀ a, Pa a → pre a) (hP : ∀ a d, Pa a → P a d → P' d) : Ed (tCall (Sp1 pre P) [] E (tCons ta tNil)) σ H P' := fun H1 e Q q =>
  h H1 e _ fun a v H2 pa e2 r => ⟨v, a, rfl, r, hp a pa, fun d w H' p g rr => q d w H' (hP a d pa p) (e2.trans g) rr⟩
theorem ed_call2 [Py α] [Py β] [Py γ] {pre : α → β → Prop} {P : α → β → γ → Prop} {Pa : α → Prop} {Pb : β → Prop} {P' : γ → Prop} (h : Ed ta σ H Pa) (h2 : Ed tb σ H Pb) (hp : ∀ a b, Pa a → Pb b → pre a b) (hP : ∀ a b d, Pa a → Pb b → P a b d → P' d) : Ed (tCall (Sp2 pre P) [] E (tCons ta (tCons tb tNil))) σ H P' := fun H1 e Q q =>
  h H1 e _ fun a v H2 pa e2 r => h2 H2 (e.trans e2) _ fun b v' H3 pb e3 r' => ⟨v, v', a, b, rfl, Py.mono e3 r, r', hp a b pa pb, fun d w H' p g rr => q d w H' (hP a b d pa pb p) ((e2.trans e3).trans g) rr⟩
theorem ed_call3 [Py α] [Py β] [Py β'] [Py γ] {pre : α → β → β' → Prop} {P : α → β → β' → γ → Prop} {Pa : α → Prop} {Pb : β → Prop} {Pc : β' → Prop} {P' : γ → Prop} (h : Ed ta σ H Pa) (h2 : Ed tb σ H Pb) (h3 : Ed tc σ H Pc) (hp : ∀ a b c, Pa a → Pb b → Pc c → pre a b c) (hP : ∀ a b c d, Pa a → Pb b → Pc c → P a b c d → P' d) :
    Ed (tCall (Sp3 pre P) [] E (tCons ta (tCons tb (tCons tc tNil)))) σ H P' := fun H1 e Q q =>
  h H1 e _ fun a v H2 pa e2 r => h2 H2 (e.trans e2) _ fun b v' H3 pb e3 r' => h3 H3 ((e.trans e2).trans e3) _ fun c v'' H4 pc e4 r'' => ⟨v, v', v'', a, b, c, rfl, Py.mono (e3.trans e4) r, Py.mono e4 r', r'', hp a b c pa pb pc, fun d w H' p g rr => q d w H' (hP a b c d pa pb pc p) (((e2.trans e3).trans e4).trans g) rr⟩
theorem ed_call4 [Py α] [Py β] [Py β'] [Py β''] [Py γ] {pre : α → β → β' → β'' → Prop} {P : α → β → β' → β'' → γ → Prop} {Pa : α → Prop} {Pb : β → Prop} {Pc : β' → Prop} {Pd : β'' → Prop} {P' : γ → Prop} (h : Ed ta σ H Pa) (h2 : Ed tb σ H Pb) (h3 : Ed tc σ H Pc) (h4 : Ed td σ H Pd)
    (hp : ∀ a b c d, Pa a → Pb b → Pc c → Pd d → pre a b c d) (hP : ∀ a b c d z, Pa a → Pb b → Pc c → Pd d → P a b c d z → P' z) :
    Ed (tCall (Sp4 pre P) [] E (tCons ta (tCons tb (tCons tc (tCons td tNil))))) σ H P' := fun H1 e Q q =>
  h H1 e _ fun a v H2 pa e2 r => h2 H2 (e.trans e2) _ fun b v' H3 pb e3 r' => h3 H3 ((e.trans e2).trans e3) _ fun c v'' H4 pc e4 r'' => h4 H4 (((e.trans e2).trans e3).trans e4) _ fun d v3 H5 pd e5 r3 =>
    ⟨v, v', v'', v3, a, b, c, d, rfl, Py.mono ((e3.trans e4).trans e5) r, Py.mono (e4.trans e5) r', Py.mono e5 r'', r3, hp a b c d pa pb pc pd, fun z w H' p g rr => q z w H' (hP a b c d z pa pb pc pd p) ((((e2.trans e3).trans e4).trans e5).trans g) rr⟩
/-- a function: its value m of the arguments -/
theorem ev_call1 [Py α] [Py γ] {pre : α → Prop} {m : α → γ} {a : α} (h : Ev ta σ H a) (hp : pre a) : Ev (tCall (Sp1 pre fun a d => d = m a) [] E (tCons ta tNil)) σ H (m a) := ed_call1 h (fun _ e => by rw [e]; exact hp) fun _ _ e p => by rw [p, e]
theorem ev_call2 [Py α] [Py β] [Py γ] {pre : α → β → Prop} {m : α → β → γ} {a : α} {b : β} (h : Ev ta σ H a) (h2 : Ev tb σ H b) (hp : pre a b) : Ev (tCall (Sp2 pre fun a b d => d = m a b) [] E (tCons ta (tCons tb tNil))) σ H (m a b) :=
  ed_call2 h h2 (fun _ _ e e' => by rw [e, e']; exact hp) fun _ _ _ e e' p => by rw [p, e, e']
theorem ev_call3 [Py α] [Py β] [Py β'] [Py γ] {pre : α → β → β' → Prop} {m : α → β → β' → γ} {a : α} {b : β} {c : β'} (h : Ev ta σ H a) (h2 : Ev tb σ H b) (h3 : Ev tc σ H c) (hp : pre a b c) : Ev (tCall (Sp3 pre fun a b c d => d = m a b c) [] E (tCons ta (tCons tb (tCons tc tNil)))) σ H (m a b c) :=
  ed_call3 h h2 h3 (fun _ _ _ e e' e'' => by rw [e, e', e'']; exact hp) fun _ _ _ _ e e' e'' p => by rw [p, e, e', e'']
theorem ev_call4 [Py α] [Py β] [Py β'] [Py β''] [Py γ] {pre : α → β → β' → β'' → Prop} {m : α → β → β' → β'' → γ} {a : α} {b : β} {c : β'} {d : β''} (h : Ev ta σ H a) (h2 : Ev tb σ H b) (h3 : Ev tc σ H c) (h4 : Ev td σ H d) (hp : pre a b c d) : Ev (tCall (Sp4 pre fun a b c d z => z = m a b c d) [] E (tCons ta (tCons tb (tCons tc (tCons td tNil))))) σ H (m a b c d) :=
  ed_call4 h h2 h3 h4 (fun _ _ _ _ e e' e'' e3 => by rw [e, e', e'', e3]; exact hp) fun _ _ _ _ _ e e' e'' e3 p => by rw [p, e, e', e'', e3]

/-! ### fields of a house -/
theorem ev_rooms {C : Addr} {h : Hs C} (cl : Cls K C) (na : NoAttr K C "rooms") (ha : Ev ta σ H h) : Ev (tFld K ta "rooms") σ H h.r := fun H1 g Q q => ha H1 g _ fun d v H2 e g2 ⟨p, dx, t, l, ev, hp, hn, ht, hl⟩ => by
  subst e
  exact ⟨p, C, dx, _, _, ev, hp, cl, na, rfl, q _ _ H2 rfl g2 rfl⟩
theorem ev_doors {C : Addr} {h : Hs C} (cl : Cls K C) (na : NoAttr K C "doors") (ha : Ev ta σ H h) : Ev (tFld K ta "doors") σ H h.ds := fun H1 g Q q => ha H1 g _ fun d v H2 e g2 ⟨p, dx, t, l, ev, hp, hn, ht, hl⟩ => by
  subst e
  exact ⟨p, C, dx, _, _, ev, hp, cl, na, lk_doors, q _ _ H2 rfl g2 ht⟩

/-! ### statements -/
variable {D : Ends} {tu tw tz : TS} {g : TG}
theorem s_asg [Py α] {i : Nat} {P : α → Prop} (h : Ed te σ H P) (k : ∀ d v H1, P d → Gr H H1 → Py.rep d v H1 → D.nx (σ.set i (some v)) H1) : tAsg te (gName i) D σ H := h H (Gr.refl H) _ fun d v H1 p e r => k d v H1 p e r
theorem q_asg [Py α] {i : Nat} {P : α → Prop} (h : Ed te σ H P) (k : ∀ d v H1, P d → Gr H H1 → Py.rep d v H1 → tz D (σ.set i (some v)) H1) : tSeq (tAsg te (gName i)) tz D σ H := s_asg (D := { D with nx := tz D }) h k
theorem s_asgE [Py α] {i : Nat} {d : α} (h : Ev te σ H d) (k : ∀ v H1, Gr H H1 → Py.rep d v H1 → D.nx (σ.set i (some v)) H1) : tAsg te (gName i) D σ H := s_asg h fun d' v H1 e => by subst e; exact k v H1
theorem q_asgE [Py α] {i : Nat} {d : α} (h : Ev te σ H d) (k : ∀ v H1, Gr H H1 → Py.rep d v H1 → tz D (σ.set i (some v)) H1) : tSeq (tAsg te (gName i)) tz D σ H := s_asgE (D := { D with nx := tz D }) h k
theorem s_asgP [PyI α] [PyI β] {i j : Nat} {P : α × β → Prop} (h : Ed te σ H P) (k : ∀ a b v w H1, P (a, b) → Gr H H1 → Py.rep a v H1 → Py.rep b w H1 → D.nx ((σ.set i (some v)).set j (some w)) H1) : tAsg te (gTup K 2 (gCons (gName i) (gCons (gName j) gNil))) D σ H :=
  h H (Gr.refl H) _ fun d v H1 p e r => gTup2 r fun y z r1 r2 => k d.1 d.2 y z H1 p e r1 r2
theorem q_asgP [PyI α] [PyI β] {i j : Nat} {P : α × β → Prop} (h : Ed te σ H P) (k : ∀ a b v w H1, P (a, b) → Gr H H1 → Py.rep a v H1 → Py.rep b w H1 → tz D ((σ.set i (some v)).set j (some w)) H1) : tSeq (tAsg te (gTup K 2 (gCons (gName i) (gCons (gName j) gNil)))) tz D σ H :=
  s_asgP (D := { D with nx := tz D }) h k
theorem s_par [Py α] [Py β] {i j : Nat} {P : α → Prop} {P' : β → Prop} (h : Ed ta σ H P) (h' : Ed tb σ H P') (k : ∀ a b v w H1, P a → P' b → Gr H H1 → Py.rep a v H1 → Py.rep b w H1 → D.nx ((σ.set i (some v)).set j (some w)) H1) : tPar i j (tCons ta (tCons tb tNil)) D σ H :=
  ea_2 h h' H (Gr.refl H) _ fun vs H1 e ⟨v, w, a, b, ev, p, p', r, r'⟩ => ⟨v, w, ev, k a b v w H1 p p' e r r'⟩
theorem q_par [Py α] [Py β] {i j : Nat} {P : α → Prop} {P' : β → Prop} (h : Ed ta σ H P) (h' : Ed tb σ H P') (k : ∀ a b v w H1, P a → P' b → Gr H H1 → Py.rep a v H1 → Py.rep b w H1 → tz D ((σ.set i (some v)).set j (some w)) H1) : tSeq (tPar i j (tCons ta (tCons tb tNil))) tz D σ H :=
  s_par (D := { D with nx := tz D }) h h' k
theorem s_ret [Py α] {P : α → Prop} (h : Ed te σ H P) (k : ∀ d v H1, P d → Gr H H1 → Py.rep d v H1 → D.rt v H1) : tRet te D σ H := h H (Gr.refl H) _ k
theorem s_retE [Py α] {d : α} (h : Ev te σ H d) (k : ∀ v H1, Gr H H1 → Py.rep d v H1 → D.rt v H1) : tRet te D σ H := s_ret h fun d' v H1 e => by subst e; exact k v H1
theorem s_if {b : Bool} (h : EvT t σ H b) (h1 : b = true → ∀ H1, Gr H H1 → tu D σ H1) (h2 : b = false → ∀ H1, Gr H H1 → tw D σ H1) : tIfS t tu tw D σ H := h H (Gr.refl H) _ fun b' H1 eb e => by
  subst eb
  cases b' with
  | true => exact h1 rfl H1 e
  | false => exact h2 rfl H1 e
theorem sd_if {P : Bool → Prop} (h : EdT t σ H P) (h1 : ∀ H1, Gr H H1 → tu D σ H1) (h2 : ∀ H1, Gr H H1 → tw D σ H1) : tIfS t tu tw D σ H := h H (Gr.refl H) _ fun b' H1 eb e => by
  cases b' with
  | true => exact h1 H1 e
  | false => exact h2 H1 e
theorem q_if {b : Bool} (h : EvT t σ H b) (h1 : b = true → ∀ H1, Gr H H1 → tu { D with nx := tz D } σ H1) (h2 : b = false → ∀ H1, Gr H H1 → tw { D with nx := tz D } σ H1) : tSeq (tIfS t tu tw) tz D σ H := s_if (D := { D with nx := tz D }) h h1 h2
theorem qd_if {P : Bool → Prop} (h : EdT t σ H P) (h1 : ∀ H1, Gr H H1 → tu { D with nx := tz D } σ H1) (h2 : ∀ H1, Gr H H1 → tw { D with nx := tz D } σ H1) : tSeq (tIfS t tu tw) tz D σ H := sd_if (D := { D with nx := tz D }) h h1 h2
theorem q_when {b : Bool} (h : EvT t σ H b) (h1 : b = true → ∀ H1, Gr H H1 → tu { D with nx := tz D } σ H1) (h2 : b = false → ∀ H1, Gr H H1 → tz D σ H1) : tSeq (tIfS t tu tNext) tz D σ H := s_if (D := { D with nx := tz D }) h h1 h2
theorem s_when {b : Bool} (h : EvT t σ H b) (h1 : b = true → ∀ H1, Gr H H1 → tu D σ H1) (h2 : b = false → ∀ H1, Gr H H1 → D.nx σ H1) : tIfS t tu tNext D σ H := s_if h h1 h2
theorem s_drop [Py α] {P : α → Prop} (h : Ed te σ H P) (k : ∀ H1, Gr H H1 → D.nx σ H1) : tDrop te D σ H := h H (Gr.refl H) _ fun d v H1 p e r => k H1 e
theorem q_drop [Py α] {P : α → Prop} (h : Ed te σ H P) (k : ∀ H1, Gr H H1 → tz D σ H1) : tSeq (tDrop te) tz D σ H := s_drop (D := { D with nx := tz D }) h k

/-! ### a list of one's own -/
/-- H2 is H grown, but the object at l changed -/
def Mu (l : Addr) (H H2 : Hp) : Prop := ∃ H1 o u, Gr H H1 ∧ H1 l = some u ∧ (∀ xs, u ≠ .tup xs) ∧ NotH o ∧ H2 = upd H1 l o
theorem Mu.gr {l : Addr} {H2 : Hp} (m : Mu l H H2) (g : Gr Hb H) (hb : Hb l = none) : Gr Hb H2 := by
  obtain ⟨H1, o, u, g1, hl, hn, no, rfl⟩ := m
  exact (g.trans g1).mut hb hl hn no
theorem Mu.neat {l : Addr} {H2 : Hp} (m : Mu l H H2) (n : Neat H) : Neat H2 := by
  obtain ⟨H1, o, u, g1, hl, hn, no, rfl⟩ := m
  exact (g1.neat n).put no
theorem Mu.tup {l : Addr} {H2 : Hp} (m : Mu l H H2) : TupK H H2 := by
  obtain ⟨H1, o, u, g1, hl, hn, no, rfl⟩ := m
  exact g1.tup.trans (TupK.put hl hn)
theorem Mu.at {l a : Addr} {H2 : Hp} {o : HO} (m : Mu l H H2) (h : H a = some o) (n : ¬ Chg o) (ne : a ≠ l) : H2 a = some o := by
  obtain ⟨H1, o', u, g1, hl, hn, no, rfl⟩ := m
  rw [upd_ne ne]
  exact g1.at h n
theorem Mu.keep [PyI α] {l : Addr} {H2 : Hp} {d : α} {v : V} (m : Mu l H H2) (r : Py.rep d v H) : Py.rep d v H2 := PyI.keep m.tup r
theorem Mu.ls [PyI α] {l p : Addr} {H2 : Hp} {ds : List α} (m : Mu l H H2) (ne : p ≠ l) (r : Py.rep (Ls.mk ds) (.ref p) H) : Py.rep (Ls.mk ds) (.ref p) H2 := by
  obtain ⟨q, xs, e, hq, rr⟩ := r
  cases e
  exact ⟨p, xs, rfl, m.at hq (fun z => nomatch z) ne, rr.mono fun _ _ z => PyI.keep m.tup z⟩
theorem ls_put [PyI α] {l : Addr} {H1 : Hp} {xs ys : List V} {ds : List α} (h : H1 l = some (.lst xs)) (r : RL (fun a x => PyI.rep a x H1) ds ys) : Py.rep (Ls.mk ds) (.ref l) (upd H1 l (.lst ys)) :=
  ⟨l, ys, rfl, upd_same, r.mono fun _ _ z => PyI.keep (TupK.put h (fun _ z => nomatch z)) z⟩
theorem mu_of {l : Addr} {H1 : Hp} {xs : List V} {o : HO} (g : Gr H H1) (h : H1 l = some (.lst xs)) (no : NotH o := by intro _ _ _ _ _ z; cases z) : Mu l H (upd H1 l o) := ⟨H1, o, _, g, h, (fun _ z => nomatch z), no, rfl⟩
/-- xs.append(e) -/
theorem s_app [PyI α] {l : Addr} {i : Nat} {ds : List α} {P : α → Prop} (hl : Py.rep (Ls.mk ds) (.ref l) H) (ha : σ[i]? = some (some (.ref l))) (h : Ed te σ H P) (hz : ds.length < 100000) (k : ∀ d H2, P d → Mu l H H2 → Py.rep (Ls.mk (ds ++ [d])) (.ref l) H2 → D.nx σ H2) :
    tDrop (tBM K "list" rAppend (tVar i) (tCons te tNil)) D σ H := by
  obtain ⟨q, xs, e, hq, rr⟩ := hl
  cases e
  refine ⟨_, ha, .inl ⟨rfl, xs, .of hq⟩, ?_⟩
  refine h H (Gr.refl H) _ fun d v H1 p g r => ⟨l, xs, v, rfl, rfl, g.lst hq, by rw [← rr.1]; exact Nat.lt_of_lt_of_le hz (by decide), ?_⟩
  exact k d _ p (mu_of g (g.lst hq)) (ls_put (g.lst hq) ((rr.mono fun _ _ z => PyI.keep g.tup z).snoc r))
theorem q_app [PyI α] {l : Addr} {i : Nat} {ds : List α} {P : α → Prop} (hl : Py.rep (Ls.mk ds) (.ref l) H) (ha : σ[i]? = some (some (.ref l))) (h : Ed te σ H P) (hz : ds.length < 100000) (k : ∀ d H2, P d → Mu l H H2 → Py.rep (Ls.mk (ds ++ [d])) (.ref l) H2 → tz D σ H2) :
    tSeq (tDrop (tBM K "list" rAppend (tVar i) (tCons te tNil))) tz D σ H := s_app (D := { D with nx := tz D }) hl ha h hz k
/-- xs.extend(ys), ys a new list -/
theorem s_ext [PyI α] {l : Addr} {i : Nat} {ds : List α} {P : Ls α → Prop} (hl : Py.rep (Ls.mk ds) (.ref l) H) (ha : σ[i]? = some (some (.ref l))) (h : Ed te σ H P) (hz : ∀ es, P es → ds.length + es.l.length ≤ 100000) (k : ∀ es H2, P (Ls.mk es) → Mu l H H2 → Py.rep (Ls.mk (ds ++ es)) (.ref l) H2 → D.nx σ H2) :
    tDrop (tBM K "list" rExtend (tVar i) (tCons te tNil)) D σ H := by
  obtain ⟨q, xs, e, hq, rr⟩ := hl
  cases e
  refine ⟨_, ha, .inl ⟨rfl, xs, .of hq⟩, ?_⟩
  refine h H (Gr.refl H) _ fun d v H1 p g ⟨b, ys, ev, hb, rb⟩ => ⟨l, b, xs, ys, rfl, by rw [ev], g.lst hq, hb, by rw [← rr.1, ← rb.1]; exact Nat.le_trans (hz d p) (by decide), ?_⟩
  exact k d.l _ p (mu_of g (g.lst hq)) (ls_put (g.lst hq) ((rr.mono fun _ _ z => PyI.keep g.tup z).append rb))
theorem q_ext [PyI α] {l : Addr} {i : Nat} {ds : List α} {P : Ls α → Prop} (hl : Py.rep (Ls.mk ds) (.ref l) H) (ha : σ[i]? = some (some (.ref l))) (h : Ed te σ H P) (hz : ∀ es, P es → ds.length + es.l.length ≤ 100000) (k : ∀ es H2, P (Ls.mk es) → Mu l H H2 → Py.rep (Ls.mk (ds ++ es)) (.ref l) H2 → tz D σ H2) :
    tSeq (tDrop (tBM K "list" rExtend (tVar i) (tCons te tNil))) tz D σ H := s_ext (D := { D with nx := tz D }) hl ha h hz k
/-- x = xs.pop() -/
theorem s_popAsg [PyI α] {l : Addr} {i j : Nat} {ds : List α} {d : α} (hl : Py.rep (Ls.mk (ds ++ [d])) (.ref l) H) (ha : σ[i]? = some (some (.ref l))) (k : ∀ v H2, Mu l H H2 → Py.rep (Ls.mk ds) (.ref l) H2 → Py.rep d v H2 → D.nx (σ.set j (some v)) H2) :
    tAsg (tBM0 K "list" rPop (tVar i)) (gName j) D σ H := by
  obtain ⟨q, xs, e, hq, rr⟩ := hl
  cases e
  have hd : (ds ++ [d])[xs.length - 1]? = some d := by rw [← rr.1]; simp
  obtain ⟨v, hv, rv⟩ := rr.get hd
  refine ⟨_, ha, .inl ⟨rfl, xs, .of hq⟩, l, xs, v, rfl, rfl, hq, hv, ?_⟩
  have e : xs.dropLast = xs.take (ds ++ [d]).dropLast.length := by rw [List.dropLast_eq_take, ← rr.1]; simp
  have r2 : RL (fun a x => PyI.rep a x H) ds xs.dropLast := by
    have z : RL (fun a x => PyI.rep a x H) ((ds ++ [d]).take ds.length) (xs.take ds.length) := rr.take ds.length
    rw [List.take_left' rfl] at z
    rw [e]
    have e2 : (ds ++ [d]).dropLast.length = ds.length := by simp
    rw [e2]
    exact z
  exact k v _ (mu_of (Gr.refl H) hq) (ls_put hq r2) (PyI.keep (TupK.put hq (fun _ z => nomatch z)) rv)
theorem q_popAsg [PyI α] {l : Addr} {i j : Nat} {ds : List α} {d : α} (hl : Py.rep (Ls.mk (ds ++ [d])) (.ref l) H) (ha : σ[i]? = some (some (.ref l))) (k : ∀ v H2, Mu l H H2 → Py.rep (Ls.mk ds) (.ref l) H2 → Py.rep d v H2 → tz D (σ.set j (some v)) H2) :
    tSeq (tAsg (tBM0 K "list" rPop (tVar i)) (gName j)) tz D σ H := s_popAsg (D := { D with nx := tz D }) hl ha k

/-! ### loops -/
/-- for, over a source that stands while tuples stand -/
theorem s_forT [PyI α] {wi : TI} {ds : List α} (hs : SrcT wi σ H ds)
    (k : ∀ H2, Gr H H2 → ∃ Pv : Nat → L2.St → Hp → Prop, Pv 0 σ H2 ∧ (∀ i σ' H', Pv i σ' H' → TupK H2 H') ∧
      (∀ i d x σ' H' H'', ds[i]? = some d → Pv i σ' H' → Gr H' H'' → Py.rep d x H'' → g x σ' H'' fun σ2 H3 => tu { D with nx := Pv (i + 1), ct := Pv (i + 1), bk := D.nx } σ2 H3) ∧ ∀ σ' H', Pv ds.length σ' H' → D.nx σ' H') : tFor wi g tu D σ H := by
  refine hs H (Gr.refl H) _ fun J H2 g2 w => ?_
  obtain ⟨Pv, p0, pt, ps, pd⟩ := k H2 g2
  refine ⟨fun i m σ' H' => m = ds.length - i ∧ i ≤ ds.length ∧ Pv i σ' H', ⟨ds.length, by simp, Nat.zero_le _, p0⟩, ?_⟩
  rintro i m σ' H3 ⟨rfl, hi, p⟩
  have s3 := pt i σ' H3 p
  by_cases hlt : i < ds.length
  · have hd : ds[i]? = some ds[i] := by simp [hlt]
    obtain ⟨hgo, hy⟩ := w.go H3 s3 i _ hd
    refine .inr ⟨hgo, Pv (i + 1), fun σ4 H4 p4 => ⟨ds.length - (i + 1), by omega, rfl, hlt, p4⟩, fun x H4 hyl => ?_⟩
    obtain ⟨g4, r4⟩ := hy x H4 hyl
    exact ps i _ x σ' H3 H4 hd p g4 r4
  · have e : i = ds.length := by omega
    subst e
    exact .inl ⟨w.stop H3 s3, pd σ' H3 p⟩
/-- for, over a list at an address -/
theorem s_forL [PyI α] {wi : TI} {ds : List α} (hs : SrcL wi σ H ds)
    (k : ∀ H2 a xs, Gr H H2 → H2 a = some (.lst xs) → ∃ Pv : Nat → L2.St → Hp → Prop, Pv 0 σ H2 ∧ (∀ i σ' H', Pv i σ' H' → H' a = some (.lst xs) ∧ TupK H2 H') ∧
      (∀ i d x σ' H' H'', ds[i]? = some d → Pv i σ' H' → Gr H' H'' → Py.rep d x H'' → g x σ' H'' fun σ2 H3 => tu { D with nx := Pv (i + 1), ct := Pv (i + 1), bk := D.nx } σ2 H3) ∧ ∀ σ' H', Pv ds.length σ' H' → D.nx σ' H') : tFor wi g tu D σ H := by
  refine hs H (Gr.refl H) _ fun J H2 a xs g2 ha w => ?_
  obtain ⟨Pv, p0, pt, ps, pd⟩ := k H2 a xs g2 ha
  refine ⟨fun i m σ' H' => m = ds.length - i ∧ i ≤ ds.length ∧ Pv i σ' H', ⟨ds.length, by simp, Nat.zero_le _, p0⟩, ?_⟩
  rintro i m σ' H3 ⟨rfl, hi, p⟩
  have s3 := pt i σ' H3 p
  by_cases hlt : i < ds.length
  · have hd : ds[i]? = some ds[i] := by simp [hlt]
    obtain ⟨hgo, hy⟩ := w.go H3 s3 i _ hd
    refine .inr ⟨hgo, Pv (i + 1), fun σ4 H4 p4 => ⟨ds.length - (i + 1), by omega, rfl, hlt, p4⟩, fun x H4 hyl => ?_⟩
    obtain ⟨g4, r4⟩ := hy x H4 hyl
    exact ps i _ x σ' H3 H4 hd p g4 r4
  · have e : i = ds.length := by omega
    subst e
    exact .inl ⟨w.stop H3 s3, pd σ' H3 p⟩
theorem q_forT [PyI α] {wi : TI} {ds : List α} (hs : SrcT wi σ H ds)
    (k : ∀ H2, Gr H H2 → ∃ Pv : Nat → L2.St → Hp → Prop, Pv 0 σ H2 ∧ (∀ i σ' H', Pv i σ' H' → TupK H2 H') ∧
      (∀ i d x σ' H' H'', ds[i]? = some d → Pv i σ' H' → Gr H' H'' → Py.rep d x H'' → g x σ' H'' fun σ2 H3 => tu { D with nx := Pv (i + 1), ct := Pv (i + 1), bk := tz D } σ2 H3) ∧ ∀ σ' H', Pv ds.length σ' H' → tz D σ' H') : tSeq (tFor wi g tu) tz D σ H := s_forT (D := { D with nx := tz D }) hs k
theorem q_forL [PyI α] {wi : TI} {ds : List α} (hs : SrcL wi σ H ds)
    (k : ∀ H2 a xs, Gr H H2 → H2 a = some (.lst xs) → ∃ Pv : Nat → L2.St → Hp → Prop, Pv 0 σ H2 ∧ (∀ i σ' H', Pv i σ' H' → H' a = some (.lst xs) ∧ TupK H2 H') ∧
      (∀ i d x σ' H' H'', ds[i]? = some d → Pv i σ' H' → Gr H' H'' → Py.rep d x H'' → g x σ' H'' fun σ2 H3 => tu { D with nx := Pv (i + 1), ct := Pv (i + 1), bk := tz D } σ2 H3) ∧ ∀ σ' H', Pv ds.length σ' H' → tz D σ' H') : tSeq (tFor wi g tu) tz D σ H := s_forL (D := { D with nx := tz D }) hs k
/-- while, by a word that falls -/
theorem s_while (W : Nat → L2.St → Hp → Prop) (m0 : Nat) (h0 : W m0 σ H)
    (hs : ∀ m σ' H', W m σ' H' → ∃ b, EvT t σ' H' b ∧ (b = true → ∀ H1, Gr H' H1 → ∃ N : L2.St → Hp → Prop, (∀ σ2 H2, N σ2 H2 → ∃ m', m' < m ∧ W m' σ2 H2) ∧ tu { D with nx := N, ct := N, bk := D.nx } σ' H1) ∧ (b = false → ∀ H1, Gr H' H1 → D.nx σ' H1)) : tWhile t tu D σ H :=
  ⟨W, ⟨m0, h0⟩, fun m σ' H' hw => by
    obtain ⟨b, hb, h1, h2⟩ := hs m σ' H' hw
    refine hb H' (Gr.refl H') _ fun b' H1 eb e => ?_
    subst eb
    cases b' with
    | true => exact h1 rfl H1 e
    | false => exact h2 rfl H1 e⟩
theorem q_while (W : Nat → L2.St → Hp → Prop) (m0 : Nat) (h0 : W m0 σ H)
    (hs : ∀ m σ' H', W m σ' H' → ∃ b, EvT t σ' H' b ∧ (b = true → ∀ H1, Gr H' H1 → ∃ N : L2.St → Hp → Prop, (∀ σ2 H2, N σ2 H2 → ∃ m', m' < m ∧ W m' σ2 H2) ∧ tu { D with nx := N, ct := N, bk := tz D } σ' H1) ∧ (b = false → ∀ H1, Gr H' H1 → tz D σ' H1)) : tSeq (tWhile t tu) tz D σ H :=
  s_while (D := { D with nx := tz D }) W m0 h0 hs
end
end Zw
/-! Z5: further rules: an attribute as a target, enumerate over a tuple, == and in of data, order of data, sorted. -/
namespace Zw
open PySem L2 RZ PySem.Spec PyProof.Rows

section
variable {X : Cx} {o e : Expr} {f : Str} {pos : Pos} {to : TE}
def gAttr (K : PySem.W.Frag) (to : TE) (f : Str) : TG := fun v σ H Q => to σ H fun x H1 => ∃ a C dx fs, x = .ref a ∧ H1 a = some (.ins C dx fs) ∧ Cls K C ∧ NoAttr K C f ∧ fs.length < 1000 ∧ Q σ (upd H1 a (.ins C dx (putF f v fs)))
theorem pg_attr (ho : PE X o to) : PG X (.Attribute o f pos) (gAttr X.K to f) := by
  refine ⟨fun pins s σ H v u Q I r h => ?_⟩
  rw [PySem.assign_Attribute]
  refine wpAny_bind (wpAny_holding (thn (ho.run pins s σ H _ I h) fun ov s1 ⟨x, H1, I1, rx, a, C, dx, fs, ex, ea, c, n, l, q⟩ => ?_))
  subst ex
  obtain rfl : ov = Value.ref a := rx
  refine wpAny_bind (wpAny_standAt (wpAny_bind (wpAny_holding (setattr_ok I1 ea c n l r fun s2 I2 => ?_))))
  exact wpAny_release ⟨σ, _, I2, q⟩
end

/-! ### enumerate(tuple) -/
theorem meets_enumerate_newT {v : Value} {o : Obj} {H : Heap → Prop} (B : Begins v o H) :
    Meets (Builtin.«enumerate.__new__» ⟨[.type "enumerate", v], []⟩) (fun _ R s => H s.heap ∧
      R (.ok (.ret (.ref (s.heap.push o).objs.size))) { s with heap := (s.heap.push o).push { cls := .type "enumerate", data := .fields #[.none, .bool false, .ref s.heap.objs.size, rawInt 0, .none, .none] } }) :=
  .of_wp fun prog w A R s h => by
    obtain ⟨hp, g, d, tk, os⟩ := s; obtain ⟨h1, h⟩ := h
    have hsub := sub_enumerate
    have q1 : ∀ {A' : Around} {E : Value → Shared → Prop} {Q : Value → Shared → Prop}, Q (.ref hp.objs.size) ⟨hp.push o, g, d, tk, os⟩ → wpAny (model prog w) A' (pyIter v) Q E ⟨hp, g, d, tk, os⟩ :=
      fun q => B.iter prog w _ _ ⟨hp, g, d, tk, os⟩ _ h1 q
    wp_walk using q1
    refine wpAny_stack_any fun st => wpAny_pure ?_
    split
    · rename_i c _ _ _ _ _
      cases (c == Value.type "enumerate")
      · wp_walk using q1
        exact ⟨_, rfl, h⟩
      · wp_walk using q1
        exact ⟨_, rfl, h⟩
    · wp_walk using q1
      exact ⟨_, rfl, h⟩

section
variable {prog : Program} {w : World} {A : Around} {E : Value → Shared → Prop} {s : Shared}
theorem call_enumerate_tuple {l : Addr} {items : Array Value} {Q : Value → Shared → Prop} (hL : s.heap.IsTuple l items)
    (h : ∀ h', IsEnum h' (s.heap.objs.size + 1) s.heap.objs.size 0 .none → h'.IsTupleIter s.heap.objs.size l 0 → h'.objs.size = s.heap.objs.size + 2 →
      (∀ b o, s.heap.get? b = some o → h'.get? b = some o) → Q (.ref (s.heap.objs.size + 1)) { s with heap := h' }) :
    wpAny (model prog w) A (call (.type "enumerate") [.ref l]) Q E s := by
  refine callType_new F.called_enumerate (by decide) (F.typeCall_enumerate_1 _) (F.newCall_enumerate_1 _) (fun obj => F.args_object_init_2 obj _) F.entry_enumerate_new
    (meets_enumerate_newT (begins_tuple l items)) ⟨hL, ?_⟩
  have hz : (s.heap.push { cls := .type "tuple_iterator", data := .fields #[.ref l, .int 0 0] }).objs.size = s.heap.objs.size + 1 := Heap.size_push ..
  show _ ∧ _
  rw [hz]
  have he : IsEnum ((s.heap.push { cls := .type "tuple_iterator", data := .fields #[.ref l, .int 0 0] }).push
      { cls := .type "enumerate", data := .fields #[.none, .bool false, .ref s.heap.objs.size, rawInt 0, .none, .none] }) (s.heap.objs.size + 1) s.heap.objs.size 0 .none := by
    have := Heap.get?_push_size (s.heap.push { cls := .type "tuple_iterator", data := .fields #[.ref l, .int 0 0] })
      (o := { cls := .type "enumerate", data := .fields #[.none, .bool false, .ref s.heap.objs.size, rawInt 0, .none, .none] }) rfl
    rw [hz] at this; exact this
  refine ⟨⟨_, he, rfl⟩, h _ he ⟨_, Heap.get?_push_of_some _ (Heap.get?_push_size _ rfl), rfl, rfl⟩ (by rw [Heap.size_push, hz]) fun b o x => Heap.get?_push_of_some _ (Heap.get?_push_of_some _ x)⟩
end
def IteT (K : PySem.W.Frag) (a : Addr) : It :=
  ⟨fun i H => ∃ (xs : List V) (x : V), SqT K H a xs ∧ xs[i]? = some x, fun i H v H' => ∃ T x, v = .ref T ∧ H T = none ∧ H' = upd H T (.tup [.int (i : Nat), x]) ∧ ∀ xs, SqT K H a xs → xs[i]? = some x, fun i H => ∃ xs : List V, SqT K H a xs ∧ xs.length ≤ i⟩
theorem turn_enumT {P : Program} {w : World} {K : PySem.W.Frag} {elts : List Expr} {kk : Nat} {tpos : Pos} (a e it : Addr) (hai : a ≠ it) (hae : e ≠ a) :
    Turn P w K (.Tuple elts kk tpos) (IteT K a) [e, it] e (fun i h => (∃ old, IsEnum h e it ((i : Nat) : Int) old) ∧ h.IsTupleIter it a i ∧ e ≠ it) where
  mem := by simp
  obj := fun i h st b hb => by
    obtain ⟨⟨old, he⟩, ⟨o, ho, hc, hd⟩, _⟩ := st
    have e' : b = e ∨ b = it := by simpa using hb
    rcases e' with z | z
    · rw [z]; exact ⟨_, he, fun v q => nomatch q⟩
    · rw [z]; exact ⟨o, ho, fun v q => by rw [hd] at q; cases q⟩
  keep := fun i h h' st k => let ⟨⟨old, he⟩, hi, hne⟩ := st; ⟨⟨old, k e (by simp) _ he⟩, hi.at fun o q => k it (by simp) o q, hne⟩
  item := by
    intro X hP hw hK hc i pins s σ H E I hf st hg
    subst hP hw hK
    obtain ⟨⟨old, he⟩, hit, hne⟩ := st
    obtain ⟨xs, x, hq, hx⟩ := hg
    obtain ⟨its, rv, p, hz⟩ := I.tuple hq
    obtain ⟨u, hu, ru⟩ := rv.get hx
    have hel : e < s.heap.objs.size := Heap.lt_size he
    have hil : it < s.heap.objs.size := by obtain ⟨_, q, _⟩ := hit; exact Heap.lt_size q
    have hi : i < its.toArray.size := by
      have := (List.getElem?_eq_some_iff.mp hu).1
      simpa using this
    refine wpAny_pyNext_enum_itemD (Draws.tuple (A := X.A.in1) (I.ok.hd hc) it a hai its.toArray) he ⟨hit, p⟩ hi hne (by simp [hne, hae]) fun u' h' tk hP ho hit' hT hsz hk => ?_
    have hu2 : its.toArray[i]? = some u := by simpa using hu
    have eu : u' = u := by rw [hu2] at hP; cases hP; rfl
    subst eu
    refine ⟨_, rfl, wpAny_letOwnedTupleGo_enum (s := { s with heap := h', toks := tk + 1 }) ho fun h'' he' sb => ?_⟩
    have hT2 : h''.get? s.heap.objs.size = some { cls := .type "tuple", data := .seq #[.int i tk, u'] } := (sb.2 _ (Nat.ne_of_gt hel)).trans hT
    have new : ObjOk X.prog X.w (upd H s.heap.objs.size (.tup [.int (i : Nat), x])) h'' s.heap.objs.size (.tup [.int (i : Nat), x]) :=
      ⟨by show 2 ≤ sizeLine; decide, [.int i tk, u'], .cons ⟨_, rfl⟩ (.cons ru .nil), ⟨_, hT2, rfl, _, rfl⟩⟩
    have I1 : Inv X pins σ (upd H s.heap.objs.size (.tup [.int (i : Nat), x])) { s with heap := h'', toks := tk + 1 } :=
      I.turnedNew (ch := [e, it]) (fun b ob hb q => (sb.2 b (fun z => hb (by simp [z]))).trans (hk b ob (fun z => hb (by simp [z])) (fun z => hb (by simp [z])) q)) hf (Nat.le_refl _) new
    refine ⟨.ref s.heap.objs.size, _, I1, rfl, ⟨_, x, rfl, I.hok.fresh (Nat.le_refl _), rfl, fun ys hy => by rw [I.tuple_inj hy hq]; exact hx⟩, ⟨⟨u', ?_⟩, hit'.1.at fun o q => (sb.2 it (Ne.symm hne)).trans q, hne⟩, fun b hb => ?_⟩
    · have e1 : ((i + 1 : Nat) : Int) = (i : Int) + 1 := by omega
      rw [e1]; exact he'
    · have hb' : b < s.heap.objs.size := by
        have e' : b = e ∨ b = it := by simpa using hb
        rcases e' with z | z
        · rw [z]; exact hel
        · rw [z]; exact hil
      rw [upd_ne (Nat.ne_of_lt hb')]
      exact (hf b hb).1
  done := by
    intro X hP hw hK hc i pins s σ H E I hf st hg
    subst hP hw hK
    obtain ⟨⟨old, he⟩, hit, hne⟩ := st
    obtain ⟨xs, hq, hx⟩ := hg
    obtain ⟨its, rv, p, hz⟩ := I.tuple hq
    obtain ⟨f0, f1, f2, f3, f4, f5⟩ := hf it (by simp)
    have hl := rv.length
    have hT : s.TypeIs (.ref e) "enumerate" := ⟨_, he, rfl⟩
    unfold pyNext
    refine wpAny_bind (wpAny_attempt (wpAny_callSpecial?_slot (name := Str.ofString "__next__") hT F.slot_enumerate_next
      (wpAny_call_entry F.slot_enumerate_next hT F.entry_enumerate_next ?_ (F.args_enumerate_next_1 _))))
    show wpAny _ _ (field (.ref e) 2 >>= _) _ _ _
    refine wpAny_bind (wpAny_field he rfl (x := .ref it) rfl ?_)
    refine wpAny_bind (wpAny_nextOf_tuple_end (I.ok.hd hc) hit p (by simp; omega) fun h' x he' hx' => ?_)
    obtain ⟨o, ho, hc'⟩ := hx'
    refine wpAny_bind (wpAny_isInstance (T := "StopIteration") (b := true) ⟨o, ho, hc'⟩ isSubtype_stop ?_)
    exact wpAny_pure ⟨rfl, I.turned (t' := s.toks) (fun b o hb q => he' b o hb q) f0 f1 f3 f4 f5⟩
  self := fun A i s Q E st h => let ⟨⟨_, he⟩, _⟩ := st; wpAny_pyIter_enum he h
def iEnumT (K : PySem.W.Frag) (ta : TA) : TI := fun σ H R => ta σ H fun vs H1 => ∃ a xs, vs = [.ref a] ∧ SqT K H1 a xs ∧ R (IteT K a) H1
theorem pi_enumT {X : Cx} {e : Expr} {ta : TA} {p pos tpos : Pos} {elts : List Expr} {kk : Nat} (hg : Gl X "enumerate") (hm : X.mg "enumerate" = none) (ha : PA X [e] ta) (hs : starEach [e] X.env = [(false, eval e X.env)] := by rfl) :
    PI X (.Tuple elts kk tpos) (.Call (.Name "enumerate" p) [e] [] pos) (iEnumT X.K ta) := by
  refine ⟨fun pins s σ H R I h => ?_⟩
  refine Call_ (ld_blt I hg hm boot_enumerate (PyProof.Rows.callWith_type1 (thn (ha.run pos pins s σ H _ I h) fun us s1 ⟨vs, H1, I1, r1, q1⟩ => ?_) hs rfl))
  obtain ⟨a, xs, ex, hq, q⟩ := q1
  subst ex
  cases r1 with
  | cons r rr =>
    cases rr
    cases r
    obtain ⟨its, rv, p', hz⟩ := I1.tuple hq
    have hal : a < s1.heap.objs.size := p'.lt
    refine call_enumerate_tuple p' fun h' he hit hsz hk => wpAny_pyIter_enum he ?_
    have I2 : Inv X pins σ H1 { s1 with heap := h' } := I1.kept (t' := s1.toks) hk
    refine ⟨s1.heap.objs.size + 1, [s1.heap.objs.size + 1, s1.heap.objs.size], _, _, H1, rfl, I2, turn_enumT a (s1.heap.objs.size + 1) s1.heap.objs.size (Nat.ne_of_lt hal) (Nat.ne_of_gt (Nat.lt_succ_of_lt hal)), ⟨⟨.none, he⟩, hit, Nat.succ_ne_self _⟩, fun b hb => ?_, q⟩
    have e' : b = s1.heap.objs.size + 1 ∨ b = s1.heap.objs.size := by simpa using hb
    have hle : s1.heap.objs.size ≤ b := by
      rcases e' with z | z
      · rw [z]; exact Nat.le_add_right _ _
      · rw [z]; exact Nat.le_refl _
    exact I1.fpOk hle (I1.hok.fresh hle)
/-- the items with their places -/
def numL {α : Type} (ds : List α) : List (Int × α) := (rngI 0 ds.length).zip ds
theorem numL_length {α : Type} (ds : List α) : (numL ds).length = ds.length := by unfold numL; rw [List.length_zip, rngI_length]; simp
theorem numL_get {α : Type} {ds : List α} {i : Nat} {d : Int × α} (h : (numL ds)[i]? = some d) : d.1 = i ∧ ds[i]? = some d.2 := by
  obtain ⟨d1, d2⟩ := d
  obtain ⟨h1, h2⟩ := List.getElem?_zip_eq_some.mp h
  obtain ⟨_, e⟩ := rngI_get h1
  exact ⟨by rw [e]; simp, h2⟩
section
variable {K : PySem.W.Frag} {σ : L2.St} {H : Hp} {ta tb te tl : TE} {α β : Type}
theorem src_enumT [PyI α] {ds : List α} (h : Ev ta σ H ds) : SrcT (iEnumT K (tCons ta tNil)) σ H (numL ds) := fun H1 g R r => ea_1 h H1 g _ fun vs H2 g2 ⟨v, d, ev, pd, a, xs, e1, ha, r1⟩ => by
  subst ev pd
  refine ⟨a, xs, by rw [e1], .of ha, r _ H2 g2 ⟨fun H3 k => ⟨xs, .of (k _ _ ha), by rw [numL_length, r1.1]; exact Nat.le_refl _⟩, fun H3 k i z hz => ?_⟩⟩
  obtain ⟨z1, z2⟩ := z
  obtain ⟨e0, hd⟩ := numL_get hz
  simp only at e0 hd
  obtain ⟨x, hx, rx⟩ := r1.get hd
  refine ⟨⟨xs, x, .of (k _ _ ha), hx⟩, fun v' H4 hv => ?_⟩
  obtain ⟨T, x', ev', hT, e4, hx'⟩ := hv
  have q1 := hx' xs (.of (k _ _ ha))
  rw [hx] at q1
  cases q1
  subst e4
  exact ⟨Gr.new hT, T, _, x, ev', upd_same, by rw [e0]; rfl, PyI.keep (k.trans (TupK.new hT)) rx⟩
theorem src_enumL [PyI α] {ds : List α} (h : Ev ta σ H (Ls.mk ds)) : SrcL (iEnum K (tCons ta tNil)) σ H (numL ds) := fun H1 g R r => ea_1 h H1 g _ fun vs H2 g2 ⟨v, d, ev, pd, a, xs, e1, ha, r1⟩ => by
  subst ev pd
  refine ⟨a, xs, by rw [e1], .of ha, r _ H2 a xs g2 ha ⟨fun H3 k => ⟨xs, .of k.1, by rw [numL_length, r1.1]; exact Nat.le_refl _⟩, fun H3 k i z hz => ?_⟩⟩
  obtain ⟨z1, z2⟩ := z
  obtain ⟨e0, hd⟩ := numL_get hz
  simp only at e0 hd
  obtain ⟨x, hx, rx⟩ := r1.get hd
  refine ⟨⟨xs, x, .of k.1, hx⟩, fun v' H4 hv => ?_⟩
  obtain ⟨T, x', ev', hT, e4, hx'⟩ := hv
  have q1 := hx' xs (.of k.1)
  rw [hx] at q1
  cases q1
  subst e4
  exact ⟨Gr.new hT, T, _, x, ev', upd_same, by rw [e0]; rfl, PyI.keep (k.2.trans (TupK.new hT)) rx⟩
end

/-! ### data as PyData: ==, in -/
class PyD (α : Type) extends Py α where
  toD : α → PyData
  dp : ∀ {K : PySem.W.Frag} {d : α} {v : V} {H : Hp}, rep d v H → Dp K H v (toD d)
  lay : ∀ d, (toD d).canLay0 = true
  dm : Nat
  dle : ∀ d, (toD d).depth ≤ dm
  eqv : ∀ a b, PyData.eqv (toD a) (toD b) = true ↔ a = b
theorem PyD.sh {α : Type} [PyD α] (h : PyD.dm α ≤ 64) (d : α) : SeqAt.shaped (PyD.toD d) = true := by
  unfold SeqAt.shaped
  rw [PyD.lay, Bool.true_and]
  exact decide_eq_true (Nat.le_trans (PyD.dle d) h)
theorem layAll {α : Type} {f : α → PyData} (h : ∀ d, (f d).canLay0 = true) : ∀ l : List α, PyData.canLayAll0 (l.map f) = true
  | [] => by simp [PyData.canLayAll0]
  | a :: l => by rw [List.map_cons, PyData.canLayAll0, h a, layAll h l]; rfl
theorem depAll {α : Type} {f : α → PyData} {n : Nat} (h : ∀ d, (f d).depth ≤ n) : ∀ l : List α, PyData.depthAll (l.map f) ≤ n
  | [] => by simp [PyData.depthAll]
  | a :: l => by rw [List.map_cons, PyData.depthAll]; exact Nat.max_le.mpr ⟨h a, depAll h l⟩
theorem eqvAll {α : Type} {f : α → PyData} (h : ∀ a b, PyData.eqv (f a) (f b) = true ↔ a = b) : ∀ l m : List α, PyData.eqvAll (l.map f) (m.map f) = true ↔ l = m
  | [], [] => by simp [PyData.eqvAll]
  | [], b :: m => by simp [PyData.eqvAll]
  | a :: l, [] => by simp [PyData.eqvAll]
  | a :: l, b :: m => by
    rw [List.map_cons, List.map_cons, PyData.eqvAll, Bool.and_eq_true, h a b, eqvAll h l m, List.cons.injEq]
theorem dpAll {α : Type} {f : α → PyData} {K : PySem.W.Frag} {H : Hp} {R : α → V → Prop} (h : ∀ d v, R d v → Dp K H v (f d)) : ∀ {l : List α} {xs : List V}, RL R l xs → DpAll K H xs (l.map f)
  | [], xs, r => by rw [r.nil_inv]; exact .nil
  | a :: l, xs, r => by
    obtain ⟨y, ys, rfl, r1, r2⟩ := r.uncons
    exact .cons (h a y r1) (dpAll h r2)
instance instPyDInt : PyD Int where
  toD := .int
  dp := fun h => (by rw [show _ = _ from h]; exact .int _)
  lay := fun _ => (by simp [PyData.canLay0])
  dm := 0
  dle := fun _ => (by simp [PyData.depth])
  eqv := fun a b => (by simp [PyData.eqv])
/-- immutable data that is PyD by the rep of PyI -/
class PyDI (α : Type) [PyI α] where
  toD : α → PyData
  dp : ∀ {K : PySem.W.Frag} {d : α} {v : V} {H : Hp}, PyI.rep d v H → Dp K H v (toD d)
  lay : ∀ d, (toD d).canLay0 = true
  dm : Nat
  dle : ∀ d, (toD d).depth ≤ dm
  eqv : ∀ a b, PyData.eqv (toD a) (toD b) = true ↔ a = b
instance (priority := 5) instPyDofI {α : Type} [PyI α] [PyDI α] : PyD α where
  toD := PyDI.toD
  dp := PyDI.dp
  lay := PyDI.lay
  dm := PyDI.dm α
  dle := PyDI.dle
  eqv := PyDI.eqv
instance instPyDIInt : PyDI Int where
  toD := .int
  dp := fun h => (by rw [show _ = _ from h]; exact .int _)
  lay := fun _ => (by simp [PyData.canLay0])
  dm := 0
  dle := fun _ => (by simp [PyData.depth])
  eqv := fun a b => (by simp [PyData.eqv])
instance instPyDIBool : PyDI Bool where
  toD := .bool
  dp := fun h => (by rw [show _ = _ from h]; exact .bl _)
  lay := fun _ => (by simp [PyData.canLay0])
  dm := 0
  dle := fun _ => (by simp [PyData.depth])
  eqv := fun a b => (by simp [PyData.eqv])
instance instPyDIPair {α β : Type} [PyI α] [PyI β] [PyDI α] [PyDI β] : PyDI (α × β) where
  toD := fun d => .tuple [PyDI.toD d.1, PyDI.toD d.2]
  dp := fun ⟨p, x, y, e, h, a, b⟩ => (by rw [e]; exact .tup (.of h) (.cons (PyDI.dp a) (.cons (PyDI.dp b) .nil)))
  lay := fun d => (by simp [PyData.canLay0, PyData.canLayAll0, PyDI.lay])
  dm := max (PyDI.dm α) (PyDI.dm β) + 1
  dle := fun d => (by
    have h1 := PyDI.dle d.1
    have h2 := PyDI.dle d.2
    simp only [PyData.depth, PyData.depthAll]
    omega)
  eqv := fun a b => (by
    simp only [PyData.eqv, PyData.eqvAll, Bool.and_eq_true, and_true]
    rw [PyDI.eqv, PyDI.eqv, Prod.ext_iff])
instance instPyDIList {α : Type} [PyI α] [PyDI α] : PyDI (List α) where
  toD := fun l => .tuple (l.map PyDI.toD)
  dp := fun ⟨p, xs, e, h, r⟩ => (by rw [e]; exact .tup (.of h) (dpAll (fun _ _ z => PyDI.dp z) r))
  lay := fun l => (by simp only [PyData.canLay0]; exact layAll PyDI.lay l)
  dm := PyDI.dm α + 1
  dle := fun l => (by simp only [PyData.depth]; exact Nat.succ_le_succ (depAll PyDI.dle l))
  eqv := fun l m => (by simp only [PyData.eqv]; exact eqvAll PyDI.eqv l m)
instance instPyDLs {α : Type} [PyD α] : PyD (Ls α) where
  toD := fun l => .list (l.l.map PyD.toD)
  dp := fun ⟨p, xs, e, h, r⟩ => (by rw [e]; exact .lst (.of h) (dpAll (fun _ _ z => PyD.dp z) r))
  lay := fun l => (by simp only [PyData.canLay0]; exact layAll PyD.lay l.l)
  dm := PyD.dm α + 1
  dle := fun l => (by simp only [PyData.depth]; exact Nat.succ_le_succ (depAll PyD.dle l.l))
  eqv := fun l m => (by
    simp only [PyData.eqv]
    rw [eqvAll PyD.eqv]
    exact ⟨fun h => by cases l; cases m; simp at h; rw [h], fun h => by rw [h]⟩)
theorem dec_of {p q : Prop} [Decidable q] {b : Bool} (h : b = true ↔ q) : b = decide q := by
  cases b with
  | true => exact (decide_eq_true (h.mp rfl)).symm
  | false => exact (decide_eq_false fun z => by have := h.mpr z; cases this).symm
section
variable {K : PySem.W.Frag} {σ : L2.St} {H : Hp} {ta tb te tl : TE} {α β : Type}
theorem ev_eqD [PyD α] [DecidableEq α] {a b : α} (ha : Ev ta σ H a) (hb : Ev tb σ H b) (hd : PyD.dm α ≤ 64 := by decide) : Ev (tOp (rEqD K) ta tb) σ H (decide (a = b)) := ev_op ha hb fun x y H rx ry Q q => by
  refine ⟨_, _, PyD.dp rx, PyD.dp ry, PyD.sh hd _, PyD.sh hd _, ?_⟩
  rw [dec_of (p := True) (PyD.eqv a b)]
  exact q _ _ H rfl (Gr.refl H) rfl
theorem ev_neD [PyD α] [DecidableEq α] {a b : α} (ha : Ev ta σ H a) (hb : Ev tb σ H b) (hd : PyD.dm α ≤ 64 := by decide) : Ev (tOp (rNeD K) ta tb) σ H (!decide (a = b)) := ev_op ha hb fun x y H rx ry Q q => by
  refine ⟨_, _, PyD.dp rx, PyD.dp ry, PyD.sh hd _, PyD.sh hd _, ?_⟩
  rw [dec_of (p := True) (PyD.eqv a b)]
  exact q _ _ H rfl (Gr.refl H) rfl
theorem any_eqv [PyD α] [DecidableEq α] {a : α} : ∀ l : List α, ((l.map PyD.toD).any fun z => PyData.eqv z (PyD.toD a)) = decide (a ∈ l)
  | [] => by simp
  | b :: l => by
    rw [List.map_cons, List.any_cons, any_eqv l, dec_of (p := True) (PyD.eqv b a)]
    by_cases h : b = a
    · simp [h]
    · have h2 : ¬ a = b := fun e => h e.symm
      simp [h, h2]
theorem ev_inL [PyD α] [DecidableEq α] {a : α} {l : List α} (ha : Ev ta σ H a) (hb : Ev tb σ H (Ls.mk l)) (hd : PyD.dm α ≤ 63 := by decide) : Ev (tOp (rInD K) ta tb) σ H (decide (a ∈ l)) := ev_op ha hb fun x y H rx ry Q q => by
  refine ⟨_, _, PyD.dp rx, PyD.dp ry, PyD.sh (Nat.le_trans hd (by decide)) _, PyD.sh (α := Ls α) (show PyD.dm α + 1 ≤ 64 from Nat.succ_le_succ hd) _, ?_⟩
  rw [any_eqv]
  exact q _ _ H rfl (Gr.refl H) rfl
theorem ev_notInL [PyD α] [DecidableEq α] {a : α} {l : List α} (ha : Ev ta σ H a) (hb : Ev tb σ H (Ls.mk l)) (hd : PyD.dm α ≤ 63 := by decide) : Ev (tOp (rNotInD K) ta tb) σ H (!decide (a ∈ l)) := ev_op ha hb fun x y H rx ry Q q => by
  refine ⟨_, _, PyD.dp rx, PyD.dp ry, PyD.sh (Nat.le_trans hd (by decide)) _, PyD.sh (α := Ls α) (show PyD.dm α + 1 ≤ 64 from Nat.succ_le_succ hd) _, ?_⟩
  rw [any_eqv]
  exact q _ _ H rfl (Gr.refl H) rfl
end
end Zw
/-! Z6: the order of data; sorted of lists, tuples, keys. -/
namespace Zw
open PySem L2 RZ PySem.Spec PyProof.Rows SrtO PySem.SeqAt Ob

def VL {α : Type} (R : α → Value → Prop) (ds : List α) (us : List Value) : Prop := ds.length = us.length ∧ ∀ (i : Nat) d u, ds[i]? = some d → us[i]? = some u → R d u
theorem VL.get {α : Type} {R : α → Value → Prop} {ds : List α} {us : List Value} (t : VL R ds us) {i : Nat} {d : α} (h : ds[i]? = some d) : ∃ x, us[i]? = some x ∧ R d x := by
  have hi : i < us.length := by rw [← t.1]; exact (List.getElem?_eq_some_iff.mp h).1
  exact ⟨us[i], by simp [hi], t.2 i d _ h (by simp [hi])⟩
/-- data with an order, by the values themselves -/
class PyO (α : Type) extends PyI α where
  vr : α → Value → Heap → Prop
  of_rep : ∀ {P : Program} {w : World} {H : Hp} {h : Heap} {d : α} {x : V} {u : Value}, HOk P w H h → rep d x H → RelV x u → vr d u h
  vkeep : ∀ {d : α} {u : Value} {h h' : Heap}, (∀ b o, h.get? b = some o → o.cls = .type "tuple" → h'.get? b = some o) → vr d u h → vr d u h'
  vfn : ∀ {d d' : α} {u : Value} {h : Heap}, vr d u h → vr d' u h → d = d'
  dec : DecidableEq α
  lt : α → α → Bool
  dep : Nat
  eqAt : ∀ {A : Around} {s : Shared} {a b : α} {u v : Value}, A.units + dep < cLine → vr a u s.heap → vr b v s.heap → EqAt A s u v (decide (a = b))
  ltAt : ∀ {A : Around} {s : Shared} {a b : α} {u v : Value}, A.units + dep < cLine → vr a u s.heap → vr b v s.heap → RcOp .Lt A s u v (lt a b)
  asym : ∀ a b : α, lt a b = true → lt b a = false
  ntr : ∀ a b c : α, lt b a = false → lt c b = false → lt c a = false
  tri : ∀ a b : α, lt a b = false → lt b a = false → a = b
instance instDecO {α : Type} [PyO α] : DecidableEq α := PyO.dec
theorem PyO.swo {α : Type} [PyO α] : Swo (PyO.lt (α := α)) := ⟨PyO.asym, fun x y z => PyO.ntr x y z⟩

instance instPyOInt : PyO Int where
  vr := fun i u _ => ∃ t, u = .int i t
  of_rep := fun _ r rv => (by rw [show _ = V.int _ from r] at rv; exact rv)
  vkeep := fun _ h => h
  vfn := fun ⟨t, e⟩ ⟨t', e'⟩ => (by rw [e] at e'; cases e'; rfl)
  dec := inferInstance
  lt := fun a b => decide (a < b)
  dep := 0
  eqAt := fun {A s a b u v} _ ⟨t, e⟩ ⟨t', e'⟩ => (by
    rw [e, e']
    have h : decide (a = b) = (a == b) := by rw [Bool.eq_iff_iff]; simp
    rw [h]
    exact EqAt.int_int a t b t')
  ltAt := fun {A s a b u v} _ ⟨t, e⟩ ⟨t', e'⟩ => (by rw [e, e']; exact RcOp.lt_int a b t t')
  asym := fun a b h => (by simp at h ⊢; omega)
  ntr := fun a b c h1 h2 => (by simp at h1 h2 ⊢; omega)
  tri := fun a b h1 h2 => (by simp at h1 h2; omega)

def lexG {α : Type} [DecidableEq α] (lt : α → α → Bool) : List α → List α → Bool
  | [], [] => false
  | [], _ :: _ => true
  | _ :: _, [] => false
  | a :: l, b :: m => if a = b then lexG lt l m else lt a b
theorem lexG_asym {α : Type} [DecidableEq α] {lt : α → α → Bool} (h : ∀ a b : α, lt a b = true → lt b a = false) : ∀ l m, lexG lt l m = true → lexG lt m l = false
  | [], [], q => by cases q
  | [], _ :: _, _ => rfl
  | _ :: _, [], q => by cases q
  | a :: l, b :: m, q => by
    unfold lexG at q ⊢
    by_cases e : a = b
    · rw [if_pos e] at q
      rw [if_pos e.symm]
      exact lexG_asym h l m q
    · rw [if_neg e] at q
      rw [if_neg (fun z => e z.symm)]
      exact h a b q
theorem lexG_tri {α : Type} [DecidableEq α] {lt : α → α → Bool} (h : ∀ a b : α, lt a b = false → lt b a = false → a = b) : ∀ l m, lexG lt l m = false → lexG lt m l = false → l = m
  | [], [], _, _ => rfl
  | [], _ :: _, q, _ => by cases q
  | _ :: _, [], _, q => by cases q
  | a :: l, b :: m, q, q' => by
    unfold lexG at q q'
    by_cases e : a = b
    · rw [if_pos e] at q
      rw [if_pos e.symm] at q'
      rw [e, lexG_tri h l m q q']
    · rw [if_neg e] at q
      rw [if_neg (fun z => e z.symm)] at q'
      exact absurd (h a b q q') e
theorem lexG_ntr {α : Type} [DecidableEq α] {lt : α → α → Bool} (h0 : ∀ a b : α, lt a b = true → lt b a = false) (h : ∀ a b c : α, lt b a = false → lt c b = false → lt c a = false) (h2 : ∀ a b : α, lt a b = false → lt b a = false → a = b) :
    ∀ l m n, lexG lt m l = false → lexG lt n m = false → lexG lt n l = false
  | [], [], n, _, q => q
  | [], _ :: _, [], _, q => by cases q
  | [], _ :: _, _ :: _, _, _ => rfl
  | _ :: _, [], _, q, _ => by cases q
  | _ :: _, _ :: _, [], _, q => by cases q
  | a :: l, b :: m, c :: n, q, q' => by
    unfold lexG at q q' ⊢
    by_cases e : b = a
    · rw [if_pos e] at q
      by_cases e' : c = b
      · rw [if_pos e'] at q'
        rw [if_pos (e'.trans e)]
        exact lexG_ntr h0 h h2 l m n q q'
      · rw [if_neg e'] at q'
        rw [if_neg (fun z => e' (z.trans e.symm)), ← e]
        exact q'
    · rw [if_neg e] at q
      by_cases e' : c = b
      · rw [if_neg (fun z => e (e'.symm.trans z)), e']
        exact q
      · rw [if_neg e'] at q'
        by_cases e2 : c = a
        · -- then lt b a = false, lt a b = false
          rw [e2] at q'
          exact absurd (h2 b a q q') e
        · rw [if_neg e2]
          exact h a b c q q'
theorem lexAt_shift {e r : Nat → Bool} {z : Bool} : ∀ (k i : Nat), lexAt e r z (i + 1) k = lexAt (fun j => e (j + 1)) (fun j => r (j + 1)) z i k
  | 0, _ => rfl
  | k + 1, i => by rw [lexAt_succ, lexAt_succ, lexAt_shift k (i + 1)]
theorem lexAt_lexG {α : Type} [DecidableEq α] [Inhabited α] {lt : α → α → Bool} : ∀ l m : List α, lexAt (fun j => decide (l.getD j default = m.getD j default)) (fun j => lt (l.getD j default) (m.getD j default)) (decide (l.length < m.length)) 0 (min l.length m.length) = lexG lt l m
  | [], [] => rfl
  | [], _ :: _ => by simp [lexAt_zero, lexG]
  | _ :: _, [] => by simp [lexAt_zero, lexG]
  | a :: l, b :: m => by
    have e : min (a :: l).length (b :: m).length = min l.length m.length + 1 := by simp only [List.length_cons]; omega
    rw [e, lexAt_succ, lexAt_shift]
    have h := lexAt_lexG (lt := lt) l m
    have e2 : decide ((a :: l).length < (b :: m).length) = decide (l.length < m.length) := by simp
    rw [e2]
    show (if decide (a = b) = true then lexAt (fun j => decide (l.getD j default = m.getD j default)) (fun j => lt (l.getD j default) (m.getD j default)) (decide (l.length < m.length)) 0 (min l.length m.length) else lt a b) = lexG lt (a :: l) (b :: m)
    rw [h]
    show _ = (if a = b then lexG lt l m else lt a b)
    by_cases e3 : a = b <;> simp [e3]
theorem lexAt_congr {e r e' r' : Nat → Bool} {z : Bool} : ∀ (k i : Nat), (∀ j, i ≤ j → j < i + k → e j = e' j ∧ (e j = false → r j = r' j)) → lexAt e r z i k = lexAt e' r' z i k
  | 0, _, _ => rfl
  | k + 1, i, h => by
    rw [lexAt_succ, lexAt_succ, lexAt_congr k (i + 1) fun j h1 h2 => h j (by omega) (by omega)]
    obtain ⟨h1, h2⟩ := h i (Nat.le_refl _) (by omega)
    rw [← h1]
    cases q : e i with
    | true => rfl
    | false => rw [h2 q]
def VTup {α : Type} (R : α → Value → Heap → Prop) (l : List α) (u : Value) (h : Heap) : Prop := ∃ a its, u = .ref a ∧ IsTup h a its ∧ VL (fun d u => R d u h) l its.toList
theorem VTup.size {α : Type} {R : α → Value → Heap → Prop} {l : List α} {a : Addr} {its : Array Value} {h : Heap} (v : VL (fun d u => R d u h) l its.toList) : its.size = l.length := by
  have := v.1
  rw [Array.length_toList] at this
  exact this.symm
theorem VL.arr {α : Type} [Inhabited α] {R : α → Value → Prop} {l : List α} {its : Array Value} (v : VL R l its.toList) {j : Nat} (h : j < its.size) : R (l.getD j default) its[j] := by
  have e0 : l.length = its.size := v.1.trans Array.length_toList
  have hl : j < l.length := by omega
  have e : l[j]? = some (l.getD j default) := by
    rw [List.getD_eq_getElem?_getD, List.getElem?_eq_getElem hl]; rfl
  exact v.2 j _ _ e (by rw [Array.getElem?_toList]; exact Array.getElem?_eq_getElem h)
theorem vals_vl {α : Type} {R : α → V → Prop} {R' : α → Value → Prop} {ds : List α} {xs : List V} {us : List Value} (r : RL R ds xs) (v : Vals xs us) (h : ∀ d x u, R d x → RelV x u → R' d u) : VL R' ds us := by
  refine ⟨r.1.trans v.length, fun i d u hd hu => ?_⟩
  obtain ⟨x, hx, rx⟩ := r.get hd
  obtain ⟨u', hu', ru⟩ := v.get hx
  rw [hu] at hu'
  cases hu'
  exact h d x u rx ru
theorem istup_keep {h h' : Heap} {a : Addr} {its : Array Value} (k : ∀ b o, h.get? b = some o → o.cls = .type "tuple" → h'.get? b = some o) (x : IsTup h a its) : IsTup h' a its := by
  obtain ⟨o, ho, hc, r⟩ := x
  exact ⟨o, k a o ho hc, hc, r⟩
theorem istup_fn {h : Heap} {a : Addr} {its its' : Array Value} (x : IsTup h a its) (y : IsTup h a its') : its = its' := by
  obtain ⟨o, ho, _, n, hd⟩ := x
  obtain ⟨o', ho', _, n', hd'⟩ := y
  rw [ho] at ho'
  cases ho'
  rw [hd] at hd'
  injection hd'
theorem all_range_get {α : Type} [DecidableEq α] [Inhabited α] : ∀ l m : List α, (((List.range (min l.length m.length)).all fun j => decide (l.getD j default = m.getD j default)) && decide (l.length = m.length)) = decide (l = m) := by
  intro l m
  rw [Bool.eq_iff_iff]
  simp only [Bool.and_eq_true, List.all_eq_true, List.mem_range, decide_eq_true_eq]
  constructor
  · rintro ⟨h1, h2⟩
    refine List.ext_getElem h2 fun i hi hj => ?_
    have := h1 i (by omega)
    rw [List.getD_eq_getElem?_getD, List.getD_eq_getElem?_getD, List.getElem?_eq_getElem hi, List.getElem?_eq_getElem hj] at this
    exact this
  · rintro rfl
    exact ⟨fun _ _ => rfl, rfl⟩
theorem units_in1 {A : Around} : A.in1.units = A.units + 1 := rfl
instance instPyOList {α : Type} [PyO α] [Inhabited α] : PyO (List α) where
  vr := VTup PyO.vr
  of_rep := fun {P w H h d x u} ok ⟨p, xs, e, hp, r⟩ rv => (by
    subst e
    cases rv
    obtain ⟨_, its, vs, ht⟩ := ok p _ hp
    exact ⟨p, its.toArray, rfl, ht, vals_vl (us := its.toArray.toList) r (by simpa using vs) fun d x u r rv => PyO.of_rep ok r rv⟩)
  vkeep := fun {d u h h'} k ⟨a, its, e, ht, r⟩ => ⟨a, its, e, istup_keep k ht, r.1, fun i d u h1 h2 => PyO.vkeep k (r.2 i d u h1 h2)⟩
  vfn := fun {d d' u h} ⟨a, its, e, ht, r⟩ ⟨a', its', e', ht', r'⟩ => (by
    rw [e] at e'
    cases e'
    have z := istup_fn ht ht'
    subst z
    refine List.ext_getElem? fun i => ?_
    by_cases hi : i < d.length
    · have hi' : i < d'.length := by rw [r'.1, ← r.1]; exact hi
      obtain ⟨u1, h1, q1⟩ := r.get (List.getElem?_eq_getElem hi)
      rw [List.getElem?_eq_getElem hi, List.getElem?_eq_getElem hi']
      exact congrArg some (PyO.vfn q1 (r'.2 i _ u1 (List.getElem?_eq_getElem hi') h1))
    · rw [List.getElem?_eq_none (by omega), List.getElem?_eq_none (by have := r.1; have := r'.1; omega)])
  dec := inferInstance
  lt := lexG PyO.lt
  dep := PyO.dep α + 1
  eqAt := fun {A s l m u v} hu ⟨a, its, e, ht, r⟩ ⟨b, its', e', ht', r'⟩ => (by
    rw [e, e']
    by_cases hab : a = b
    · subst hab
      have z := istup_fn ht ht'
      subst z
      have el : l = m := by
        refine List.ext_getElem? fun i => ?_
        by_cases hi : i < l.length
        · have hi' : i < m.length := by rw [r'.1, ← r.1]; exact hi
          obtain ⟨u1, h1, q1⟩ := r.get (List.getElem?_eq_getElem hi)
          rw [List.getElem?_eq_getElem hi, List.getElem?_eq_getElem hi']
          exact congrArg some (PyO.vfn q1 (r'.2 i _ u1 (List.getElem?_eq_getElem hi') h1))
        · rw [List.getElem?_eq_none (by omega), List.getElem?_eq_none (by have := r.1; have := r'.1; omega)]
      rw [decide_eq_true el]
      exact EqAt.same _
    · refine EqAt.of_refs hab ?_
      have q := RcAt.tuples (A := A) (s := s) (e := fun j => decide (l.getD j default = m.getD j default)) ht ht' (by omega) fun j h1 h2 => PyO.eqAt (by rw [units_in1]; omega) (r.arr h1) (r'.arr h2)
      have e1 := VTup.size (a := a) r
      have e2 := VTup.size (a := b) r'
      have e3 : (its.size == its'.size) = decide (l.length = m.length) := by rw [e1, e2, Bool.eq_iff_iff]; simp
      rw [e3, e1, e2, all_range_get] at q
      exact q)
  ltAt := fun {A s l m u v} hu ⟨a, its, e, ht, r⟩ ⟨b, its', e', ht', r'⟩ => (by
    rw [e, e']
    have q := RcOp.tuples_lt (A := A) (s := s) (e := fun j => decide (l.getD j default = m.getD j default)) (r := fun j => PyO.lt (l.getD j default) (m.getD j default)) ht ht' (by omega) (fun j h1 h2 => PyO.eqAt (by rw [units_in1]; omega) (r.arr h1) (r'.arr h2)) (fun j h1 h2 _ => PyO.ltAt (by rw [units_in1]; omega) (r.arr h1) (r'.arr h2))
    rw [VTup.size (a := a) r, VTup.size (a := b) r', lexAt_lexG] at q
    exact q)
  asym := lexG_asym PyO.asym
  ntr := fun a b c => lexG_ntr PyO.asym PyO.ntr PyO.tri a b c
  tri := lexG_tri PyO.tri

def VPair {α β : Type} (R : α → Value → Heap → Prop) (R' : β → Value → Heap → Prop) (d : α × β) (u : Value) (h : Heap) : Prop := ∃ a u1 u2, u = .ref a ∧ IsTup h a #[u1, u2] ∧ R d.1 u1 h ∧ R' d.2 u2 h
instance instPyOPair {α β : Type} [PyO α] [PyO β] : PyO (α × β) where
  vr := VPair PyO.vr PyO.vr
  of_rep := fun {P w H h d x u} ok ⟨p, x1, x2, e, hp, r1, r2⟩ rv => (by
    subst e
    cases rv
    obtain ⟨_, its, vs, ht⟩ := ok p _ hp
    obtain ⟨u1, u2, rfl, v1, v2⟩ := vals2 vs
    exact ⟨p, u1, u2, rfl, ht, PyO.of_rep ok r1 v1, PyO.of_rep ok r2 v2⟩)
  vkeep := fun {d u h h'} k ⟨a, u1, u2, e, ht, r1, r2⟩ => ⟨a, u1, u2, e, istup_keep k ht, PyO.vkeep k r1, PyO.vkeep k r2⟩
  vfn := fun {d d' u h} ⟨a, u1, u2, e, ht, r1, r2⟩ ⟨a', u1', u2', e', ht', r1', r2'⟩ => (by
    rw [e] at e'
    cases e'
    have z := istup_fn ht ht'
    have zl := congrArg Array.toList z
    simp only [List.cons.injEq, and_true] at zl
    obtain ⟨z1, z2⟩ := zl
    subst z1 z2
    exact Prod.ext (PyO.vfn r1 r1') (PyO.vfn r2 r2'))
  dec := inferInstance
  lt := fun p q => if p.1 = q.1 then PyO.lt p.2 q.2 else PyO.lt p.1 q.1
  dep := max (PyO.dep α) (PyO.dep β) + 1
  eqAt := fun {A s l m u v} hu ⟨a, u1, u2, e, ht, r1, r2⟩ ⟨b, u1', u2', e', ht', r1', r2'⟩ => (by
    rw [e, e']
    by_cases hab : a = b
    · subst hab
      have z := istup_fn ht ht'
      have zl := congrArg Array.toList z
      simp only [List.cons.injEq, and_true] at zl
      obtain ⟨z1, z2⟩ := zl
      subst z1 z2
      rw [decide_eq_true (show l = m from Prod.ext (PyO.vfn r1 r1') (PyO.vfn r2 r2'))]
      exact EqAt.same _
    · refine EqAt.of_refs hab ?_
      have q := RcAt.tuples (A := A) (s := s) (e := fun j => if j = 0 then decide (l.1 = m.1) else decide (l.2 = m.2)) ht ht' (by omega) fun j h1 h2 => by
        match j, h1, h2 with
        | 0, _, _ => exact PyO.eqAt (by rw [units_in1]; omega) r1 r1'
        | 1, _, _ => exact PyO.eqAt (by rw [units_in1]; omega) r2 r2'
        | j + 2, h1, _ => exact absurd h1 (by simp)
      have e2 : ((List.range (min (#[u1, u2] : Array Value).size (#[u1', u2'] : Array Value).size)).all (fun j => if j = 0 then decide (l.1 = m.1) else decide (l.2 = m.2)) && (#[u1, u2] : Array Value).size == (#[u1', u2'] : Array Value).size) = decide (l = m) := by
        rw [Bool.eq_iff_iff]
        show ((List.range 2).all (fun j => if j = 0 then decide (l.1 = m.1) else decide (l.2 = m.2)) && true) = true ↔ _
        simp [List.range_succ, Prod.ext_iff]
      rw [e2] at q
      exact q)
  ltAt := fun {A s l m u v} hu ⟨a, u1, u2, e, ht, r1, r2⟩ ⟨b, u1', u2', e', ht', r1', r2'⟩ => (by
    rw [e, e']
    have q := RcOp.tuples_lt (A := A) (s := s) (e := fun j => if j = 0 then decide (l.1 = m.1) else decide (l.2 = m.2)) (r := fun j => if j = 0 then PyO.lt l.1 m.1 else PyO.lt l.2 m.2) ht ht' (by omega)
      (fun j h1 h2 => by
        match j, h1, h2 with
        | 0, _, _ => exact PyO.eqAt (by rw [units_in1]; omega) r1 r1'
        | 1, _, _ => exact PyO.eqAt (by rw [units_in1]; omega) r2 r2'
        | j + 2, h1, _ => exact absurd h1 (by simp))
      (fun j h1 h2 _ => by
        match j, h1, h2 with
        | 0, _, _ => exact PyO.ltAt (by rw [units_in1]; omega) r1 r1'
        | 1, _, _ => exact PyO.ltAt (by rw [units_in1]; omega) r2 r2'
        | j + 2, h1, _ => exact absurd h1 (by simp))
    have e2 : lexAt (fun j => if j = 0 then decide (l.1 = m.1) else decide (l.2 = m.2)) (fun j => if j = 0 then PyO.lt l.1 m.1 else PyO.lt l.2 m.2) (decide ((#[u1, u2] : Array Value).size < (#[u1', u2'] : Array Value).size)) 0 (min (#[u1, u2] : Array Value).size (#[u1', u2'] : Array Value).size) = (if l.1 = m.1 then PyO.lt l.2 m.2 else PyO.lt l.1 m.1) := by
      show lexAt (fun j => if j = 0 then decide (l.1 = m.1) else decide (l.2 = m.2)) (fun j => if j = 0 then PyO.lt l.1 m.1 else PyO.lt l.2 m.2) false 0 2 = _
      rw [lexAt_succ, lexAt_succ, lexAt_zero]
      simp only [if_true, if_neg (show ¬ (0 + 1 = 0) by decide), decide_eq_true_eq]
      by_cases h1 : l.1 = m.1
      · rw [if_pos h1, if_pos h1]
        by_cases h2 : l.2 = m.2
        · rw [if_pos h2, h2]
          cases q : PyO.lt m.2 m.2 with
          | false => rfl
          | true => have z := PyO.asym _ _ q; rw [q] at z; cases z
        · rw [if_neg h2]
      · rw [if_neg h1, if_neg h1]
    rw [e2] at q
    exact q)
  asym := fun a b h => (by
    by_cases e : a.1 = b.1
    · rw [if_pos e] at h
      rw [if_pos e.symm]
      exact PyO.asym _ _ h
    · rw [if_neg e] at h
      rw [if_neg (fun z => e z.symm)]
      exact PyO.asym _ _ h)
  ntr := fun a b c h1 h2 => (by
    by_cases e : b.1 = a.1
    · rw [if_pos e] at h1
      by_cases e' : c.1 = b.1
      · rw [if_pos e'] at h2
        rw [if_pos (e'.trans e)]
        exact PyO.ntr _ _ _ h1 h2
      · rw [if_neg e'] at h2
        rw [if_neg (fun z => e' (z.trans e.symm)), ← e]
        exact h2
    · rw [if_neg e] at h1
      by_cases e' : c.1 = b.1
      · rw [if_neg (fun z => e (e'.symm.trans z)), e']
        exact h1
      · rw [if_neg e'] at h2
        by_cases e2 : c.1 = a.1
        · rw [e2] at h2
          exact absurd (PyO.tri _ _ h1 h2) e
        · rw [if_neg e2]
          exact PyO.ntr _ _ _ h1 h2)
  tri := fun a b h1 h2 => (by
    by_cases e : a.1 = b.1
    · rw [if_pos e] at h1
      rw [if_pos e.symm] at h2
      exact Prod.ext e (PyO.tri _ _ h1 h2)
    · rw [if_neg e] at h1
      rw [if_neg (fun z => e z.symm)] at h2
      exact absurd (PyO.tri _ _ h1 h2) e)

/-! ### what may be sorted -/
class PySrt (α : Type) [PyO α] where
  ok : α → Prop
  srt : ∀ {prog : Program} {w : World} {A : Around} {s : Shared} {a : Addr} {us : List Value} (k : Value → α), A.units + 62 < cLine → (∀ u ∈ us, PyO.vr (k u) u s.heap ∧ ok (k u)) → 2 ≤ us.length → (∀ o, s.heap.get? a = some o → o.cls ≠ .type "tuple") →
    SortableO prog w A s a us fun u v => PyO.lt (k u) (k v)
instance instSrtInt : PySrt Int where
  ok := fun _ => True
  srt := fun {prog w A s a us} k hu h h2 ha => (by
    have hi : ∀ v ∈ us, ∃ i t, v = .int i t := fun v hv => by obtain ⟨t, e⟩ := (h v hv).1; exact ⟨_, t, e⟩
    have q := ints_sortable (prog := prog) (w := w) (A := A) (s := s) (a := a) (ints_iv hi) h2
    intro h' keep
    obtain ⟨κ, k1, k2⟩ := q h' keep
    refine ⟨κ, k1, fun p q hp hq => ?_⟩
    have e1 : iv p.1 = k p.1 := by obtain ⟨t, e⟩ := (h p.1 hp).1; rw [e, ← e]; rw [show iv p.1 = iv (.int (k p.1) t) by rw [← e]]; rfl
    have e2 : iv q.1 = k q.1 := by obtain ⟨t, e⟩ := (h q.1 hq).1; rw [show iv q.1 = iv (.int (k q.1) t) by rw [← e]]; rfl
    have z := k2 p q hp hq
    have e3 : lt2 ltIv p q = lt2 (fun u v => PyO.lt (k u) (k v)) p q := by
      show decide (iv p.1 < iv q.1) = decide (k p.1 < k q.1)
      rw [e1, e2]
    rw [e3] at z
    exact z)
/-- the lexicographic test -/
theorem oneLt_any {prog : Program} {w : World} {A : Around} {s : Shared} {u v : Value} {b : Bool} {Q : Bool → Shared → Prop} {E : Value → Shared → Prop} (h : RcOp .Lt A s u v b) (q : Q b s) : wpAny (model prog w) A (oneLt' false u v) Q E s :=
  PySem.W.kat_one _ _ (show wpAny (model prog w) A (compareOp .Lt u v) (PySem.W.BoolBack Q) E s from h prog w E _ q)
instance instSrtPair {β : Type} [PyO β] : PySrt (Int × β) where
  ok := fun _ => PyO.dep β ≤ 60
  srt := fun {prog w A s a us} k hu h h2 ha => (by
    intro h' keep
    have hv : ∀ u ∈ us, PyO.vr (k u) u h' := fun u hm => PyO.vkeep (fun b o e c => keep b o (fun z => by subst z; exact ha o e c) e) (h u hm).1
    have hdep : ∃ u ∈ us, True := by
      match us, h2 with
      | u :: _, _ => exact ⟨u, List.mem_cons_self, trivial⟩
    obtain ⟨u0, hu0, _⟩ := hdep
    have hd : PyO.dep β ≤ 60 := (h u0 hu0).2
    have hfs : ∀ vs : List Value, (∀ u ∈ vs, PyO.vr (k u) u h') → ∃ fs : List Value, PySem.W.KatTups h' vs fs ∧ fs.length = vs.length ∧ ∀ f ∈ fs, ∃ i t, f = Value.int i t := by
      intro vs
      induction vs with
      | nil => intro _; exact ⟨[], trivial, rfl, fun f hf => by cases hf⟩
      | cons v vs ih =>
        intro hm
        obtain ⟨fs, q1, q2, q3⟩ := ih fun u hu => hm u (List.mem_cons_of_mem _ hu)
        obtain ⟨b, u1, u2, e, ⟨o, ho, hc, n, hdd⟩, ⟨t, e1⟩, _⟩ := hm v List.mem_cons_self
        subst e
        exact ⟨u1 :: fs, PySem.W.KatTups.cons ho hc hdd rfl q1, by simp [q2], fun f hf => by
          rcases List.mem_cons.mp hf with z | z
          · rw [z]; exact ⟨_, t, e1⟩
          · exact q3 f z⟩
    obtain ⟨fs, h1, hl, h3⟩ := hfs us hv
    refine ⟨tuples' true, fun Q E hq => ?_, fun p q hp hq => ?_⟩
    · refine PySem.W.kat_kind (T := .type "int") h1 (by omega) (fun f hm => ?_) (by rfl) ?_
      · obtain ⟨x, t, rfl⟩ := h3 f hm
        exact PySem.W.Looks.now
      · have e : (Value.type "int" != Value.type "tuple") = true := by first | decide +kernel | rfl | decide
        rw [e]
        exact hq
    · obtain ⟨b1, u1, u2, e, ⟨o, ho, hc, n, hdd⟩, ⟨t, e1⟩, r2⟩ := hv _ hp
      obtain ⟨b1', u1', u2', e', ⟨o', ho', hc', n', hdd'⟩, ⟨t', e1'⟩, r2'⟩ := hv _ hq
      show wpAny (model prog w) A (keyLt' (tuples' true) p.1 q.1) (fun r s' => s' = { s with heap := h' } ∧ r = PyO.lt (k p.1) (k q.1)) (fun _ _ => False) { s with heap := h' }
      generalize k p.1 = x at r2 e1 ⊢
      generalize k q.1 = y at r2' e1' ⊢
      rw [e, e']
      refine PySem.W.kat_lt (s := { s with heap := h' }) ho hdd ho' hdd' ?_
      show PySem.W.KatLex prog w A true (decide (2 < 2)) _ [(u1, u1'), (u2, u2')] 0 _
      rw [e1, e1']
      refine PySem.W.kat_cons (SeqAt.EqAt.int_int _ t _ t' prog w _ _ ?_)
      refine PySem.W.kat_go (fun q1 => ?_) (fun q1 => ?_)
      · have ex : x.1 = y.1 := by simpa using q1
        refine PySem.W.kat_yes (PySem.W.kat_cons (PyO.eqAt (s := { s with heap := h' }) (by omega) r2 r2' prog w _ _ ?_))
        refine PySem.W.kat_go (fun q2 => ?_) (fun q2 => ?_)
        · have ey : x.2 = y.2 := by simpa using q2
          refine PySem.W.kat_yes (PySem.W.kat_nil ⟨rfl, ?_⟩)
          show decide (2 < 2) = (if x.1 = y.1 then PyO.lt x.2 y.2 else _)
          rw [if_pos ex, ey]
          cases q : PyO.lt y.2 y.2 with
          | false => rfl
          | true => have z := PyO.asym _ _ q; rw [q] at z; cases z
        · refine PySem.W.kat_no (oneLt_any (PyO.ltAt (s := { s with heap := h' }) (by omega) r2 r2') ⟨rfl, ?_⟩)
          show PyO.lt x.2 y.2 = (if x.1 = y.1 then PyO.lt x.2 y.2 else _)
          rw [if_pos ex]
      · have ex : ¬ x.1 = y.1 := by simpa using q1
        refine PySem.W.kat_no (oneLt_int ⟨rfl, ?_⟩)
        show decide (x.1 < y.1) = (if x.1 = y.1 then _ else decide (x.1 < y.1))
        rw [if_neg ex])
theorem oneLt_intsB {prog : Program} {w : World} {A : Around} {E : Value → Shared → Prop} {s : Shared} {Q : Bool → Shared → Prop} (c : Bool) {p q : Int} {t u : Tok} (h : Q (decide (p < q)) s) : wpAny (model prog w) A (oneLt' c (.int p t) (.int q u)) Q E s := by
  cases c with
  | true => exact oneLt_int h
  | false => exact PySem.W.kat_one _ _ (PyProof.Rows.lt_int (Q := PySem.W.BoolBack Q) h)
theorem katLex_ints {prog : Program} {w : World} {A : Around} {b fin : Bool} {Q : Bool → Shared → Prop} {s : Shared} : ∀ (l m : List Int) (us vs : List Value) (i : Nat), VL (fun d u => PyO.vr d u s.heap) l us → VL (fun d u => PyO.vr d u s.heap) m vs → (∀ r, (r = if (l.take m.length) = (m.take l.length) then fin else lexG (PyO.lt (α := Int)) l m) → Q r s) →
    PySem.W.KatLex prog w A b fin Q (us.zip vs) i s := by
  intro l
  induction l with
  | nil =>
    intro m us vs i h1 h2 hq
    have e : us = [] := List.eq_nil_of_length_eq_zero h1.1.symm
    rw [e, List.zip_nil_left]
    exact PySem.W.kat_nil (hq _ (by simp))
  | cons x l ih =>
    intro m us vs i h1 h2 hq
    cases m with
    | nil =>
      have e : vs = [] := List.eq_nil_of_length_eq_zero h2.1.symm
      rw [e, List.zip_nil_right]
      exact PySem.W.kat_nil (hq _ (by simp))
    | cons y m =>
      match us, vs, h1, h2 with
      | u :: us, v :: vs, h1, h2 =>
        obtain ⟨t, e⟩ := h1.2 0 x u rfl rfl
        obtain ⟨t', e'⟩ := h2.2 0 y v rfl rfl
        subst e e'
        rw [List.zip_cons_cons]
        refine PySem.W.kat_cons (SeqAt.EqAt.int_int _ t _ t' prog w _ _ ?_)
        refine PySem.W.kat_go (fun q1 => ?_) (fun q1 => ?_)
        · have ex : x = y := by simpa using q1
          refine PySem.W.kat_yes (ih m us vs (i + 1) ⟨by have := h1.1; simpa using this, fun j d u a b => h1.2 (j + 1) d u (by simpa using a) (by simpa using b)⟩ ⟨by have := h2.1; simpa using this, fun j d u a b => h2.2 (j + 1) d u (by simpa using a) (by simpa using b)⟩ fun r hr => hq r ?_)
          subst ex
          rw [hr]
          show _ = if (x :: l).take (m.length + 1) = (x :: m).take (l.length + 1) then fin else (if x = x then lexG (PyO.lt (α := Int)) l m else _)
          simp only [List.take_succ_cons, List.cons.injEq, true_and, if_true]
        · have ex : ¬ x = y := by simpa using q1
          refine PySem.W.kat_no (oneLt_intsB _ (hq _ ?_))
          show decide (x < y) = if (x :: l).take (m.length + 1) = (y :: m).take (l.length + 1) then fin else (if x = y then lexG (PyO.lt (α := Int)) l m else decide (x < y))
          simp only [List.take_succ_cons, List.cons.injEq, ex, false_and, if_false]
      | [], _, h1, _ => exact absurd h1.1 (by simp)
      | _ :: _, [], _, h2 => exact absurd h2.1 (by simp)
theorem lexG_take : ∀ (l m : List Int), (l.take m.length) = (m.take l.length) → decide (l.length < m.length) = lexG (PyO.lt (α := Int)) l m
  | [], [], _ => rfl
  | [], _ :: _, _ => by simp [lexG]
  | _ :: _, [], _ => by simp [lexG]
  | x :: l, y :: m, h => by
    simp only [List.length_cons, List.take_succ_cons, List.cons.injEq] at h
    have q := lexG_take l m h.2
    show decide (l.length + 1 < m.length + 1) = if x = y then lexG (PyO.lt (α := Int)) l m else _
    rw [if_pos h.1, ← q]
    simp
instance instSrtList : PySrt (List Int) where
  ok := fun l => l ≠ []
  srt := fun {prog w A s a us} k hu h h2 ha => (by
    intro h' keep
    have hv : ∀ u ∈ us, PyO.vr (k u) u h' ∧ k u ≠ [] := fun u hm => ⟨PyO.vkeep (fun b o e c => keep b o (fun z => by subst z; exact ha o e c) e) (h u hm).1, (h u hm).2⟩
    have hfs : ∀ vs : List Value, (∀ u ∈ vs, PyO.vr (k u) u h' ∧ k u ≠ []) → ∃ fs : List Value, PySem.W.KatTups h' vs fs ∧ fs.length = vs.length ∧ ∀ f ∈ fs, ∃ i t, f = Value.int i t := by
      intro vs
      induction vs with
      | nil => intro _; exact ⟨[], trivial, rfl, fun f hf => by cases hf⟩
      | cons v vs ih =>
        intro hm
        obtain ⟨fs, q1, q2, q3⟩ := ih fun u hu => hm u (List.mem_cons_of_mem _ hu)
        obtain ⟨⟨b, its, e, ⟨o, ho, hc, n, hdd⟩, r⟩, ne⟩ := hm v List.mem_cons_self
        subst e
        obtain ⟨x, l, el⟩ := List.exists_cons_of_ne_nil ne
        obtain ⟨f, hf, t, ef⟩ := r.get (i := 0) (d := x) (by rw [el]; rfl)
        exact ⟨f :: fs, PySem.W.KatTups.cons ho hc hdd (by rw [← Array.getElem?_toList]; exact hf) q1, by simp [q2], fun g hg => by
          rcases List.mem_cons.mp hg with z | z
          · rw [z]; exact ⟨_, t, ef⟩
          · exact q3 g z⟩
    obtain ⟨fs, h1, hl, h3⟩ := hfs us hv
    refine ⟨tuples' true, fun Q E hq => ?_, fun p q hp hq => ?_⟩
    · refine PySem.W.kat_kind (T := .type "int") h1 (by omega) (fun f hm => ?_) (by rfl) ?_
      · obtain ⟨x, t, rfl⟩ := h3 f hm
        exact PySem.W.Looks.now
      · have e : (Value.type "int" != Value.type "tuple") = true := by first | decide +kernel | rfl | decide
        rw [e]
        exact hq
    · obtain ⟨⟨b1, its, e, ⟨o, ho, hc, n, hdd⟩, r⟩, _⟩ := hv _ hp
      obtain ⟨⟨b1', its', e', ⟨o', ho', hc', n', hdd'⟩, r'⟩, _⟩ := hv _ hq
      show wpAny (model prog w) A (keyLt' (tuples' true) p.1 q.1) (fun r s' => s' = { s with heap := h' } ∧ r = PyO.lt (k p.1) (k q.1)) (fun _ _ => False) { s with heap := h' }
      generalize k p.1 = x at r ⊢
      generalize k q.1 = y at r' ⊢
      rw [e, e']
      refine PySem.W.kat_lt (s := { s with heap := h' }) ho hdd ho' hdd' ?_
      have z1 := VTup.size (a := b1) r
      have z2 := VTup.size (a := b1') r'
      refine katLex_ints (s := { s with heap := h' }) x y _ _ 0 r r' fun r0 hr0 => ⟨rfl, ?_⟩
      rw [hr0, z1, z2]
      show (if x.take y.length = y.take x.length then decide (x.length < y.length) else lexG PyO.lt x y) = lexG PyO.lt x y
      by_cases hc : x.take y.length = y.take x.length
      · rw [if_pos hc, lexG_take x y hc]
      · rw [if_neg hc])
end Zw
/-! Z7: sorted(..) of lists, tuples, keys of dicts; < of data. -/
namespace Zw
open PySem L2 RZ PySem.Spec PyProof.Rows SrtO PySem.SeqAt Ob

/-- what the items of a thing are -/
inductive Coll (H : Hp) (a : Addr) (P : List V → Prop) : Prop where
  | lst {xs : List V} (h : H a = some (.lst xs)) (p : P xs)
  | tup {xs : List V} (h : H a = some (.tup xs)) (p : P xs)
  | dK {kvs : List (Key × V)} (h : H a = some (.dK kvs)) (p : P (kvs.map fun kv => kV kv.1))
  | dT {kvs : List (List Key × V)} (h : H a = some (.dT kvs)) (p : ∀ bs, IsKeys H kvs bs → P (bs.map V.ref))
section
variable {X : Cx}
theorem collect_coll (hc : X.calm = true) {A : Around} (hA : A.handled = none) {pins : List (Addr × Obj)} {s : Shared} {σ : L2.St} {H : Hp} {a : Addr} {P : List V → Prop} {Q : List Value → Shared → Prop} {E : Value → Shared → Prop} (I : Inv X pins σ H s) (c : Coll H a P)
    (h : ∀ (h' : Heap) (tk : Nat) (us : List Value) (xs : List V), (∀ b o, s.heap.get? b = some o → h'.get? b = some o) → Vals xs us → P xs → us.length ≤ sizeLine → Q us { s with heap := h', toks := tk }) : wpAny (model X.prog X.w) A (collect (.ref a)) Q E s := by
  cases c with
  | @lst xs e p =>
    obtain ⟨z, its, n, v, ho⟩ := I.hok a _ e
    refine wpAny_collect_seq a (.inl rfl) ho rfl rfl (fun h' k => ?_) (by rw [List.size_toArray, ← v.length]; exact z)
    exact h h' s.toks _ xs k (by simpa using v) p (by simpa [← v.length] using z)
  | @tup xs e p =>
    obtain ⟨z, its, v, o, ho, hcl, n, hd⟩ := I.hok a _ e
    refine wpAny_collect_seq a (.inr rfl) ho hcl hd (fun h' k => ?_) (by rw [List.size_toArray, ← v.length]; exact z)
    exact h h' s.toks _ xs k (by simpa using v) p (by simpa [← v.length] using z)
  | @dK kvs e p =>
    obtain ⟨z, lo, vs, rel, dd⟩ := dk_rd I.hok (.of e)
    obtain ⟨ep, hat⟩ := dd.dictAt
    have hl : kvs.length = vs.length := rel.length
    refine PySem.W.kdu_collect (A := A) (PySem.W.kdl_dict (knd := mixKind X.prog X.w) (kvs := vs) (ep := ep) lo) hA hat (by rw [← hl]; exact z) fun h' tk acc hk hacc => ?_
    have hal : acc.toList.length = vs.length := by rw [Array.length_toList, hacc.1]
    have hv : Vals (vs.map fun p => kV p.1) acc.toList := keys_at hal fun j v e => by
      obtain ⟨k, x, e1, e2⟩ := hacc.2 j v (by rw [← Array.getElem?_toList]; exact e)
      exact ⟨k, x, e1, e2⟩
    have e1 : (kvs.map fun kv => kV kv.1) = vs.map fun p => kV p.1 := by
      have q : (kvs.map (·.1)) = vs.map (·.1) := rel.keys
      have q1 := congrArg (List.map kV) q
      rw [List.map_map, List.map_map] at q1
      exact q1
    exact h h' tk _ _ hk (by rw [e1]; exact hv) p (by rw [hal, ← hl]; exact z)
  | @dT kvs e p =>
    obtain ⟨z, hs, ks, pr, o, es, ep, ho, hx, hdt, he, hn⟩ := (show ObjOk X.prog X.w H s.heap a (.dT kvs) from I.hok a _ e)
    have l1 : es.size = ks.length := size_of_entries he
    have l2 : kvs.length = ks.length := Paired.length pr
    refine PySem.W.kdu_collect (A := A) (kdl_raw hs hx hdt) hA ho (by omega) fun h' tk acc' kp it => ?_
    have ea : acc'.toList = ks.map fun x => Value.ref x.2.1 := by
      have hl : acc'.toList.length = ks.length := by rw [Array.length_toList, it.1]; exact l1
      apply List.ext_getElem?
      intro j
      rw [List.getElem?_map]
      cases hj : acc'.toList[j]? with
      | none =>
        have h1 := List.getElem?_eq_none_iff.mp hj
        rw [List.getElem?_eq_none (by omega)]
        all_goals rfl
      | some v =>
        obtain ⟨en, hen, hv⟩ := it.2 j v (by rw [← Array.getElem?_toList]; exact hj)
        have qe := entry_at he j
        rw [hen] at qe
        cases hb : ks[j]? with
        | none =>
          rw [hb] at qe
          exact nomatch (show some en = none from qe)
        | some b =>
          rw [hb] at qe
          have e2 : en = entryOfKey (tupleKind (mixKind X.prog X.w)) b := Option.some.inj qe
          rw [hv, e2]
          all_goals rfl
    have eb : acc'.toList = (ks.map fun x => x.2.1).map Value.ref := by rw [ea, List.map_map]; all_goals rfl
    exact h h' tk _ ((ks.map fun x => x.2.1).map V.ref) kp (by rw [eb]; exact vals_refs _) (p _ (isKeys_of pr)) (by rw [eb, List.length_map, List.length_map]; omega)

/-- sorted(x) -/
def rSortedG : List V → Hp → VK → Prop := fun vs H Q => ∃ (α : Type) (o : PyO α) (srt : PySrt α) (ds : List α) (a : Addr), vs = [.ref a] ∧ Coll H a (fun xs => RL (fun d x => PyI.rep d x H) ds xs) ∧ (∀ d ∈ ds, PySrt.ok d) ∧
  ∀ p ys ds', ds'.Perm ds → Srtd PyO.lt ds' → H p = none → RL (fun d x => PyI.rep d x H) ds' ys → Q (.ref p) (upd H p (.lst ys))
theorem cr_sortedG (hcalm : X.calm = true) (hu : X.A.units + 64 < cLine) : CallR X (.builtin "sorted") rSortedG := by
  intro pins s σ H xs us Q I r q
  obtain ⟨α, o, srt, ds, a, rfl, c, hok, q⟩ := q
  obtain ⟨u, rfl, rx⟩ := vals1 r
  cases rx
  refine Calls.call_function_entry PyProof.Rows.kind_sorted PyProof.Rows.plain_sorted PyProof.Rows.entry_sorted (PyProof.Rows.args_sorted1 _) ?_
  unfold Builtin.«sorted»
  refine wpAny_bind (m := checkCount "sorted" 1 1 _) (wpAny_pure ?_)
  refine wpAny_bind (collect_coll hcalm (A := X.A.in1) (I.ok.hd hcalm) I c fun h' tk us xs hk hv hr hz => ?_)
  have I1 : Inv X pins σ H { s with heap := h', toks := tk } := I.kept hk
  refine wpAny_bind (wpAny_newList ?_ hz)
  have hoL : (h'.push (seqObj "list" us.toArray 0)).get? h'.objs.size = some (seqObj "list" us.toArray 0) := Heap.get?_push_size _ rfl
  show wpAny _ _ _ _ _ { s with heap := h'.push (seqObj "list" us.toArray 0), toks := tk }
  -- the data of the values
  have hvl : VL (fun d u => PyO.vr d u h') ds us := vals_vl hr hv fun d x u r rv => PyO.of_rep I1.hok r rv
  have hex : ∀ u ∈ us, ∃ d ∈ ds, PyO.vr d u h' := fun u hm => by
    obtain ⟨i, hi⟩ := List.mem_iff_getElem?.mp hm
    have hi' : i < ds.length := by rw [hvl.1]; exact (List.getElem?_eq_some_iff.mp hi).1
    exact ⟨ds[i], List.getElem_mem hi', hvl.2 i _ u (List.getElem?_eq_getElem hi') hi⟩
  by_cases h0 : ds = []
  · -- nothing to sort
    subst h0
    have e0 : us = [] := List.eq_nil_of_length_eq_zero hvl.1.symm
    subst e0
    refine wpAny_bind (wpAny_holding (wpAny_call_entry PyProof.Rows.slot_list_sort ⟨_, hoL, rfl⟩ PyProof.Rows.entry_list_sort
      (list_sort_ord (ltv := fun _ _ => false) (s := { s with heap := h'.push (seqObj "list" ([] : List Value).toArray 0), toks := tk }) ⟨fun _ _ h => (by cases h), fun _ _ _ h _ => h⟩ hoL hz (fun h2 => absurd h2 (by decide)) fun out h1 h2 => ⟨_, rfl, ?_⟩) (PyProof.Rows.args_list_sort _)))
    have e1 : out = [] := List.eq_nil_of_length_eq_zero (by rw [h2.len]; rfl)
    subst e1
    obtain ⟨ep, he'⟩ := PyProof.Rows.sortedHeap_at (vs := ([] : List Value)) (out := ([] : List Value).toArray) hoL
    refine wpAny_pure ⟨_, rfl, .ref h'.objs.size, upd H h'.objs.size (.lst []), ?_, rfl, q _ [] [] (List.Perm.refl _) List.Pairwise.nil (I1.hok.fresh (Nat.le_refl _)) RL.nil⟩
    refine I1.laid (t' := tk) (o := .lst []) (fun b o e => ?_) (Nat.le_refl _) ⟨Nat.zero_le _, [], _, .nil, he'⟩
    rw [PyProof.Rows.sortedHeap_old (Nat.ne_of_lt (Heap.lt_size e)) (by rw [Heap.size_push]; exact Nat.lt_succ_of_lt (Heap.lt_size e))]
    exact Heap.get?_push_of_some _ e
  · obtain ⟨d0, hd0⟩ : ∃ d, d ∈ ds := by cases ds with
      | nil => exact absurd rfl h0
      | cons d l => exact ⟨d, List.mem_cons_self⟩
    obtain ⟨k, hk0⟩ : ∃ k : Value → α, ∀ u, (∃ d ∈ ds, PyO.vr d u h') → k u ∈ ds ∧ PyO.vr (k u) u h' := by
      classical
      refine ⟨fun u => if h : ∃ d ∈ ds, PyO.vr d u h' then h.choose else d0, fun u h => ?_⟩
      simp only [dif_pos h]
      exact h.choose_spec
    have hk1 : ∀ u ∈ us, k u ∈ ds ∧ PyO.vr (k u) u h' := fun u hm => hk0 u (hex u hm)
    have hks : us.map k = ds := by
      refine List.ext_getElem? fun i => ?_
      rw [List.getElem?_map]
      by_cases hi : i < us.length
      · have hi' : i < ds.length := by rw [hvl.1]; exact hi
        rw [List.getElem?_eq_getElem hi, List.getElem?_eq_getElem hi']
        exact congrArg some (PyO.vfn (hk1 _ (List.getElem_mem hi)).2 (hvl.2 i _ _ (List.getElem?_eq_getElem hi') (List.getElem?_eq_getElem hi)))
      · rw [List.getElem?_eq_none (by omega), List.getElem?_eq_none (by have := hvl.1; omega)]
        rfl
    have vkeep : ∀ u ∈ us, ∀ h2 : Heap, (∀ b o, h'.get? b = some o → h2.get? b = some o) → PyO.vr (k u) u h2 := fun u hm h2 kk => PyO.vkeep (fun b o e _ => kk b o e) (hk1 u hm).2
    refine wpAny_bind (wpAny_holding (wpAny_call_entry PyProof.Rows.slot_list_sort ⟨_, hoL, rfl⟩ PyProof.Rows.entry_list_sort
      (list_sort_ord (ltv := fun u v => PyO.lt (k u) (k v)) (s := { s with heap := h'.push (seqObj "list" us.toArray 0), toks := tk }) ⟨fun x y => PyO.asym _ _, fun x y z => PyO.ntr _ _ _⟩ hoL hz
        (fun h2 => PySrt.srt (s := { s with heap := h'.push (seqObj "list" us.toArray 0), toks := tk }) k (by show X.A.in1.in1.units + 62 < cLine; rw [units_in1, units_in1]; omega) (fun u hm => ⟨vkeep u hm _ fun b o e => Heap.get?_push_of_some _ e, hok _ (hk1 u hm).1⟩) h2 fun o e c => by
          have e' : some o = some (seqObj "list" us.toArray 0) := e.symm.trans hoL
          cases e'
          exact absurd (Value.type.inj c) (by decide))
        fun out h1 h2 => ⟨_, rfl, ?_⟩) (PyProof.Rows.args_list_sort _)))
    have hperm : out.Perm us := h2.perm
    obtain ⟨ep, he'⟩ := PyProof.Rows.sortedHeap_at (vs := us) (out := out.toArray) hoL
    -- the values again as V
    have hback : ∃ ys : List V, Vals ys out ∧ RL (fun d x => PyI.rep d x H) (out.map k) ys := by
      have step : ∀ l : List Value, (∀ u ∈ l, u ∈ us) → ∃ ys : List V, Vals ys l ∧ RL (fun d x => PyI.rep d x H) (l.map k) ys := by
        intro l
        induction l with
        | nil => intro _; exact ⟨[], .nil, RL.nil⟩
        | cons u l ih =>
          intro hm
          obtain ⟨ys, y1, y2⟩ := ih fun v hv => hm v (List.mem_cons_of_mem _ hv)
          obtain ⟨i, hi⟩ := List.mem_iff_getElem?.mp (hm u List.mem_cons_self)
          have hlen : i < us.length := (List.getElem?_eq_some_iff.mp hi).1
          have hx : i < xs.length := by rw [hv.length]; exact hlen
          obtain ⟨u', hu', ru⟩ := hv.get (List.getElem?_eq_getElem hx)
          rw [hi] at hu'
          cases hu'
          have hdi : ds[i]? = some (k u) := by
            rw [← hks, List.getElem?_map, hi]
            rfl
          exact ⟨xs[i] :: ys, .cons ru y1, RL.cons (hr.2 i _ _ hdi (List.getElem?_eq_getElem hx)) y2⟩
      exact step out fun u hu => hperm.mem_iff.mp hu
    obtain ⟨ys, hys, hrl⟩ := hback
    have hzo : ys.length ≤ sizeLine := by rw [hys.length, hperm.length_eq]; exact hz
    refine wpAny_pure ⟨_, rfl, .ref h'.objs.size, upd H h'.objs.size (.lst ys), ?_, rfl, q _ ys (out.map k) (by rw [← hks]; exact hperm.map k) (srtd_map h1) (I1.hok.fresh (Nat.le_refl _)) hrl⟩
    refine I1.laid (t' := tk) (o := .lst ys) (fun b o e => ?_) (Nat.le_refl _) ⟨hzo, out, _, hys, he'⟩
    rw [PyProof.Rows.sortedHeap_old (Nat.ne_of_lt (Heap.lt_size e)) (by rw [Heap.size_push]; exact Nat.lt_succ_of_lt (Heap.lt_size e))]
    exact Heap.get?_push_of_some _ e
end
end Zw
/-! Z8: dicts with tuple keys and int keys, typed; sorted, < typed. -/
namespace Zw
open PySem L2 RZ PySem.Spec PyProof.Rows SrtO PySem.SeqAt Ob

def tDispT1 (tk tv : TE) : TE := fun σ H Q => ∀ p, H p = none → tk σ (upd H p (.dT [])) fun x H1 => tv σ H1 fun y H2 => ∃ (ks : List Key) (b : Addr), x = .ref b ∧ H2 b = some (.tup (ks.map kV)) ∧ H2 p = some (.dT []) ∧ Q (.ref p) (upd H2 p (.dT [(ks, y)]))
theorem pe_dispT1 {X : Cx} {pos : Pos} {k v : Expr} {tk tv : TE} (hu : X.A.units + 2 < cLine) (hk : PE X k tk) (hv : PE X v tv) : PE X (.Dict [some k] [v] pos) (tDispT1 tk tv) := by
  refine ⟨fun pins s σ H Q I q => ?_⟩
  have hn := I.hok.fresh (Nat.le_refl s.heap.objs.size)
  have I1 := I.laid (a := s.heap.objs.size) (o := .dT []) (h' := s.heap.push { cls := .type "dict", data := .dict #[] }) (t' := s.toks) (fun _ _ q => Heap.get?_push_of_some _ q) (Nat.le_refl _) (dt_empty s.heap I.big)
  rw [arm_eval_Dict]
  have hshape : (evalEachOpt [some k] X.env).zip ((evalEach [v] X.env).map fun v => do let x ← v; standAt pos; pure x) = (pairTrees [some k] [v] X.env pos).map fun p => (some p.1, p.2) := by rfl
  rw [hshape, dictDisplay_pairs (pairTrees [some k] [v] X.env pos) (by intro z; cases z) (show 1 < 17 by decide)]
  refine wpAny_bind (wpAny_standAt (wpAny_bind (wpAny_subDictH (knd := tupleKind (mixKind X.prog X.w)) (Q := fun d s' => wpAny (model X.prog X.w) X.A (pure (Value.ref d)) (EP X pins σ Q) X.xe s') (show X.A.units < cLine by omega) (show 1 ≤ 15 by decide) ?_)))
  have run := (pps_cons hk hv pps_nil : PPs X pos [some k] [v] [(tk, tv)]).run pins _ σ _ (fun ps H2 => ∃ x y, ps = [(x, y)] ∧ ∃ (ks : List Key) (b : Addr), x = .ref b ∧ H2 b = some (.tup (ks.map kV)) ∧ H2 s.heap.objs.size = some (.dT []) ∧ Q (.ref s.heap.objs.size) (upd H2 s.heap.objs.size (.dT [(ks, y)]))) I1 ?_
  · refine thn run fun vs s2 ⟨ps, H2, I2, rel, x, y, eps, ks, b, ex, hb, hp, q2⟩ => ?_
    subst eps ex
    cases rel with
    | @cons p0 q0 ps0 qs0 hpq ht =>
      cases ht
      obtain ⟨ku, vu⟩ := q0
      obtain ⟨rk, rv⟩ := hpq
      cases (show ku = Value.ref b from rk)
      refine ⟨[(ks, b, vu)], ⟨rfl, rfl, key_of I2.hok hb, trivial⟩, ?_, fun h' tk' dd' hs => wpAny_pure ⟨.ref s.heap.objs.size, _, ?_, rfl, q2⟩⟩
      · obtain ⟨z, hd, xs, rel, dd⟩ := dt_of I2.hok hp
        cases rel
        exact dd
      · obtain ⟨z, hd, xs, rel, dd⟩ := dt_of I2.hok hp
        obtain ⟨q, es, ep, hq, h2, h3, h4, _, h5⟩ := dd'
        have h4' : es.toList = [(ks, b, vu)].map (entryOfKey (tupleKind (mixKind X.prog X.w))) := h4
        refine d_write I2 (by rw [hp]; exact True.intro) hs ⟨q, hq⟩ ⟨by show 1 ≤ sizeLine; decide, hd, [(ks, b, vu)], .cons ⟨rfl, ?_, rv⟩ .nil, q, es, ep, hq, h2, h3, h4', by simp⟩
        rw [upd_ne (ne_of hb hp (fun z => nomatch z))]
        exact hb
  · have h := q _ hn
    show tk σ (upd H s.heap.objs.size (.dT [])) fun x H1 => tv σ H1 fun y H2 => _
    have e : (fun (x : V) (H1 : Hp) => tv σ H1 fun y H2 => ∃ x_1 y_1, [(x, y)] = [(x_1, y_1)] ∧ ∃ (ks : List Key) (b : Addr), x_1 = .ref b ∧ H2 b = some (.tup (ks.map kV)) ∧ H2 s.heap.objs.size = some (.dT []) ∧ Q (.ref s.heap.objs.size) (upd H2 s.heap.objs.size (.dT [(ks, y_1)]))) =
        fun x H1 => tv σ H1 fun y H2 => ∃ (ks : List Key) (b : Addr), x = .ref b ∧ H2 b = some (.tup (ks.map kV)) ∧ H2 s.heap.objs.size = some (.dT []) ∧ Q (.ref s.heap.objs.size) (upd H2 s.heap.objs.size (.dT [(ks, y)])) := by
      funext x H1
      congr 1
      funext y H2
      refine propext ⟨fun ⟨x1, y1, e, h⟩ => ?_, fun h => ⟨x, y, rfl, h⟩⟩
      cases e
      exact h
    exact e ▸ h

/-! ### typed -/
def PL {α β : Type} (R : α → β → Prop) (l : List α) (m : List β) : Prop := l.length = m.length ∧ ∀ (i : Nat) a b, l[i]? = some a → m[i]? = some b → R a b
theorem PL.nil {α β : Type} {R : α → β → Prop} : PL R [] [] := ⟨rfl, fun i d x h => by simp at h⟩
theorem PL.mono {α β : Type} {R R' : α → β → Prop} {l : List α} {m : List β} (h : PL R l m) (k : ∀ a b, R a b → R' a b) : PL R' l m := ⟨h.1, fun i a b x y => k a b (h.2 i a b x y)⟩
theorem PL.cons {α β : Type} {R : α → β → Prop} {a : α} {b : β} {l : List α} {m : List β} (h : R a b) (t : PL R l m) : PL R (a :: l) (b :: m) := by
  refine ⟨by simp [t.1], fun i d' x' p q => ?_⟩
  cases i with
  | zero => simp at p q; rw [← p, ← q]; exact h
  | succ i => simp at p q; exact t.2 i d' x' p q
theorem PL.uncons {α β : Type} {R : α → β → Prop} {a : α} {l : List α} {m : List β} (h : PL R (a :: l) m) : ∃ b m', m = b :: m' ∧ R a b ∧ PL R l m' := by
  cases m with
  | nil => exact absurd h.1 (by simp)
  | cons y ys => exact ⟨y, ys, rfl, h.2 0 a y rfl rfl, by have := h.1; simpa using this, fun i d' x' a b => h.2 (i + 1) d' x' (by simpa using a) (by simpa using b)⟩
theorem PL.nil_inv {α β : Type} {R : α → β → Prop} {m : List β} (h : PL R ([] : List α) m) : m = [] := by
  cases m with
  | nil => rfl
  | cons y ys => exact absurd h.1 (by simp)
/-- a dict with tuples of ints for keys -/
structure DT (β : Type) where
  kv : List (List Int × β)
/-- a dict with ints for keys -/
structure DI (β : Type) where
  kv : List (Int × β)
def keyT (k : List Int) : List Key := k.map Sum.inl
theorem keyT_kV (k : List Int) : (keyT k).map kV = k.map V.int := by unfold keyT; rw [List.map_map]; rfl
theorem keyT_inj {k k' : List Int} (h : keyT k = keyT k') : k = k' := by
  have := congrArg (List.map fun (x : Key) => match x with | .inl i => i | .inr _ => 0) h
  unfold keyT at this
  rw [List.map_map, List.map_map] at this
  have e : ∀ l : List Int, l.map ((fun (x : Key) => match x with | .inl i => i | .inr _ => 0) ∘ Sum.inl) = l := fun l => by
    have : ((fun (x : Key) => match x with | .inl i => i | .inr _ => (0 : Int)) ∘ Sum.inl) = id := rfl
    rw [this, List.map_id]
  rw [e, e] at this
  exact this
def KR {β : Type} [PyI β] (H : Hp) (p : List Int × β) (q : List Key × V) : Prop := q.1 = keyT p.1 ∧ PyI.rep p.2 q.2 H
def KRI {β : Type} [PyI β] (H : Hp) (p : Int × β) (q : Key × V) : Prop := q.1 = Sum.inl p.1 ∧ PyI.rep p.2 q.2 H
theorem KR.keep {β : Type} [PyI β] {H H' : Hp} (k : TupK H H') {p : List Int × β} {q : List Key × V} (h : KR H p q) : KR H' p q := ⟨h.1, PyI.keep k h.2⟩
theorem KRI.keep {β : Type} [PyI β] {H H' : Hp} (k : TupK H H') {p : Int × β} {q : Key × V} (h : KRI H p q) : KRI H' p q := ⟨h.1, PyI.keep k h.2⟩
instance instDT {β : Type} [PyI β] : Py (DT β) := ⟨fun d v H => ∃ p kvs, v = .ref p ∧ H p = some (.dT kvs) ∧ PL (KR H) d.kv kvs, fun g ⟨p, kvs, e, h, r⟩ => ⟨p, kvs, e, g.dT h, r.mono fun _ _ z => z.keep g.tup⟩⟩
/-- look up, put -/
def lkD {κ β : Type} [DecidableEq κ] : List (κ × β) → κ → Option β
  | [], _ => none
  | (k, v) :: r, x => if k = x then some v else lkD r x
def putD {κ β : Type} [DecidableEq κ] (l : List (κ × β)) (k : κ) (v : β) : List (κ × β) :=
  if (l.any fun kv => decide (kv.1 = k)) = true then l.map (fun kv => if kv.1 = k then (kv.1, v) else kv) else l ++ [(k, v)]
theorem putD_length {κ β : Type} [DecidableEq κ] (x : κ) (y : β) (l : List (κ × β)) : (putD l x y).length ≤ l.length + 1 := by
  unfold putD
  split <;> simp
theorem PL.any {α β : Type} {R : α → β → Prop} {p : α → Bool} {q : β → Bool} (hpq : ∀ a b, R a b → p a = q b) : ∀ {l : List α} {m : List β}, PL R l m → l.any p = m.any q
  | [], m, h => by rw [h.nil_inv]; rfl
  | a :: l, m, h => by
    obtain ⟨b, m', rfl, r, t⟩ := h.uncons
    rw [List.any_cons, List.any_cons, hpq a b r, PL.any hpq t]
theorem PL.map {α β α' β' : Type} {R : α → β → Prop} {R' : α' → β' → Prop} {f : α → α'} {g : β → β'} (hfg : ∀ a b, R a b → R' (f a) (g b)) : ∀ {l : List α} {m : List β}, PL R l m → PL R' (l.map f) (m.map g)
  | [], m, h => by rw [h.nil_inv]; exact PL.nil
  | a :: l, m, h => by
    obtain ⟨b, m', rfl, r, t⟩ := h.uncons
    exact (PL.map hfg t).cons (hfg a b r)
theorem PL.snoc {α β : Type} {R : α → β → Prop} {a : α} {b : β} (hab : R a b) : ∀ {l : List α} {m : List β}, PL R l m → PL R (l ++ [a]) (m ++ [b])
  | [], m, h => by rw [h.nil_inv]; exact PL.nil.cons hab
  | a :: l, m, h => by
    obtain ⟨b, m', rfl, r, t⟩ := h.uncons
    exact (PL.snoc hab t).cons r
theorem put_KR {β : Type} [PyI β] {H : Hp} {k : List Int} {b : β} {v : V} (hb : PyI.rep b v H) {l : List (List Int × β)} {m : List (List Key × V)} (h : PL (KR H) l m) : PL (KR H) (putD l k b) (putK m (keyT k) v) := by
  unfold putD putK
  rw [PL.any (p := fun kv : List Int × β => decide (kv.1 = k)) (q := fun kv : List Key × V => decide (kv.1 = keyT k)) (fun a b r => decide_eq_decide.mpr ⟨fun e => by rw [r.1, e], fun e => keyT_inj (r.1.symm.trans e)⟩) h]
  split
  · refine PL.map (fun a c r => ?_) h
    by_cases e : a.1 = k
    · rw [if_pos e, if_pos (by rw [r.1, e])]
      exact ⟨r.1, hb⟩
    · rw [if_neg e, if_neg (by rw [r.1]; exact fun z => e (keyT_inj z))]
      exact r
  · exact h.snoc ⟨rfl, hb⟩
theorem put_KRI {β : Type} [PyI β] {H : Hp} {k : Int} {b : β} {v : V} (hb : PyI.rep b v H) {l : List (Int × β)} {m : List (Key × V)} (h : PL (KRI H) l m) : PL (KRI H) (putD l k b) (putK m (Sum.inl k) v) := by
  unfold putD putK
  rw [PL.any (p := fun kv : Int × β => decide (kv.1 = k)) (q := fun kv : Key × V => decide (kv.1 = Sum.inl k)) (fun a b r => decide_eq_decide.mpr ⟨fun e => by rw [r.1, e], fun e => Sum.inl.inj (r.1.symm.trans e)⟩) h]
  split
  · refine PL.map (fun a c r => ?_) h
    by_cases e : a.1 = k
    · rw [if_pos e, if_pos (by rw [r.1, e])]
      exact ⟨r.1, hb⟩
    · rw [if_neg e, if_neg (by rw [r.1]; exact fun z => e (Sum.inl.inj z))]
      exact r
  · exact h.snoc ⟨rfl, hb⟩
theorem lk_KR {β : Type} [PyI β] {H : Hp} {k : List Int} : ∀ {l : List (List Int × β)} {m : List (List Key × V)}, PL (KR H) l m → match lkD l k with | none => valV m (keyT k) = none | some b => ∃ v, valV m (keyT k) = some v ∧ PyI.rep b v H
  | [], m, h => by rw [h.nil_inv]; rfl
  | (k', b) :: l, m, h => by
    obtain ⟨q, m', rfl, r, t⟩ := h.uncons
    unfold lkD
    by_cases e : k' = k
    · rw [if_pos e]
      exact ⟨q.2, valV_pos (by rw [r.1, e]), r.2⟩
    · rw [if_neg e]
      have ih := lk_KR (k := k) t
      rw [valV_neg (by rw [r.1]; exact fun z => e (keyT_inj z))]
      exact ih
theorem lk_KRI {β : Type} [PyI β] {H : Hp} {k : Int} : ∀ {l : List (Int × β)} {m : List (Key × V)}, PL (KRI H) l m → match lkD l k with | none => valV m (Sum.inl k) = none | some b => ∃ v, valV m (Sum.inl k) = some v ∧ PyI.rep b v H
  | [], m, h => by rw [h.nil_inv]; rfl
  | (k', b) :: l, m, h => by
    obtain ⟨q, m', rfl, r, t⟩ := h.uncons
    unfold lkD
    by_cases e : k' = k
    · rw [if_pos e]
      exact ⟨q.2, valV_pos (by rw [r.1, e]), r.2⟩
    · rw [if_neg e]
      have ih := lk_KRI (k := k) t
      rw [valV_neg (by rw [r.1]; exact fun z => e (Sum.inl.inj z))]
      exact ih
/-! the keys of a typed dict -/
def keysD {κ β : Type} (l : List (κ × β)) : List κ := l.map (·.1)
theorem lkD_isSome {κ β : Type} [DecidableEq κ] (x : κ) : ∀ l : List (κ × β), (lkD l x).isSome = decide (x ∈ keysD l)
  | [] => by simp [lkD, keysD]
  | (k, v) :: r => by
    unfold lkD keysD
    by_cases e : k = x
    · rw [if_pos e]; simp [e]
    · have e2 : ¬ x = k := fun z => e z.symm
      rw [if_neg e, lkD_isSome x r]
      exact decide_eq_decide.mpr (by simp [keysD, e2])
section
variable {K : PySem.W.Frag} {σ : L2.St} {H Hb : Hp} {ta tb tc td ty tv te tl : TE} {α β : Type}
theorem tup_at {k : List Int} {v : V} {H : Hp} (h : Py.rep k v H) : ∃ b, v = .ref b ∧ H b = some (.tup ((keyT k).map kV)) := by
  obtain ⟨p, xs, e, hp, r⟩ := h
  exact ⟨p, e, by rw [keyT_kV, hp, ints_of r]⟩
theorem ev_inDT [PyI β] {k : List Int} {d : DT β} (hk : Ev ty σ H k) (hd : Ev td σ H d) : Ev (tDIn ty td) σ H (lkD d.kv k).isSome := fun H1 g Q q => hk H1 g _ fun k' y H2 e g2 ry => hd H2 (g.trans g2) _ fun d' x H3 e' g3 ⟨p, kvs, ep, hp, r⟩ => by
  subst e e'
  obtain ⟨b, eb, hb⟩ := tup_at (Py.mono g3 ry)
  subst ep eb
  refine ⟨p, _, rfl, DGet.t hp hb, ?_⟩
  have l := lk_KR (k := k') r
  have e : (valV kvs (keyT k')).isSome = (lkD d'.kv k').isSome := by
    cases q : lkD d'.kv k' with
    | none => rw [q] at l; rw [l]; rfl
    | some z => rw [q] at l; obtain ⟨v, hv, _⟩ := l; rw [hv]; rfl
  rw [e]
  exact q _ _ H3 rfl (g2.trans g3) rfl
theorem ev_notInDT [PyI β] {k : List Int} {d : DT β} (hk : Ev ty σ H k) (hd : Ev td σ H d) : Ev (tDNotIn ty td) σ H (!(lkD d.kv k).isSome) := fun H1 g Q q => hk H1 g _ fun k' y H2 e g2 ry => hd H2 (g.trans g2) _ fun d' x H3 e' g3 ⟨p, kvs, ep, hp, r⟩ => by
  subst e e'
  obtain ⟨b, eb, hb⟩ := tup_at (Py.mono g3 ry)
  subst ep eb
  refine ⟨p, _, rfl, DGet.t hp hb, ?_⟩
  have l := lk_KR (k := k') r
  have e : (valV kvs (keyT k')).isSome = (lkD d'.kv k').isSome := by
    cases q : lkD d'.kv k' with
    | none => rw [q] at l; rw [l]; rfl
    | some z => rw [q] at l; obtain ⟨v, hv, _⟩ := l; rw [hv]; rfl
  rw [e]
  exact q _ _ H3 rfl (g2.trans g3) rfl
theorem ev_getDT [PyI β] {k : List Int} {d : DT β} {b : β} (hd : Ev td σ H d) (hk : Ev ty σ H k) (hl : lkD d.kv k = some b) : Ev (tDGet td ty) σ H b := fun H1 g Q q => hd H1 g _ fun d' x H2 e g2 rd => hk H2 (g.trans g2) _ fun k' y H3 e' g3 ry => by
  obtain ⟨p, kvs, ep, hp, r⟩ := Py.mono g3 rd
  subst e e'
  obtain ⟨b', eb, hb⟩ := tup_at ry
  subst ep eb
  have l := lk_KR (k := k') r
  rw [hl] at l
  obtain ⟨v, hv, rv⟩ := l
  exact ⟨p, v, rfl, by have := DGet.t hp hb (k := keyT k'); rw [hv] at this; exact this, q _ v H3 rfl (g2.trans g3) rv⟩
variable {D : Ends} {tz : TS}
/-- d[k] = v, the dict in a slot -/
theorem s_putDT [PyI β] {p : Addr} {i : Nat} {kv : List (List Int × β)} {Pk : List Int → Prop} {Pv : β → Prop} (hp : Py.rep (DT.mk kv) (.ref p) H) (hi : σ[i]? = some (some (.ref p))) (hk : Ed ty σ H Pk) (hv : Ed tv σ H Pv) (hz : kv.length < 100000)
    (kk : ∀ k b H2, Pk k → Pv b → Mu p H H2 → Py.rep (DT.mk (putD kv k b)) (.ref p) H2 → D.nx σ H2) : sDPut (tVar i) ty tv D σ H := by
  refine hv H (Gr.refl H) _ fun b y H1 pb g1 ry => ⟨_, hi, ?_⟩
  refine hk H1 g1 _ fun k z H2 pk g2 rz => ?_
  obtain ⟨p', kvs, e, hp', r⟩ := Py.mono (g1.trans g2) hp
  cases e
  obtain ⟨b', eb, hb⟩ := tup_at rz
  subst eb
  have hzl : kvs.length < sizeLine := by rw [← r.1]; exact Nat.lt_of_lt_of_le hz (by decide)
  refine ⟨p, _, rfl, DPut.t hp' hb hzl, ?_⟩
  have tk : TupK H2 (upd H2 p (.dT (putK kvs (keyT k) y))) := TupK.put hp' (fun _ z => nomatch z)
  exact kk k b _ pk pb ⟨H2, _, _, g1.trans g2, hp', (fun _ z => nomatch z), (by intro _ _ _ _ _ z; cases z), rfl⟩ ⟨p, _, rfl, upd_same, (put_KR (Py.mono g2 ry) r).mono fun _ _ z => z.keep tk⟩
theorem q_putDT [PyI β] {p : Addr} {i : Nat} {kv : List (List Int × β)} {Pk : List Int → Prop} {Pv : β → Prop} (hp : Py.rep (DT.mk kv) (.ref p) H) (hi : σ[i]? = some (some (.ref p))) (hk : Ed ty σ H Pk) (hv : Ed tv σ H Pv) (hz : kv.length < 100000)
    (kk : ∀ k b H2, Pk k → Pv b → Mu p H H2 → Py.rep (DT.mk (putD kv k b)) (.ref p) H2 → tz D σ H2) : tSeq (sDPut (tVar i) ty tv) tz D σ H := s_putDT (D := { D with nx := tz D }) hp hi hk hv hz kk
theorem ev_newDT [PyI β] : Ev tDNewT σ H (DT.mk ([] : List (List Int × β))) := fun H1 g Q q p hp => q _ _ _ rfl (Gr.new hp) ⟨p, [], rfl, upd_same, PL.nil⟩
theorem ev_newL [Py α] : Ev (tLst tNil) σ H (Ls.mk ([] : List α)) := ev_lst eal_nil (Nat.zero_le _)
theorem ev_dispT1 [PyI β] {k : List Int} {b : β} (hk : Ev ty σ H k) (hv : Ev tv σ H b) : Ev (tDispT1 ty tv) σ H (DT.mk [(k, b)]) := fun H1 g Q q p hp => by
  refine hk _ (g.trans (Gr.new hp)) _ fun k' x H2 e g2 rx => hv H2 ((g.trans (Gr.new hp)).trans g2) _ fun b' y H3 e' g3 ry => ?_
  subst e e'
  obtain ⟨b0, eb, hb⟩ := tup_at (Py.mono g3 rx)
  have h0 : H3 p = some (.dT []) := (g2.trans g3).dT upd_same
  refine ⟨keyT k', b0, eb, hb, h0, q _ _ _ rfl (((Gr.new hp).trans (g2.trans g3)).mut hp h0 (fun _ z => nomatch z)) ⟨p, _, rfl, upd_same, PL.nil.cons ⟨rfl, ?_⟩⟩⟩
  exact PyI.keep (TupK.put h0 (fun _ z => nomatch z)) ry

/-! ### sorted -/
def sortO [PyO α] (l : List α) : List α := l.mergeSort (fun a b => !PyO.lt b a)
theorem sortO_perm [PyO α] (l : List α) : (sortO l).Perm l := List.mergeSort_perm l _
theorem sortO_srtd [PyO α] (l : List α) : Srtd PyO.lt (sortO l) := by
  have h := List.pairwise_mergeSort (le := fun (a b : α) => !PyO.lt b a) (fun a b c h1 h2 => by
    simp only [Bool.not_eq_true'] at h1 h2 ⊢
    exact PyO.ntr _ _ _ h1 h2) (fun a b => by
    cases q : PyO.lt b a with
    | false => rfl
    | true => rw [PyO.asym _ _ q]; rfl) l
  exact h.imp fun {a b} z => by simpa using z
theorem all_eq_replicate {l : List α} {x : α} (h : ∀ y ∈ l, y = x) : l = List.replicate l.length x := List.eq_replicate_of_mem h
theorem srtd_uniq [PyO α] {l m : List α} (hl : Srtd PyO.lt l) (hm : Srtd PyO.lt m) (hp : l.Perm m) : l = m := by
  refine stb_uniq PyO.swo hl hm ⟨hp, fun x => ?_⟩
  have hx : ∀ y, eqv PyO.lt x y = true → y = x := fun y h => by
    obtain ⟨h1, h2⟩ := eqv_iff.mp h
    exact (PyO.tri x y h1 h2).symm
  have hf := hp.filter (eqv PyO.lt x)
  rw [all_eq_replicate (l := l.filter (eqv PyO.lt x)) (x := x) fun y hy => hx y (List.mem_filter.mp hy).2, all_eq_replicate (l := m.filter (eqv PyO.lt x)) (x := x) fun y hy => hx y (List.mem_filter.mp hy).2, hf.length_eq]
theorem sortO_eq [PyO α] {l m : List α} (hl : Srtd PyO.lt m) (hp : m.Perm l) : m = sortO l := srtd_uniq hl (sortO_srtd l) (hp.trans (sortO_perm l).symm)
theorem ev_sortedC [PyO α] [PySrt α] {γ : Type} [Py γ] {d : γ} {ds : List α} (h : Ev te σ H d) (hc : ∀ v H', Py.rep d v H' → ∃ a, v = .ref a ∧ Coll H' a (fun xs => RL (fun d x => PyI.rep d x H') ds xs)) (hok : ∀ d ∈ ds, PySrt.ok d) : Ev (tCB rSortedG (tCons te tNil)) σ H (Ls.mk (sortO ds)) :=
  ev_cb1 h fun x H' r Q q => by
    obtain ⟨a, e, c⟩ := hc x H' r
    refine ⟨α, _, _, ds, a, by rw [e], c, hok, fun p ys ds' hp hs hn rl => q _ _ _ ?_ (Gr.new hn) ⟨p, ys, rfl, upd_same, rl.mono fun _ _ z => PyI.keep (TupK.new hn) z⟩⟩
    rw [sortO_eq hs hp]
theorem ev_sortedL [PyO α] [PySrt α] {ds : List α} (h : Ev te σ H (Ls.mk ds)) (hok : ∀ d ∈ ds, PySrt.ok d) : Ev (tCB rSortedG (tCons te tNil)) σ H (Ls.mk (sortO ds)) := ev_sortedC h (fun v H' ⟨p, xs, e, hp, r⟩ => ⟨p, e, .lst hp r⟩) hok
theorem ev_sortedT [PyO α] [PySrt α] {ds : List α} (h : Ev te σ H ds) (hok : ∀ d ∈ ds, PySrt.ok d) : Ev (tCB rSortedG (tCons te tNil)) σ H (Ls.mk (sortO ds)) := ev_sortedC h (fun v H' ⟨p, xs, e, hp, r⟩ => ⟨p, e, .tup hp r⟩) hok
theorem isKeys_RL {kv : List (List Int × β)} [PyI β] {kvs : List (List Key × V)} {H : Hp} : ∀ {bs : List Addr}, PL (KR H) kv kvs → IsKeys H kvs bs → RL (fun (d : List Int) x => PyI.rep d x H) (keysD kv) (bs.map V.ref) := by
  induction kv generalizing kvs with
  | nil =>
    intro bs h hk
    rw [h.nil_inv] at hk
    cases hk
    exact RL.nil
  | cons p kv ih =>
    intro bs h hk
    obtain ⟨q, m, rfl, r, t⟩ := h.uncons
    cases hk with
    | @cons a b as bs' h1 h2 =>
      refine RL.cons ?_ (ih t h2)
      refine ⟨b, p.1.map V.int, rfl, ?_, of_ints⟩
      rw [h1, r.1, keyT_kV]
theorem ev_sortedDT [PyI β] {d : DT β} (h : Ev te σ H d) (hok : ∀ k ∈ keysD d.kv, k ≠ []) : Ev (tCB rSortedG (tCons te tNil)) σ H (Ls.mk (sortO (keysD d.kv))) := ev_sortedC (α := List Int) (γ := DT β) (ds := keysD d.kv) h (fun v H' r0 => by obtain ⟨p, kvs, e, hp, r⟩ := r0; exact ⟨p, e, Coll.dT hp fun bs hb => isKeys_RL r hb⟩) hok

/-! ### < of data -/
def rLtG : R2 := fun x y H Q => ∃ (α : Type) (o : PyO α) (a b : α), PyI.rep a x H ∧ PyI.rep b y H ∧ PyO.dep α ≤ 60 ∧ Q (.bl (PyO.lt a b)) H
theorem op_ltG {X : Cx} (hu : X.A.units + 64 < cLine) : OpR X (compareOp .Lt) rLtG := by
  intro pins s σ H x y v u Q I rx ry h
  obtain ⟨α, o, a, b, ra, rb, hd, q⟩ := h
  have z := PyO.ltAt (A := X.A) (s := s) (by omega) (PyO.of_rep I.hok ra rx) (PyO.of_rep I.hok rb ry)
  exact z X.prog X.w X.xe (EP X pins σ Q) ⟨.bl _, H, I, rfl, q⟩
theorem ev_ltG [PyO α] {a b : α} (ha : Ev ta σ H a) (hb : Ev tb σ H b) (hd : PyO.dep α ≤ 60 := by decide) : Ev (tOp rLtG ta tb) σ H (PyO.lt a b) := ev_op ha hb fun x y H rx ry Q q => ⟨α, _, a, b, rx, ry, hd, q _ _ H rfl (Gr.refl H) rfl⟩
end
end Zw
/-! Z9: isinstance typed; hidden lists (a source of draws). -/
namespace Zw
open PySem L2 RZ PySem.Spec PyProof.Rows SrtO PySem.SeqAt Ob

/-! ### isinstance -/
class HasTy (α : Type) [Py α] where
  nm : String
  ok : ∀ {K : PySem.W.Frag} {d : α} {v : V} {H : Hp}, Py.rep d v H → TyX K H v (.type nm)
instance : HasTy Int := ⟨"int", fun h => by rw [show _ = V.int _ from h]; exact .base (.int _)⟩
instance : HasTy Bool := ⟨"bool", fun h => by rw [show _ = V.bl _ from h]; exact .base (.bl _)⟩
instance : HasTy Str := ⟨"str", fun h => by rw [show _ = V.str _ from h]; exact .base (.str _)⟩
instance {α : Type} [PyI α] : HasTy (List α) := ⟨"tuple", fun ⟨p, xs, e, h, _⟩ => by rw [e]; exact .base (.tup h)⟩
instance {α β : Type} [PyI α] [PyI β] : HasTy (α × β) := ⟨"tuple", fun ⟨p, x, y, e, h, _⟩ => by rw [e]; exact .base (.tup h)⟩
instance {α : Type} [Py α] : HasTy (Ls α) := ⟨"list", fun ⟨p, xs, e, h, _⟩ => by rw [e]; exact .base (.lst h)⟩
/-- a tuple of so many items -/
structure TupN where
  n : Nat
instance : PyI TupN := ⟨fun d v H => ∃ p xs, v = .ref p ∧ H p = some (.tup xs) ∧ xs.length = d.n, fun k ⟨p, xs, e, h, l⟩ => ⟨p, xs, e, k _ _ h, l⟩⟩
instance : HasTy TupN := ⟨"tuple", fun ⟨p, xs, e, h, _⟩ => by rw [e]; exact .base (.tup h)⟩
theorem tupN_list {α : Type} [PyI α] {l : List α} {v : V} {H : Hp} (h : Py.rep l v H) : Py.rep (TupN.mk l.length) v H := let ⟨p, xs, e, hp, r⟩ := h; ⟨p, xs, e, hp, r.1.symm⟩
theorem tupN_pair {α β : Type} [PyI α] [PyI β] {l : α × β} {v : V} {H : Hp} (h : Py.rep l v H) : Py.rep (TupN.mk 2) v H := let ⟨p, x, y, e, hp, _⟩ := h; ⟨p, [x, y], e, hp, rfl⟩
theorem pair_list {α : Type} [PyI α] {l : α × α} {v : V} {H : Hp} (h : Py.rep l v H) : Py.rep [l.1, l.2] v H := let ⟨p, x, y, e, hp, r1, r2⟩ := h; ⟨p, [x, y], e, hp, RL.cons r1 (RL.cons r2 RL.nil)⟩
section
variable {K : PySem.W.Frag} {σ : L2.St} {H Hb : Hp} {ta tb tc td ty tv te tl : TE} {α β : Type}
theorem ev_isi [Py α] [HasTy α] {d : α} {T : String} {b : Bool} (ha : Ev ta σ H d) (hk : kitB (HasTy.nm α) T = some b) : Ev (tCB (rIsi K) (tCons ta (tCons (tC (.ty T)) tNil))) σ H b := fun H1 g Q q => ha H1 g _ fun d' v H2 e g2 r =>
  ⟨v, .ty T, .type (HasTy.nm α), .type T, b, rfl, .ty T, HasTy.ok r, kit_ty hk, q _ _ H2 rfl g2 rfl⟩
theorem ev_cast [Py α] [Py β] {a : α} {b : β} (h : Ev te σ H a) (c : ∀ v H', Py.rep a v H' → Py.rep b v H') : Ev te σ H b := fun H1 g Q q => h H1 g _ fun d v H2 e g2 r => by subst e; exact q b v H2 rfl g2 (c v H2 r)
theorem ed_cast [Py α] [Py β] {P : α → Prop} {P' : β → Prop} (h : Ed te σ H P) (c : ∀ a v H', P a → Py.rep a v H' → ∃ b, P' b ∧ Py.rep b v H') : Ed te σ H P' := fun H1 g Q q => h H1 g _ fun d v H2 e g2 r => by obtain ⟨b, pb, rb⟩ := c d v H2 e r; exact q b v H2 pb g2 rb
end

/-! ### hidden lists -/
def hidL (a : Addr) (Pr : List V → Prop) : HO := .ext fun h => ∃ (xs : List V) (its : List Value) (n : Nat), Pr xs ∧ xs.length ≤ sizeLine ∧ Vals xs its ∧ h.get? a = some { cls := .type "list", data := .seq its.toArray n }
def plainO : HO → Bool
  | .lst _ => true
  | .ext _ => true
  | _ => false
theorem hok_shift {P : Program} {w : World} {H : Hp} {h : Heap} {t : Addr} {o o' : HO} (ok : HOk P w H h) (ht : H t = some o) (po : plainO o = true) (new : ObjOk P w (upd H t o') h t o') : HOk P w (upd H t o') h := fun b u e => by
  by_cases hb : b = t
  · subst hb
    rw [upd_same] at e
    cases e
    exact new
  · rw [upd_ne hb] at e
    refine (ok b u e).stay (fun c v _ q => q) (fun c q => ?_) fun c xs q => ?_
    · rw [upd_ne (fun z => by rw [z, ht] at q; cases q; cases po)]; exact q
    · rw [upd_ne (fun z => by rw [z, ht] at q; cases q; cases po)]; exact q
theorem hid_ok {P : Program} {w : World} {H H' : Hp} {h : Heap} {t : Addr} {xs : List V} {Pr : List V → Prop} (x : ObjOk P w H h t (.lst xs)) (p : Pr xs) : ObjOk P w H' h t (hidL t Pr) := by
  obtain ⟨z, its, n, v, e⟩ := x
  refine ⟨⟨xs, its, n, p, z, v, e⟩, ⟨_, e⟩, fun h1 h2 ⟨xs, its, n, a, b, c, d⟩ k => ⟨xs, its, n, a, b, c, k _ d⟩⟩
theorem un_in {H : Hp} {h : Heap} {fs : List Addr} {H' : Hp} {h' : Heap} {t : Addr} {o o' : HO} (ht : H t = some o) (po : plainO o = true) (u : Un fs [] (upd H t o') H' h h') : Un fs [] H H' h h' where
  keep := fun b ob q n hb he => u.keep b ob q (by rw [upd_ne (fun z => by rw [z, ht] at n; cases n)]; exact n) hb he
  slot := fun b ob q n hb he => u.slot b ob q (by rw [upd_ne (fun z => by rw [z, ht] at n; cases n)]; exact n) hb he
  free := fun b ob q n he => u.free b ob q (by rw [upd_ne (fun z => by rw [z, ht] at n; cases n)]; exact n) he
  there := u.there
  tups := fun b xs q => u.tups b xs (by rw [upd_ne (fun z => by rw [z, ht] at q; cases q; cases po)]; exact q)
  frzs := fun b ob x q => u.frzs b ob x (by rw [upd_ne (fun z => by rw [z, ht] at q; cases q; cases po)]; exact q)
  tbls := fun b ps q => u.tbls b ps (by rw [upd_ne (fun z => by rw [z, ht] at q; cases q; cases po)]; exact q)
theorem un_out {H : Hp} {h : Heap} {fs : List Addr} {H' : Hp} {h' : Heap} {t : Addr} {o o' : HO} (ht : H' t = some o) (po : plainO o = true) (u : Un fs [] H H' h h') : Un fs [] H (upd H' t o') h h' where
  keep := u.keep
  slot := u.slot
  free := fun b ob q n he => by
    have z := u.free b ob q n he
    rw [upd_ne (fun y => by rw [y, ht] at z; cases z)]
    exact z
  there := u.there
  tups := fun b xs q => by
    have z := u.tups b xs q
    rw [upd_ne (fun y => by rw [y, ht] at z; cases z; cases po)]
    exact z
  frzs := fun b ob x q => by
    have z := u.frzs b ob x q
    rw [upd_ne (fun y => by rw [y, ht] at z; cases z; cases po)]
    exact z
  tbls := fun b ps q => by
    obtain ⟨m, z⟩ := u.tbls b ps q
    exact ⟨m, by rw [upd_ne (fun y => by rw [y, ht] at z; cases z; cases po)]; exact z⟩
section
variable {P : Program} {w : World} {K : PySem.W.Frag} {mg : Str → Option Value} {base : Heap} {k : Nat} {f : Addr} {fd : FuncData} {ps : List Str} {sp sp' : Sp}
/-- a def that reads and writes a list that its callers do not see -/
theorem fn_hid (F : FnOk P w K mg base CX0 k f fd ps sp) (hl : ∀ vs H Q E, sp' vs H Q E → vs.length = ps.length)
    (hsp : ∀ vs H Q E, sp' vs H Q E → ∃ t Pr, H t = some (hidL t Pr) ∧ ∀ xs, Pr xs → sp vs (upd H t (.lst xs)) (fun v H' => ∃ xs', H' t = some (.lst xs') ∧ Pr xs' ∧ Q v (upd H' t (hidL t Pr))) E) : FnOk P w K mg base CX0 k f fd ps sp' := by
  refine ⟨hl, fun A outer s H args us vs Q E hr he hb hv hs => ?_⟩
  obtain ⟨t, Pr, ht, hx⟩ := hsp vs H Q E hs
  obtain ⟨⟨xs, its, n, px, z, vv, eo⟩, _, _⟩ := (show ObjOk P w H s.heap t (hidL t Pr) from he.hok t _ ht)
  have new : ObjOk P w (upd H t (.lst xs)) s.heap t (.lst xs) := ⟨z, its, n, vv, eo⟩
  have he' : Env0 P w K mg base A outer s (upd H t (.lst xs)) := ⟨he.frames, he.mod, fun b o q => ⟨(he.bs b o q).1, by
      have y := (he.bs b o q).2
      rw [upd_ne (fun z => by rw [z, ht] at y; cases y)]
      exact y⟩, he.bsz, he.funs, fun b hb => by
      have y := he.frf b hb
      rw [upd_ne (fun z => by rw [z, ht] at y; cases y)]
      exact y, hok_shift he.hok ht rfl new, he.bare⟩
  refine codeAny_mono (F.run A outer s _ args us vs _ E hr he' hb hv (hx xs px)) fun r s' hq => ?_
  cases r with
  | error e => exact hq
  | ok fl =>
    cases fl with
    | ret u =>
      obtain ⟨v, H', os, bare, un, hok, rv, xs', hx', px', q⟩ := hq
      exact ⟨v, _, os, bare, un_out hx' rfl (un_in ht rfl un), hok_shift hok hx' rfl (hid_ok (hok t _ hx') px'), rv, q⟩
    | next => exact hq
    | brk => exact hq
    | cont => exact hq
/-- a def whose answer is a list that is hidden from then on -/
theorem fn_hide (F : FnOk P w K mg base CX0 k f fd ps sp) (hl : ∀ vs H Q E, sp' vs H Q E → vs.length = ps.length)
    (hsp : ∀ vs H Q E, sp' vs H Q E → sp vs H (fun v H' => ∃ t xs Pr, H' t = some (.lst xs) ∧ Pr xs ∧ Q v (upd H' t (hidL t Pr))) E) : FnOk P w K mg base CX0 k f fd ps sp' := by
  refine ⟨hl, fun A outer s H args us vs Q E hr he hb hv hs => ?_⟩
  refine codeAny_mono (F.run A outer s _ args us vs _ E hr he hb hv (hsp vs H Q E hs)) fun r s' hq => ?_
  cases r with
  | error e => exact hq
  | ok fl =>
    cases fl with
    | ret u =>
      obtain ⟨v, H', os, bare, un, hok, rv, t, xs', Pr, hx', px', q⟩ := hq
      exact ⟨v, _, os, bare, un_out hx' rfl un, hok_shift hok hx' rfl (hid_ok (hok t _ hx') px'), rv, q⟩
    | next => exact hq
    | brk => exact hq
    | cont => exact hq
end
/-- a hand: what a law draws from -/
structure Hand where
def Phand (c : Addr) (xs : List V) : Prop := ∃ i l m n : Int, xs = [.ref c, .int i, .int l, .int m, .int n] ∧ 0 ≤ i
instance : Py Hand := ⟨fun _ v H => ∃ t c ns, v = .ref t ∧ H t = some (hidL t (Phand c)) ∧ H c = some (.lst (List.map V.int ns)), fun g ⟨t, c, ns, e, h, h2⟩ => ⟨t, c, ns, e, g.at h (fun z => nomatch z), g.lst h2⟩⟩
/-- a tape -/
structure Tape where
def Ptape (c : Addr) (xs : List V) : Prop := ∃ a b : Int, xs = [.int a, .int b, .ref c]
def Pcells (xs : List V) : Prop := ∃ ns : List Int, xs = ns.map V.int
instance : Py Tape := ⟨fun _ v H => ∃ t c, v = .ref t ∧ t ≠ c ∧ H t = some (hidL t (Ptape c)) ∧ H c = some (hidL c Pcells), fun g ⟨t, c, e, n, h, h2⟩ => ⟨t, c, e, n, g.at h (fun z => nomatch z), g.at h2 (fun z => nomatch z)⟩⟩
end Zw
/-! Z10: small things for the program's own defs. -/
namespace Zw
open PySem L2 RZ PySem.Spec PyProof.Rows SrtO
section
variable {K : PySem.W.Frag} {σ : L2.St} {H Hb : Hp} {ta tb tc td ty tv te tl : TE} {α β : Type}
theorem ev_lenN {t : TupN} (h : Ev te σ H t) : Ev (tCB (rLenA K) (tCons te tNil)) σ H (t.n : Int) := ev_cb1 h fun x H ⟨p, xs, e, hp, l⟩ Q q => ⟨x, t.n, rfl, by rw [e]; exact .inr ⟨xs, .of hp, l.symm⟩, q _ _ H rfl (Gr.refl H) rfl⟩
end
theorem sIx_one {n : Nat} : HT.sIx n 0 (some 1) = min 1 n := HT.sIx_nat n 0 1
theorem cutL_tail {α : Type} (l : List α) : cutL l (some 1) none = l.drop 1 := by
  unfold cutL
  rw [sIx_one, HT.sIx_none]
  cases l with
  | nil => rfl
  | cons a l =>
    have e : min 1 (a :: l).length = 1 := by simp
    rw [e]
    exact List.take_of_length_le (by simp)
theorem lt_all {α : Type} [PyO α] {ds : List α} (h : ds.Pairwise (fun a b => PyO.lt a b = true)) : (List.map (fun (d : α × α) => PyO.lt d.1 d.2) (ds.zip (cutL ds (some 1) none))).all id = true := by
  rw [cutL_tail]
  induction ds with
  | nil => rfl
  | cons a l ih =>
    cases l with
    | nil => rfl
    | cons b l =>
      have h1 := (List.pairwise_cons.mp h).1 b List.mem_cons_self
      have ih2 := ih (List.pairwise_cons.mp h).2
      show (PyO.lt a b && (List.map (fun (d : α × α) => PyO.lt d.1 d.2) ((b :: l).zip ((b :: l).drop 1))).all id) = true
      rw [h1, ih2]; rfl
theorem le_all {ds : List Int} (h : ds.Pairwise (· ≤ ·)) : (List.map (fun (d : Int × Int) => decide (d.1 ≤ d.2)) (ds.zip (cutL ds (some 1) none))).all id = true := by
  rw [cutL_tail]
  induction ds with
  | nil => rfl
  | cons a l ih =>
    cases l with
    | nil => rfl
    | cons b l =>
      have h1 := (List.pairwise_cons.mp h).1 b List.mem_cons_self
      have ih2 := ih (List.pairwise_cons.mp h).2
      show (decide (a ≤ b) && (List.map (fun (d : Int × Int) => decide (d.1 ≤ d.2)) ((b :: l).zip ((b :: l).drop 1))).all id) = true
      rw [ih2, decide_eq_true h1]; rfl
theorem putF_house {r : Int} {t l : Addr} : putF "looked" (V.ref l) (putF "doors" (V.ref t) (putF "rooms" (V.int r) [])) = hFields r t l := by
  have h1 : ¬ (("rooms" : Str) = "doors") := by decide +kernel
  have h2 : ¬ (("rooms" : Str) = "looked") := by decide +kernel
  have h3 : ¬ (("doors" : Str) = "looked") := by decide +kernel
  simp [putF, hFields, h1, h2, h3]
end Zw
/-! Z11: the rules with the written part named (in a comprehension the frame's own name of it is another). -/
namespace Zw
open PySem L2 RZ PySem.Spec PyProof.Rows SrtO
section
variable {X : Cx} {K : PySem.W.Frag}
theorem k_isi (h : X.K = K) : CallR X (.builtin "isinstance") (rIsi K) := h ▸ call_isi
theorem k_isiT (h : X.K = K) : CallR X (.builtin "isinstance") (rIsiT K) := h ▸ call_isiT
theorem k_len (h : X.K = K) : CallR X (.builtin "len") (rLenA K) := h ▸ call_len
theorem k_all (h : X.K = K) (c : X.calm = true) : CallR X (.builtin "all") (rAll K) := h ▸ cr_all c
theorem k_any (h : X.K = K) (c : X.calm = true) : CallR X (.builtin "any") (rAny K) := h ▸ cr_any c
theorem k_sum (h : X.K = K) (c : X.calm = true) : CallR X (.builtin "sum") (rSum K) := h ▸ cr_sum c
theorem k_max (h : X.K = K) (c : X.calm = true) : CallR X (.builtin "max") (rMax K) := h ▸ cr_max c
theorem k_min (h : X.K = K) (c : X.calm = true) : CallR X (.builtin "min") (rMin K) := h ▸ cr_min c
theorem k_tuple_of (h : X.K = K) : CallR X (.type "tuple") (rTupOf K) := h ▸ call_tuple_of
theorem k_list_of (h : X.K = K) : CallR X (.type "list") (rLstOf K) := h ▸ call_list_of
theorem k_ix_list (h : X.K = K) : IxR X (rIxL K) := h ▸ ix_list
theorem k_ix_tup (h : X.K = K) : IxR X (rIxT K) := h ▸ ix_tup
theorem k_sl_list (h : X.K = K) : SlR X (rSlL K) := h ▸ sl_list
theorem k_sl_tup (h : X.K = K) : SlR X (rSlA K) := h ▸ sl_tupA
theorem k_in_seq (h : X.K = K) : OpR X (compareOp .In) (rIn K false) := h ▸ op_in_seq
theorem k_notIn_seq (h : X.K = K) : OpR X (compareOp .NotIn) (rIn K true) := h ▸ op_notIn_seq
theorem k_eqD (h : X.K = K) (hu : X.A.units + 64 < cLine) : OpR X (compareOp .Eq) (rEqD K) := h ▸ op_eqD hu
theorem k_neD (h : X.K = K) (hu : X.A.units + 64 < cLine) : OpR X (compareOp .NotEq) (rNeD K) := h ▸ op_neD hu
theorem k_inD (h : X.K = K) (hu : X.A.units + 65 < cLine) : OpR X (compareOp .In) (rInD K) := h ▸ op_inD hu
theorem k_notInD (h : X.K = K) (hu : X.A.units + 65 < cLine) : OpR X (compareOp .NotIn) (rNotInD K) := h ▸ op_notInD hu
theorem k_catT (h : X.K = K) : OpR X (binaryOp .Add) (rCatA K) := h ▸ op_catA
variable {tg e o : Expr} {tl te to : TE} {ta : TA} {f : Str} {pos p : Pos}
theorem k_pi_list (h : X.K = K) (he : PE X e tl) : PI X tg e (iList K tl) := h ▸ pi_list he
theorem k_pi_tup (h : X.K = K) (he : PE X e tl) : PI X tg e (iTup K tl) := h ▸ pi_tup he
theorem k_pi_zip (h : X.K = K) {e2 : Expr} {tpos : Pos} {elts : List Expr} {kk : Nat} (hg : Gl X "zip") (hm : X.mg "zip" = none) (ha : PA X [e, e2] ta)
    (hs : starEach [e, e2] X.env = (false, eval e X.env) :: starEach [e2] X.env := by rfl) (hpl : (backTo pos (starEach [e2] X.env)).any (·.1) = false := by rfl) :
    PI X (.Tuple elts kk tpos) (.Call (.Name "zip" p) [e, e2] [] pos) (iZipA K ta) := h ▸ pi_zipA hg hm ha hs hpl
theorem k_pi_enum (h : X.K = K) {tpos : Pos} {elts : List Expr} {kk : Nat} (hg : Gl X "enumerate") (hm : X.mg "enumerate" = none) (ha : PA X [e] ta) (hs : starEach [e] X.env = [(false, eval e X.env)] := by rfl) :
    PI X (.Tuple elts kk tpos) (.Call (.Name "enumerate" p) [e] [] pos) (iEnum K ta) := h ▸ pi_enum hg hm ha hs
theorem k_pi_enumT (h : X.K = K) {tpos : Pos} {elts : List Expr} {kk : Nat} (hg : Gl X "enumerate") (hm : X.mg "enumerate" = none) (ha : PA X [e] ta) (hs : starEach [e] X.env = [(false, eval e X.env)] := by rfl) :
    PI X (.Tuple elts kk tpos) (.Call (.Name "enumerate" p) [e] [] pos) (iEnumT K ta) := h ▸ pi_enumT hg hm ha hs
theorem k_fld (h : X.K = K) (he : PE X e te) (hb : attributeBase e f X.env (eval e X.env) = eval e X.env) : PE X (.Attribute e f pos) (tFld K te f) := h ▸ pe_fld he hb
theorem k_pg_tup (h : X.K = K) {es : List Expr} {k : Nat} {t : TGs} {n : Nat} (hc : X.calm = true) (hg : PGs X es t)
    (hn : (assignEach es X.env).length = n) (hst : (assignEach es X.env).findIdx? (·.1) = none := by rfl) : PG X (.Tuple es k pos) (gTup K n t) := h ▸ pg_tup hc hg hn hst
theorem k_pg_attr (h : X.K = K) (ho : PE X o to) : PG X (.Attribute o f pos) (gAttr K to f) := h ▸ pg_attr ho
theorem k_ps_fld (h : X.K = K) {value : Expr} {tv : TE} {pos' : Pos} (ha : PE X o ta') (hv : PE X value tv) (hs : swapsWith value (some (.Attribute o f pos')) pos.line X.env = pure false) : PS X (.Assign [.Attribute o f pos'] value pos) (sFld K ta' tv f) := h ▸ ps_fld ha hv hs
end
end Zw
/-! Z12: lists of lists of one's own; what a house keeps. -/
namespace Zw
open PySem L2 RZ PySem.Spec PyProof.Rows SrtO
theorem k_bm {X : Cx} {K : PySem.W.Frag} (h : X.K = K) {o e : Expr} {es : List Expr} {to : TE} {t : TA} {name : Str} {apos cpos : Pos} {T id : String} {r : V → List V → Hp → VK → Prop}
    (pa : PlainAttrs T) (slot : Slot T name id) (hty : typeOf (.builtin id) = pure (.type "method_descriptor")) (hm : MtR X id r) (ho : PE X o to) (ha : PA X (e :: es) t)
    (hbase : attributeBase o name X.env (eval o X.env) = eval o X.env := by rfl)
    (hfew : ((backTo cpos (starEach (e :: es) X.env)).all (fun x => !x.1) && (backToKw cpos (keywordEach [] X.env)).all (fun x => x.1.isSome)
      && decide ((e :: es).length + ([] : List Keyword).length + (if ([] : List Keyword).isEmpty then 0 else 1) < 30)) = true := by rfl)
    (hline : (apos.endLine == cpos.line) = true := by rfl) (hs : starEach (e :: es) X.env = (false, eval e X.env) :: starEach es X.env := by rfl) (hplain : (backTo cpos (starEach es X.env)).any (·.1) = false := by rfl) :
    PE X (.Call (.Attribute o name apos) (e :: es) [] cpos) (tBM K T r to t) := h ▸ pe_bm pa slot hty hm ho ha hbase hfew hline hs hplain
theorem k_bm0 {X : Cx} {K : PySem.W.Frag} (h : X.K = K) {o : Expr} {to : TE} {name : Str} {apos cpos : Pos} {T id : String} {r : V → List V → Hp → VK → Prop}
    (pa : PlainAttrs T) (slot : Slot T name id) (hty : typeOf (.builtin id) = pure (.type "method_descriptor")) (hm : MtR X id r) (ho : PE X o to)
    (hbase : attributeBase o name X.env (eval o X.env) = eval o X.env := by rfl) (hline : (apos.endLine == cpos.line) = true := by rfl) : PE X (.Call (.Attribute o name apos) [] [] cpos) (tBM0 K T r to) := h ▸ pe_bm0 pa slot hty hm ho hbase hline

structure Nest {α : Type} [PyI α] (H0 H : Hp) (D : Addr) (as : List Addr) (vss : List (List α)) : Prop where
  out : H D = some (.lst (as.map V.ref))
  new : H0 D = none
  len : as.length = vss.length
  ins : ∀ (i : Nat) a vs, as[i]? = some a → vss[i]? = some vs → H0 a = none ∧ a ≠ D ∧ ∃ xs, H a = some (.lst xs) ∧ RL (fun d x => PyI.rep d x H) vs xs
  nd : as.Nodup
section
variable {K : PySem.W.Frag} {σ : L2.St} {H H0 H' : Hp} {ta tb tc te tj tl : TE} {tz tu : TS} {D : Ends} {α β γ : Type}
theorem Nest.gr [PyI α] {A : Addr} {as : List Addr} {vss : List (List α)} (n : Nest H0 H A as vss) (g : Gr H H') : Nest H0 H' A as vss :=
  ⟨g.lst n.out, n.new, n.len, fun i a vs h h' => by
    obtain ⟨h1, h2, xs, hx, r⟩ := n.ins i a vs h h'
    exact ⟨h1, h2, xs, g.lst hx, r.mono fun _ _ z => PyI.keep g.tup z⟩, n.nd⟩
theorem Nest.rep [PyI α] {A : Addr} {as : List Addr} {vss : List (List α)} (n : Nest H0 H A as vss) : Py.rep (Ls.mk (vss.map Ls.mk)) (.ref A) H :=
  ⟨A, _, rfl, n.out, by simp [n.len], fun i d x h h' => by
    rw [List.getElem?_map] at h h'
    cases e : vss[i]? with
    | none => rw [e] at h; cases h
    | some vs =>
      cases e' : as[i]? with
      | none => rw [e'] at h'; cases h'
      | some a =>
        rw [e] at h; rw [e'] at h'
        cases h; cases h'
        obtain ⟨h1, h2, xs, hx, r⟩ := n.ins i a vs e' e
        exact ⟨a, xs, rfl, hx, r⟩⟩
theorem rep_snocN [PyI α] {A : Addr} {as : List Addr} {n : Nat} {a : Addr} (N : Nest (α := α) H0 H A as (List.replicate n [])) (ha : H a = some (.lst [])) (h0 : H0 a = none) (hne : a ≠ A) (hnew : ∀ b ∈ as, b ≠ a) :
    Nest (α := α) H0 (upd H A (.lst (as.map V.ref ++ [V.ref a]))) A (as ++ [a]) (List.replicate (n + 1) []) := by
  refine ⟨by rw [upd_same]; simp, N.new, by simp [N.len], fun i b vs h h' => ?_, ?_⟩
  · have hv : vs = [] := by
      rw [List.getElem?_replicate] at h'
      split at h' <;> cases h'
      rfl
    subst hv
    have hl := N.len
    rw [List.length_replicate] at hl
    by_cases hi : i < as.length
    · rw [List.getElem?_append_left hi] at h
      obtain ⟨h1, h2, xs, hx, r⟩ := N.ins i b [] h (by rw [List.getElem?_replicate, if_pos (by omega)])
      rw [r.nil_inv] at hx
      exact ⟨h1, h2, [], by rw [upd_ne h2]; exact hx, RL.nil⟩
    · rw [List.getElem?_append_right (by omega)] at h
      have : i - as.length = 0 := by
        have := (List.getElem?_eq_some_iff.mp h).1
        simp at this; omega
      rw [this] at h
      simp at h
      subst h
      exact ⟨h0, hne, [], by rw [upd_ne hne]; exact ha, RL.nil⟩
  · rw [List.nodup_append]
    exact ⟨N.nd, by simp, fun b hb c hc => by simp at hc; subst hc; exact hnew b hb⟩
/-- x = [[] for j in ..] -/
theorem s_nest [PyI α] [Py β] {wi : TI} {i j : Nat} {vs : List Nat} {ds : List β} (hs : Src wi σ H ds) (hz : ds.length ≤ 100000) (hw : ∀ x, wipe ((wipe σ vs).set j (some x)) vs = wipe σ vs)
    (k : ∀ A as H2, Gr H H2 → Nest (α := α) H H2 A as (List.replicate ds.length []) → D.nx (σ.set i (some (.ref A))) H2) : tAsg (tLc wi (gName j) tYes (tLst tNil) vs) (gName i) D σ H := by
  refine hs H (Gr.refl H) _ fun J H2 g2 w A hA => ?_
  have gD : Gr H2 (upd H2 A (.lst [])) := Gr.new hA
  have hA0 : H A = none := g2.back hA
  refine ⟨fun i m H' => m = ds.length - i ∧ i ≤ ds.length ∧ Gr H2 H' ∧ ∃ as, Nest (α := α) H H' A as (List.replicate i []), ⟨ds.length, by simp, Nat.zero_le _, gD, [], ⟨upd_same, hA0, rfl, fun i a vs h => by simp at h, List.nodup_nil⟩⟩, ?_⟩
  rintro i m H3 ⟨rfl, hi, g3, as, N⟩
  by_cases hlt : i < ds.length
  · have hd : ds[i]? = some ds[i] := by simp [hlt]
    obtain ⟨hgo, hy⟩ := w.go H3 g3 i _ hd
    refine .inr ⟨hgo, fun H' => i + 1 ≤ ds.length ∧ Gr H2 H' ∧ ∃ as, Nest (α := α) H H' A as (List.replicate (i + 1) []), fun H' h => ⟨ds.length - (i + 1), by omega, rfl, h.1, h.2⟩, fun x H4 hyl => ?_⟩
    obtain ⟨g4, r4⟩ := hy x H4 hyl
    refine ⟨hw x, ?_⟩
    unfold tYes
    refine (fun z => (by simpa using z) : (tLst tNil ((wipe σ vs).set j (some x)) H4 fun y H4 => ∃ acc, H4 A = some (.lst acc) ∧ acc.length < sizeLine ∧ (i + 1 ≤ ds.length ∧ Gr H2 (upd H4 A (.lst (acc ++ [y]))) ∧ ∃ as, Nest (α := α) H (upd H4 A (.lst (acc ++ [y]))) A as (List.replicate (i + 1) []))) → _) ?_
    refine ⟨Nat.zero_le _, fun p hp => ?_⟩
    have N4 := N.gr g4
    have N5 : Nest (α := α) H (upd H4 p (.lst [])) A as (List.replicate i []) := N4.gr (Gr.new hp)
    have hl := N.len
    rw [List.length_replicate] at hl
    have pA : p ≠ A := fun e => by rw [e, N4.out] at hp; cases hp
    refine ⟨as.map V.ref, N5.out, by rw [List.length_map]; exact Nat.lt_of_lt_of_le (show as.length < 100001 by omega) (by decide), hlt, ?_, as ++ [p], ?_⟩
    · exact (g3.trans (g4.trans (Gr.new hp))).mut hA N5.out (fun _ z => nomatch z)
    · refine rep_snocN N5 upd_same (g2.back (g3.back (g4.back hp))) pA fun b hb e => ?_
      obtain ⟨q, hq⟩ := List.mem_iff_getElem?.mp hb
      have hql := (List.getElem?_eq_some_iff.mp hq).1
      obtain ⟨_, _, xs, hx, _⟩ := N4.ins q b [] hq (by rw [List.getElem?_replicate, if_pos (by omega)])
      rw [e, hp] at hx
      cases hx
  · have e : i = ds.length := by omega
    subst e
    exact .inl ⟨w.stop H3 g3, k A as H3 (g2.trans g3) N⟩
theorem q_nest [PyI α] [Py β] {wi : TI} {i j : Nat} {vs : List Nat} {ds : List β} (hs : Src wi σ H ds) (hz : ds.length ≤ 100000) (hw : ∀ x, wipe ((wipe σ vs).set j (some x)) vs = wipe σ vs)
    (k : ∀ A as H2, Gr H H2 → Nest (α := α) H H2 A as (List.replicate ds.length []) → tz D (σ.set i (some (.ref A))) H2) : tSeq (tAsg (tLc wi (gName j) tYes (tLst tNil) vs) (gName i)) tz D σ H := s_nest (D := { D with nx := tz D }) hs hz hw k
/-- x[k].append(e) -/
theorem s_nestApp [PyI α] {A : Addr} {as : List Addr} {vss : List (List α)} {i : Nat} {c : Int} {d : α} (N : Nest H0 H A as vss) (g0 : Gr H0 H) (hi : σ[i]? = some (some (.ref A))) (hj : Ev tj σ H c) (he : Ev te σ H d) {vs : List α} (hc : 0 ≤ c) (hv : vss[c.toNat]? = some vs) (hz : vs.length < 100000)
    (k : ∀ H2, Gr H0 H2 → TupK H H2 → Nest H0 H2 A as (vss.set c.toNat (vs ++ [d])) → D.nx σ H2) : tDrop (tBM K "list" rAppend (tOp (rIxL K) (tVar i) tj) (tCons te tNil)) D σ H := by
  refine ⟨_, hi, hj H (Gr.refl H) _ fun c' x H1 ec g1 rx => ?_⟩
  subst ec
  have N1 := N.gr g1
  have hcl : c'.toNat < vss.length := (List.getElem?_eq_some_iff.mp hv).1
  have ha : as[c'.toNat]? = some (as[c'.toNat]'(by rw [N.len]; exact hcl)) := by simp [N.len, hcl]
  generalize as[c'.toNat]'(by rw [N.len]; exact hcl) = a at ha
  obtain ⟨h1, h2, xs, hx, r⟩ := N1.ins _ a vs ha hv
  refine ⟨A, as.map V.ref, c', .ref a, rfl, rx, .inl (.of N1.out), ?_, ?_⟩
  · unfold L2.atI
    rw [List.length_map]
    have : ixN as.length c' = some c'.toNat := by
      unfold ixN
      rw [if_pos hc, if_pos (by rw [N.len]; omega)]
    rw [this]
    show (as.map V.ref)[c'.toNat]? = _
    rw [List.getElem?_map, ha]; rfl
  refine ⟨.inl ⟨rfl, xs, .of hx⟩, he H1 g1 _ fun d' y H2 ed g2 ry => ?_⟩
  subst ed
  have N2 := N1.gr g2
  have hx2 := g2.lst hx
  refine ⟨a, xs, y, rfl, rfl, hx2, by rw [← r.1]; exact Nat.lt_of_lt_of_le hz (by decide), ?_⟩
  have tk : TupK H2 (upd H2 a (.lst (xs ++ [y]))) := TupK.put hx2 (fun _ z => nomatch z)
  refine k _ (((g0.trans g1).trans g2).mut h1 hx2 (fun _ z => nomatch z)) ((g1.trans g2).tup.trans tk) ⟨?_, N.new, by simp [N.len], fun q b ws hb hw => ?_, N.nd⟩
  · rw [upd_ne (Ne.symm h2)]; exact N2.out
  · by_cases hq : q = c'.toNat
    · subst hq
      rw [ha] at hb
      cases hb
      rw [List.getElem?_set_self hcl] at hw
      cases hw
      exact ⟨h1, h2, _, upd_same, (r.mono fun _ _ z => PyI.keep (g2.tup.trans tk) z).snoc (PyI.keep tk ry)⟩
    · rw [List.getElem?_set_ne (fun z => hq z.symm)] at hw
      obtain ⟨h3, h4, ys, hy, ry'⟩ := N2.ins q b ws hb hw
      have : b ≠ a := fun e => by
        subst e
        have hql := (List.getElem?_eq_some_iff.mp hb).1
        have := (List.getElem?_inj hql N.nd).mp (hb.trans ha.symm)
        exact hq this
      exact ⟨h3, h4, ys, by rw [upd_ne this]; exact hy, ry'.mono fun _ _ z => PyI.keep tk z⟩
theorem q_nestApp [PyI α] {A : Addr} {as : List Addr} {vss : List (List α)} {i : Nat} {c : Int} {d : α} (N : Nest H0 H A as vss) (g0 : Gr H0 H) (hi : σ[i]? = some (some (.ref A))) (hj : Ev tj σ H c) (he : Ev te σ H d) {vs : List α} (hc : 0 ≤ c) (hv : vss[c.toNat]? = some vs) (hz : vs.length < 100000)
    (k : ∀ H2, Gr H0 H2 → TupK H H2 → Nest H0 H2 A as (vss.set c.toNat (vs ++ [d])) → tz D σ H2) : tSeq (tDrop (tBM K "list" rAppend (tOp (rIxL K) (tVar i) tj) (tCons te tNil))) tz D σ H := s_nestApp (D := { D with nx := tz D }) N g0 hi hj he hc hv hz k
/-- a list of whatever grows -/
theorem src_lstG [Py α] {ds : List α} (h : Ev tl σ H (Ls.mk ds)) : Src (iList K tl) σ H ds := fun H1 g R r => h H1 g _ fun d v H2 e g2 ⟨p, xs, ev, hp, rl⟩ => by
  subst e
  refine ⟨p, ev, ⟨xs, .of hp⟩, r _ H2 g2 ⟨fun H3 k => ⟨xs, .of (k.lst hp), by rw [rl.1]; exact Nat.le_refl _⟩, fun H3 k i d' hd => ?_⟩⟩
  obtain ⟨x, hx, rx⟩ := rl.get hd
  refine ⟨⟨xs, x, .of (k.lst hp), hx⟩, fun y H4 hy => ?_⟩
  obtain ⟨e4, hy⟩ := hy
  subst e4
  have e5 := hy xs (.of (k.lst hp))
  rw [hx] at e5
  cases e5
  exact ⟨Gr.refl _, Py.mono k rx⟩
/-- two ways to hold the same -/
class InjI (α : Type) [PyI α] : Prop where
  inj : ∀ {d e : α} {v : V} {H : Hp}, PyI.rep d v H → PyI.rep e v H → d = e
instance : InjI Int := ⟨fun h h' => by rw [h] at h'; injection h'⟩
instance [PyI α] [PyI β] [InjI α] [InjI β] : InjI (α × β) := ⟨fun ⟨p, x, y, e, h, a, b⟩ ⟨p', x', y', e', h', a', b'⟩ => by
  rw [e] at e'; cases e'; rw [h] at h'; cases h'
  exact Prod.ext (InjI.inj a a') (InjI.inj b b')⟩
instance [PyI α] [InjI α] : InjI (List α) := ⟨fun {d e v H} ⟨p, xs, ev, h, a⟩ ⟨p', xs', e', h', a'⟩ => by
  rw [ev] at e'; cases e'; rw [h] at h'; cases h'
  refine List.ext_getElem? fun i => ?_
  cases q : d[i]? with
  | none =>
    have := List.getElem?_eq_none_iff.mp q
    rw [List.getElem?_eq_none_iff.mpr (by rw [a'.1, ← a.1]; exact this)]
  | some z =>
    obtain ⟨x, hx, rx⟩ := a.get q
    obtain ⟨z', q', rz⟩ := a'.getR hx
    rw [q', InjI.inj rx rz]⟩
/-- the house's looked -/
theorem own_of {C : Addr} {h : Hs C} {p dx t l : Addr} (hp : H p = some (.ins C dx (hFields h.r t l))) (hn : Neat H) (ht : PyI.rep h.ds (.ref t) H) : Own H l (besM h.r h.ds) := fun p' C' dx' r' t' ds' hp' hd => by
  have e := hn.2 p p' C C' dx dx' h.r r' t t' l hp hp'
  subst e
  rw [hp] at hp'
  injection hp' with hp'
  injection hp' with _ _ e3
  unfold hFields at e3
  injection e3 with e4 e5
  injection e4 with _ e4
  injection e4 with e4
  injection e5 with e5 _
  injection e5 with _ e5
  injection e5 with e5
  subst e4 e5
  rw [InjI.inj ht hd]
theorem hF_inj {r r' : Int} {t t' l l' : Addr} (e : hFields r t l = hFields r' t' l') : r = r' ∧ t = t' ∧ l = l' := by
  unfold hFields at e
  injection e with e4 e5
  injection e4 with _ e4
  injection e4 with e4
  injection e5 with e5 e6
  injection e5 with _ e5
  injection e5 with e5
  injection e6 with e6 _
  injection e6 with _ e6
  injection e6 with e6
  exact ⟨e4, e5, e6⟩
theorem Neat.fresh {Hb : Hp} {p l C dx C' dx' t : Addr} {r : Int} {fs : List (Str × V)} (n : Neat Hb) (hl : Hb l = none) (hp : Hb p = some (.ins C' dx' fs)) : Neat (upd (upd Hb l (.dK [])) p (.ins C dx (hFields r t l))) := by
  have pl : p ≠ l := ne_of_none hp hl
  have nc : Neat (upd Hb l (.dK [])) := n.put (by intro _ _ _ _ _ z; cases z)
  have key : ∀ q D dd r' t' l', (upd (upd Hb l (.dK [])) p (.ins C dx (hFields r t l))) q = some (.ins D dd (hFields r' t' l')) → (q = p ∧ l' = l) ∨ (q ≠ p ∧ l' ≠ l ∧ (upd Hb l (.dK [])) q = some (.ins D dd (hFields r' t' l'))) := fun q D dd r' t' l' e => by
    by_cases hq : q = p
    · rw [hq, upd_same] at e
      injection e with e
      injection e with _ _ e
      exact .inl ⟨hq, (hF_inj e).2.2.symm⟩
    · rw [upd_ne hq] at e
      refine .inr ⟨hq, fun z => ?_, e⟩
      subst z
      have ql : q ≠ l' := fun z => by rw [z, upd_same] at e; cases e
      rw [upd_ne ql] at e
      exact n.1 _ _ _ _ _ _ e hl
  refine ⟨fun q D dd r' t' l' e => ?_, fun q q' D D' dd dd' r1 r2 t1 t2 l' e e' => ?_⟩
  · rcases key _ _ _ _ _ _ e with ⟨rfl, rfl⟩ | ⟨hq, hne, e⟩
    · rw [upd_ne (Ne.symm pl), upd_same]; exact fun z => nomatch z
    · have := nc.1 _ _ _ _ _ _ e
      by_cases z : l' = p
      · rw [z, upd_same]; exact fun z => nomatch z
      · rw [upd_ne z]; exact this
  · rcases key _ _ _ _ _ _ e with ⟨h1, h2⟩ | ⟨h1, h2, h3⟩ <;> rcases key _ _ _ _ _ _ e' with ⟨h1', h2'⟩ | ⟨h1', h2', h3'⟩
    · rw [h1, h1']
    · exact absurd h2 h2'
    · exact absurd h2' h2
    · exact nc.2 _ _ _ _ _ _ _ _ _ _ _ h3 h3'
def Warm {C : Addr} (h : Hs C) (v : V) (H : Hp) : Prop := ∃ p dx t l b, v = .ref p ∧ H p = some (.ins C dx (hFields h.r t l)) ∧ PyI.rep h.ds (.ref t) H ∧ H l = some (warm b) ∧ PyI.rep (besM h.r h.ds) b H
theorem Warm.mono {C : Addr} {h : Hs C} {v : V} (w : Warm h v H) (g : Gr H H') : Warm h v H' := by
  obtain ⟨p, dx, t, l, b, e, hp, ht, hl, hb⟩ := w
  rcases g.old l _ hl with z | ⟨_, _, v, ns, z, r, ow⟩
  · exact ⟨p, dx, t, l, b, e, g.ins hp, PyI.keep g.tup ht, z, PyI.keep g.tup hb⟩
  · exact ⟨p, dx, t, l, v, e, g.ins hp, PyI.keep g.tup ht, z, by rw [← ow p C dx h.r t h.ds hp ht]; exact r⟩
theorem val_warm {b : V} : valV [((Sum.inr "beside" : Key), b)] (Sum.inr "beside") = some b := by
  unfold valV
  simp
theorem s_cold {C : Addr} {h : Hs C} {v : V} {i : Nat} {tw : TS} (cl : Cls K C) (na : NoAttr K C "looked") (hi : σ[i]? = some (some v)) (hr : Py.rep h v H) (k1 : tu D σ H) (k2 : Warm h v H → tw D σ H) :
    tIfS (tB (tDNotIn (tC (.str "beside")) (tFld K (tVar i) "looked"))) tu tw D σ H := by
  obtain ⟨p, dx, t, l, e, hp, hn, ht, hl⟩ := hr
  refine ⟨v, hi, p, C, dx, _, .ref l, e, hp, cl, na, lk_looked, ?_⟩
  rcases hl with hl | ⟨b, hl, hb⟩
  · exact ⟨l, none, rfl, DGet.k (k := Sum.inr "beside") hl, true, rfl, k1⟩
  · have hg := DGet.k (k := Sum.inr "beside") hl
    rw [val_warm] at hg
    exact ⟨l, _, rfl, hg, false, rfl, k2 ⟨p, dx, t, l, b, e, hp, ht, hl, hb⟩⟩
theorem q_cold {C : Addr} {h : Hs C} {v : V} {i : Nat} (cl : Cls K C) (na : NoAttr K C "looked") (hi : σ[i]? = some (some v)) (hr : Py.rep h v H) (k1 : tu { D with nx := tz D } σ H) (k2 : Warm h v H → tz D σ H) :
    tSeq (tIfS (tB (tDNotIn (tC (.str "beside")) (tFld K (tVar i) "looked"))) tu tNext) tz D σ H := s_cold (D := { D with nx := tz D }) cl na hi hr k1 k2
theorem s_warm {C : Addr} {h : Hs C} {v : V} {i : Nat} (cl : Cls K C) (na : NoAttr K C "looked") (hi : σ[i]? = some (some v)) (hr : Py.rep h v H) (hv : Ev te σ H (besM h.r h.ds)) (k : ∀ H1, Gr H H1 → Warm h v H1 → D.nx σ H1) :
    sDPut (tFld K (tVar i) "looked") (tC (.str "beside")) te D σ H := hv H (Gr.refl H) _ fun d x H1 ed g rx => by
  subst ed
  obtain ⟨p, dx, t, l, e, hp, hn, ht, hl⟩ := Py.mono g hr
  have hl' : ∃ kvs, H1 l = some (.dK kvs) ∧ (kvs = [] ∨ ∃ b : V, kvs = [((Sum.inr "beside" : Key), b)]) := by
    rcases hl with hl | ⟨b, hl, _⟩
    · exact ⟨_, hl, .inl rfl⟩
    · exact ⟨_, hl, .inr ⟨b, rfl⟩⟩
  obtain ⟨kvs, hl, hk⟩ := hl'
  have hput : putK kvs (Sum.inr "beside") x = [((Sum.inr "beside" : Key), x)] := by
    rcases hk with rfl | ⟨b, rfl⟩
    · rfl
    · unfold putK; simp
  have hlen : kvs.length < sizeLine := by
    rcases hk with rfl | ⟨b, rfl⟩
    · show 0 < sizeLine; decide
    · show 1 < sizeLine; decide
  have hchg : Chg (.dK kvs) := by
    rcases hk with rfl | ⟨b, rfl⟩ <;> exact trivial
  have hd := DPut.k (k := Sum.inr "beside") (v := x) hl hlen
  rw [hput] at hd
  refine ⟨v, hi, p, C, dx, _, .ref l, e, hp, cl, na, lk_looked, l, _, rfl, hd, ?_⟩
  have tk : TupK H1 (upd H1 l (warm x)) := TupK.put hl (fun _ z => nomatch z)
  have gg : Gr H1 (upd H1 l (warm x)) := ⟨fun a o ha => by
    by_cases q : a = l
    · subst q
      rw [hl] at ha
      cases ha
      exact .inr ⟨hchg, ⟨_, _, _, _, _, hp⟩, x, _, upd_same, PyI.keep tk rx, own_of hp hn ht⟩
    · exact .inl (by rw [upd_ne q]; exact ha), fun n => n.put (by intro _ _ _ _ _ z; cases z), fun q C dx r t l' e _ => by
      by_cases hq : q = l
      · rw [hq, upd_same] at e; cases e
      · rw [upd_ne hq] at e; exact e⟩
  exact k _ (g.trans gg) ⟨p, dx, t, l, x, e, gg.ins hp, PyI.keep tk ht, upd_same, PyI.keep tk rx⟩
theorem ev_bes {C : Addr} {h : Hs C} {v : V} {i : Nat} (cl : Cls K C) (na : NoAttr K C "looked") (hi : σ[i]? = some (some v)) (w : Warm h v H) : Ev (tDGet (tFld K (tVar i) "looked") (tC (.str "beside"))) σ H (besM h.r h.ds) := fun H1 g Q q => by
  obtain ⟨p, dx, t, l, b, e, hp, ht, hl, hb⟩ := w.mono g
  have hg := DGet.k (k := Sum.inr "beside") hl
  rw [val_warm] at hg
  exact ⟨v, hi, p, C, dx, _, .ref l, e, hp, cl, na, lk_looked, l, b, rfl, hg, q _ _ H1 rfl (Gr.refl H1) hb⟩
theorem sne {σ : L2.St} {i j : Nat} {v : Option V} {x : Option (Option V)} (h : i ≠ j) (e : σ[j]? = x) : (σ.set i v)[j]? = x := by rw [List.getElem?_set_ne h]; exact e
theorem seq {σ : L2.St} {i : Nat} {v : Option V} (h : i < σ.length) : (σ.set i v)[i]? = some v := List.getElem?_set_self h
/-- nbrs as the walk finds them -/
theorem nbrs_append (a : Int) : ∀ l m : List (Int × Int), nbrs a (l ++ m) = nbrs a l ++ nbrs a m
  | [], m => rfl
  | (x, y) :: l, m => by
    show (if x = a then [y] else []) ++ (if y = a then [x] else []) ++ nbrs a (l ++ m) = ((if x = a then [y] else []) ++ (if y = a then [x] else []) ++ nbrs a l) ++ nbrs a m
    rw [nbrs_append a l m]; simp
theorem nbrs_length (a : Int) : ∀ l : List (Int × Int), (nbrs a l).length ≤ 2 * l.length
  | [] => Nat.zero_le _
  | (x, y) :: l => by
    have := nbrs_length a l
    unfold nbrs
    rw [List.length_append, List.length_append, List.length_cons]
    have h1 : (if x = a then [y] else ([] : List Int)).length ≤ 1 := by split <;> simp
    have h2 : (if y = a then [x] else ([] : List Int)).length ≤ 1 := by split <;> simp
    omega
def nbAll (r : Int) (l : List (Int × Int)) : List (List Int) := (List.range r.toNat).map fun (a : Nat) => nbrs (a : Int) l
theorem nbAll_nil (r : Int) : nbAll r [] = List.replicate r.toNat [] := by
  unfold nbAll
  rw [show (fun (a : Nat) => nbrs (a : Int) []) = fun _ => [] from rfl, List.map_const', List.length_range]
theorem nbAll_get {r : Int} {l : List (Int × Int)} {a : Int} (h : 0 ≤ a) (h2 : a < r) : (nbAll r l)[a.toNat]? = some (nbrs a l) := by
  unfold nbAll
  rw [List.getElem?_map, List.getElem?_range (by omega)]
  show some (nbrs ((a.toNat : Nat) : Int) l) = _
  rw [Int.toNat_of_nonneg h]
/-- found[x].append(y); found[y].append(x) -/
theorem nbAll_snoc {r : Int} {l : List (Int × Int)} {x y : Int} (hx : 0 ≤ x) (hxr : x < r) (hy : 0 ≤ y) (hyr : y < r) (hne : x ≠ y) :
    ((nbAll r l).set x.toNat (nbrs x l ++ [y])).set y.toNat (nbrs y l ++ [x]) = nbAll r (l ++ [(x, y)]) := by
  refine List.ext_getElem? fun i => ?_
  by_cases hi : i < r.toNat
  · have h1 := nbAll_get (r := r) (l := l) (a := (i : Int)) (by omega) (by omega)
    have h2 := nbAll_get (r := r) (l := l ++ [(x, y)]) (a := (i : Int)) (by omega) (by omega)
    have e1 : nbrs (i : Int) (l ++ [(x, y)]) = nbrs (i : Int) l ++ ((if x = (i : Int) then [y] else []) ++ (if y = (i : Int) then [x] else [])) := by
      rw [nbrs_append]; show _ ++ ((if x = (i : Int) then [y] else []) ++ (if y = (i : Int) then [x] else []) ++ []) = _
      rw [List.append_nil]
    rw [show ((i : Int)).toNat = i from rfl] at h1 h2
    rw [h2, e1]
    have hl : (nbAll r l).length = r.toNat := by unfold nbAll; simp
    by_cases hyi : y = (i : Int)
    · subst hyi
      rw [show ((i : Int)).toNat = i from rfl, List.getElem?_set_self (by rw [List.length_set, hl]; exact hi), if_neg hne, if_pos rfl]
      simp
    · rw [List.getElem?_set_ne (by omega), if_neg hyi]
      by_cases hxi : x = (i : Int)
      · subst hxi
        rw [show ((i : Int)).toNat = i from rfl, List.getElem?_set_self (by rw [hl]; exact hi), if_pos rfl]
        simp
      · rw [List.getElem?_set_ne (by omega), if_neg hxi, h1]
        simp
  · have hl : (nbAll r (l ++ [(x, y)])).length = r.toNat := by unfold nbAll; simp
    have hl2 : (nbAll r l).length = r.toNat := by unfold nbAll; simp
    rw [List.getElem?_eq_none (by rw [List.length_set, List.length_set, hl2]; omega), List.getElem?_eq_none (by rw [hl]; omega)]
theorem isortI_eq (l : List Int) : sortO l = isortI l := by
  unfold sortO isortI
  congr 1
  funext a b
  show (!decide (b < a)) = decide (a ≤ b)
  by_cases h : a ≤ b
  · rw [decide_eq_true h, decide_eq_false (by omega)]; rfl
  · rw [decide_eq_false h, decide_eq_true (by omega)]; rfl
theorem besM_nb (r : Int) (l : List (Int × Int)) : (nbAll r l).map sortO = besM r l := by
  unfold nbAll besM
  rw [List.map_map]
  congr 1
  funext a
  exact isortI_eq _
end
end Zw
/-! Z13: loops that fold, new lists and dicts, a dict walked. -/
namespace Zw
open PySem L2 RZ PySem.Spec PyProof.Rows SrtO
section
variable {K : PySem.W.Frag} {σ : L2.St} {H H0 Hb H' : Hp} {ta tb tc te tj tl ty tv : TE} {tz tu : TS} {D : Ends} {g : TG} {α β γ : Type}
theorem s_newDT {i : Nat} (k : ∀ q, H q = none → D.nx (σ.set i (some (.ref q))) (upd H q (.dT []))) : tAsg tDNewT (gName i) D σ H := fun p hp => k p hp
theorem q_newDT {i : Nat} (k : ∀ q, H q = none → tz D (σ.set i (some (.ref q))) (upd H q (.dT []))) : tSeq (tAsg tDNewT (gName i)) tz D σ H := fun p hp => k p hp
theorem rep_newDT [PyI β] {q : Addr} : Py.rep (DT.mk ([] : List (List Int × β))) (.ref q) (upd H q (.dT [])) := ⟨q, [], rfl, upd_same, PL.nil⟩
theorem s_newL {i : Nat} (k : ∀ q, H q = none → D.nx (σ.set i (some (.ref q))) (upd H q (.lst []))) : tAsg (tLst tNil) (gName i) D σ H := ⟨Nat.zero_le _, fun p hp => k p hp⟩
theorem q_newL {i : Nat} (k : ∀ q, H q = none → tz D (σ.set i (some (.ref q))) (upd H q (.lst []))) : tSeq (tAsg (tLst tNil) (gName i)) tz D σ H := s_newL (D := { D with nx := tz D }) k
theorem rep_newL [Py α] {q : Addr} : Py.rep (Ls.mk ([] : List α)) (.ref q) (upd H q (.lst [])) := ⟨q, [], rfl, upd_same, RL.nil⟩
/-- d = {key: v} -/
theorem s_newDT1 [PyI β] {i : Nat} {k : List Int} {b : β} (hk : Ev ty σ H k) (hv : Ev tv σ H b) (kk : ∀ q H1, H q = none → Gr H H1 → Py.rep (DT.mk [(k, b)]) (.ref q) H1 → D.nx (σ.set i (some (.ref q))) H1) : tAsg (tDispT1 ty tv) (gName i) D σ H := fun p hp => by
  refine hk _ (Gr.new hp) _ fun k' x H2 e g2 rx => hv H2 ((Gr.new hp).trans g2) _ fun b' y H3 e' g3 ry => ?_
  subst e e'
  obtain ⟨b0, eb, hb⟩ := tup_at (Py.mono g3 rx)
  have h0 : H3 p = some (.dT []) := (g2.trans g3).dT upd_same
  refine ⟨keyT k', b0, eb, hb, h0, kk p _ hp (((Gr.new hp).trans (g2.trans g3)).mut hp h0 (fun _ z => nomatch z)) ⟨p, _, rfl, upd_same, PL.nil.cons ⟨rfl, ?_⟩⟩⟩
  exact PyI.keep (TupK.put h0 (fun _ z => nomatch z)) ry
theorem q_newDT1 [PyI β] {i : Nat} {k : List Int} {b : β} (hk : Ev ty σ H k) (hv : Ev tv σ H b) (kk : ∀ q H1, H q = none → Gr H H1 → Py.rep (DT.mk [(k, b)]) (.ref q) H1 → tz D (σ.set i (some (.ref q))) H1) : tSeq (tAsg (tDispT1 ty tv) (gName i)) tz D σ H := s_newDT1 (D := { D with nx := tz D }) hk hv kk
theorem foldl_take {A : Type} {ds : List α} {i : Nat} {d : α} (f : A → α → A) (a : A) (h : ds[i]? = some d) : (ds.take (i + 1)).foldl f a = f ((ds.take i).foldl f a) d := by
  rw [List.take_add_one, h]
  show ((ds.take i) ++ [d]).foldl f a = _
  rw [List.foldl_append]; rfl
/-- for, by a fold -/
theorem s_foldT [PyI α] {wi : TI} {A : Type} {ds : List α} (f : A → α → A) (a0 : A) (I : A → L2.St → Hp → Prop) (hs : SrcT wi σ H ds) (h0 : ∀ H2, Gr H H2 → I a0 σ H2) (mono : ∀ a σ' H1 H2, Gr H1 H2 → I a σ' H1 → I a σ' H2)
    (step : ∀ Hb i d x a σ' H', Gr H Hb → TupK Hb H' → ds[i]? = some d → a = (ds.take i).foldl f a0 → I a σ' H' → Py.rep d x H' → g x σ' H' fun σ2 H3 => tu { D with nx := fun σ3 H4 => TupK Hb H4 ∧ I (f a d) σ3 H4, ct := fun σ3 H4 => TupK Hb H4 ∧ I (f a d) σ3 H4, bk := D.nx } σ2 H3)
    (fin : ∀ σ' H', TupK H H' → I (ds.foldl f a0) σ' H' → D.nx σ' H') : tFor wi g tu D σ H := by
  refine hs H (Gr.refl H) _ fun J H2 g2 w => ?_
  refine ⟨fun i m σ' H' => m = ds.length - i ∧ i ≤ ds.length ∧ TupK H2 H' ∧ I ((ds.take i).foldl f a0) σ' H', ⟨ds.length, by simp, Nat.zero_le _, TupK.refl _, h0 H2 g2⟩, ?_⟩
  rintro i m σ' H3 ⟨rfl, hi, s3, p⟩
  by_cases hlt : i < ds.length
  · have hd : ds[i]? = some ds[i] := by simp [hlt]
    obtain ⟨hgo, hy⟩ := w.go H3 s3 i _ hd
    refine .inr ⟨hgo, fun σ4 H4 => TupK H2 H4 ∧ I (f ((ds.take i).foldl f a0) ds[i]) σ4 H4, fun σ4 H4 p4 => ⟨ds.length - (i + 1), by omega, rfl, hlt, p4.1, by rw [foldl_take f a0 hd]; exact p4.2⟩, fun x H4 hyl => ?_⟩
    obtain ⟨g4, r4⟩ := hy x H4 hyl
    exact step H2 i _ x _ σ' H4 g2 (s3.trans g4.tup) hd rfl (mono _ _ _ _ g4 p) r4
  · have e : i = ds.length := by omega
    subst e
    rw [List.take_length] at p
    exact .inl ⟨w.stop H3 s3, fin σ' H3 (g2.tup.trans s3) p⟩
theorem q_foldT [PyI α] {wi : TI} {A : Type} {ds : List α} (f : A → α → A) (a0 : A) (I : A → L2.St → Hp → Prop) (hs : SrcT wi σ H ds) (h0 : ∀ H2, Gr H H2 → I a0 σ H2) (mono : ∀ a σ' H1 H2, Gr H1 H2 → I a σ' H1 → I a σ' H2)
    (step : ∀ Hb i d x a σ' H', Gr H Hb → TupK Hb H' → ds[i]? = some d → a = (ds.take i).foldl f a0 → I a σ' H' → Py.rep d x H' → g x σ' H' fun σ2 H3 => tu { D with nx := fun σ3 H4 => TupK Hb H4 ∧ I (f a d) σ3 H4, ct := fun σ3 H4 => TupK Hb H4 ∧ I (f a d) σ3 H4, bk := tz D } σ2 H3)
    (fin : ∀ σ' H', TupK H H' → I (ds.foldl f a0) σ' H' → tz D σ' H') : tSeq (tFor wi g tu) tz D σ H := s_foldT (D := { D with nx := tz D }) f a0 I hs h0 mono step fin
/-- .. over a list at its address, which the body keeps -/
theorem s_foldL [PyI α] {wi : TI} {A : Type} {ds : List α} (f : A → α → A) (a0 : A) (I : A → L2.St → Hp → Prop) (hs : SrcL wi σ H ds) (h0 : ∀ H2, Gr H H2 → I a0 σ H2) (mono : ∀ a σ' H1 H2, Gr H1 H2 → I a σ' H1 → I a σ' H2)
    (step : ∀ Hb l xs i d x a σ' H', Gr H Hb → Hb l = some (.lst xs) → H' l = some (.lst xs) → TupK Hb H' → ds[i]? = some d → a = (ds.take i).foldl f a0 → I a σ' H' → Py.rep d x H' → g x σ' H' fun σ2 H3 => tu { D with nx := fun σ3 H4 => H4 l = some (.lst xs) ∧ TupK Hb H4 ∧ I (f a d) σ3 H4, ct := fun σ3 H4 => H4 l = some (.lst xs) ∧ TupK Hb H4 ∧ I (f a d) σ3 H4, bk := D.nx } σ2 H3)
    (fin : ∀ σ' H', TupK H H' → I (ds.foldl f a0) σ' H' → D.nx σ' H') : tFor wi g tu D σ H := by
  refine hs H (Gr.refl H) _ fun J H2 l xs g2 hl w => ?_
  refine ⟨fun i m σ' H' => m = ds.length - i ∧ i ≤ ds.length ∧ H' l = some (.lst xs) ∧ TupK H2 H' ∧ I ((ds.take i).foldl f a0) σ' H', ⟨ds.length, by simp, Nat.zero_le _, hl, TupK.refl _, h0 H2 g2⟩, ?_⟩
  rintro i m σ' H3 ⟨rfl, hi, hl3, s3, p⟩
  by_cases hlt : i < ds.length
  · have hd : ds[i]? = some ds[i] := by simp [hlt]
    obtain ⟨hgo, hy⟩ := w.go H3 ⟨hl3, s3⟩ i _ hd
    refine .inr ⟨hgo, fun σ4 H4 => H4 l = some (.lst xs) ∧ TupK H2 H4 ∧ I (f ((ds.take i).foldl f a0) ds[i]) σ4 H4, fun σ4 H4 p4 => ⟨ds.length - (i + 1), by omega, rfl, hlt, p4.1, p4.2.1, by rw [foldl_take f a0 hd]; exact p4.2.2⟩, fun x H4 hyl => ?_⟩
    obtain ⟨g4, r4⟩ := hy x H4 hyl
    exact step H2 l xs i _ x _ σ' H4 g2 hl (g4.lst hl3) (s3.trans g4.tup) hd rfl (mono _ _ _ _ g4 p) r4
  · have e : i = ds.length := by omega
    subst e
    rw [List.take_length] at p
    exact .inl ⟨w.stop H3 ⟨hl3, s3⟩, fin σ' H3 (g2.tup.trans s3) p⟩
theorem q_foldL [PyI α] {wi : TI} {A : Type} {ds : List α} (f : A → α → A) (a0 : A) (I : A → L2.St → Hp → Prop) (hs : SrcL wi σ H ds) (h0 : ∀ H2, Gr H H2 → I a0 σ H2) (mono : ∀ a σ' H1 H2, Gr H1 H2 → I a σ' H1 → I a σ' H2)
    (step : ∀ Hb l xs i d x a σ' H', Gr H Hb → Hb l = some (.lst xs) → H' l = some (.lst xs) → TupK Hb H' → ds[i]? = some d → a = (ds.take i).foldl f a0 → I a σ' H' → Py.rep d x H' → g x σ' H' fun σ2 H3 => tu { D with nx := fun σ3 H4 => H4 l = some (.lst xs) ∧ TupK Hb H4 ∧ I (f a d) σ3 H4, ct := fun σ3 H4 => H4 l = some (.lst xs) ∧ TupK Hb H4 ∧ I (f a d) σ3 H4, bk := tz D } σ2 H3)
    (fin : ∀ σ' H', TupK H H' → I (ds.foldl f a0) σ' H' → tz D σ' H') : tSeq (tFor wi g tu) tz D σ H := s_foldL (D := { D with nx := tz D }) f a0 I hs h0 mono step fin
/-- for key in d -/
abbrev lkD' (p : Addr) (od : Obj) (kvs : List (List Key × V)) (D : Ends) : Ends := ⟨fun σ' H' => H' p = some (.frz od (.dT kvs)) ∧ D.nx σ' (upd H' p (.dT kvs)), fun v H' => H' p = some (.frz od (.dT kvs)) ∧ D.rt v (upd H' p (.dT kvs)), fun σ' H' => H' p = some (.frz od (.dT kvs)) ∧ D.bk σ' (upd H' p (.dT kvs)), fun σ' H' => H' p = some (.frz od (.dT kvs)) ∧ D.ct σ' (upd H' p (.dT kvs))⟩
theorem rep_key {k : List Int} {q : Addr} (h : H q = some (.tup ((keyT k).map kV))) : Py.rep k (.ref q) H := ⟨q, _, rfl, h, by rw [keyT_kV]; exact RL.map fun _ _ => rfl⟩
theorem s_foldD [PyI β] {A : Type} {p : Addr} {i : Nat} {kv : List (List Int × β)} (f : A → List Int → A) (a0 : A) (I : A → L2.St → Hp → Prop) (hp : Py.rep (DT.mk kv) (.ref p) H) (hi : σ[i]? = some (some (.ref p)))
    (h0 : ∀ od kvs, H p = some (.dT kvs) → I a0 σ (upd H p (.frz od (.dT kvs))))
    (step : ∀ od kvs j d x a σ' H', H p = some (.dT kvs) → H' p = some (.frz od (.dT kvs)) → TupK H H' → (keysD kv)[j]? = some d → a = ((keysD kv).take j).foldl f a0 → I a σ' H' → Py.rep d x H' →
      g x σ' H' fun σ2 H3 => tu { lkD' p od kvs D with nx := fun σ3 H4 => H4 p = some (.frz od (.dT kvs)) ∧ TupK H H4 ∧ I (f a d) σ3 H4, ct := fun σ3 H4 => H4 p = some (.frz od (.dT kvs)) ∧ TupK H H4 ∧ I (f a d) σ3 H4, bk := (lkD' p od kvs D).nx } σ2 H3)
    (fin : ∀ od kvs σ' H', H p = some (.dT kvs) → H' p = some (.frz od (.dT kvs)) → TupK H H' → I ((keysD kv).foldl f a0) σ' H' → D.nx σ' (upd H' p (.dT kvs))) : tLock (tFor (iKeys (tVar i)) g tu) D σ H := by
  obtain ⟨p', kvs, e, hH, r⟩ := hp
  cases e
  refine ⟨p, .dT kvs, hH, trivial, fun od => ?_⟩
  refine ⟨.ref p, hi, p, od, rfl, .inr ⟨kvs, upd_same, ?_⟩⟩
  have hlen : (keysD kv).length = kvs.length := by unfold keysD; rw [List.length_map]; exact r.1
  have tk0 : TupK H (upd H p (.frz od (.dT kvs))) := TupK.put hH (fun _ z => nomatch z)
  refine ⟨fun j m σ' H' => m = kvs.length - j ∧ j ≤ kvs.length ∧ H' p = some (.frz od (.dT kvs)) ∧ TupK H H' ∧ I (((keysD kv).take j).foldl f a0) σ' H', ⟨kvs.length, by simp, Nat.zero_le _, upd_same, tk0, h0 od kvs hH⟩, ?_⟩
  rintro j m σ' H3 ⟨rfl, hj, hp3, s3, q⟩
  by_cases hlt : j < kvs.length
  · have hd : (keysD kv)[j]? = some (keysD kv)[j] := by simp [hlen, hlt]
    refine .inr ⟨⟨hp3, hlt⟩, fun σ4 H4 => H4 p = some (.frz od (.dT kvs)) ∧ TupK H H4 ∧ I (f (((keysD kv).take j).foldl f a0) (keysD kv)[j]) σ4 H4, fun σ4 H4 p4 => ⟨kvs.length - (j + 1), by omega, rfl, hlt, p4.1, p4.2.1, by rw [foldl_take f a0 hd]; exact p4.2.2⟩, fun x H4 hyl => ?_⟩
    obtain ⟨e4, k, v, b, hk, ex, hb⟩ := hyl
    subst e4 ex
    have hk2 : k = keyT (keysD kv)[j] := by
      have hd2 : kv[j]? = some (kv[j]'(by rw [r.1]; exact hlt)) := by simp [r.1, hlt]
      refine (r.2 j _ _ hd2 hk).1.trans ?_
      simp [keysD]
    rw [hk2] at hb
    exact step od kvs j _ _ _ σ' H4 hH hp3 s3 hd rfl q (rep_key hb)
  · have e : j = kvs.length := by omega
    subst e
    rw [← hlen, List.take_length] at q
    exact .inl ⟨⟨hp3, Nat.le_refl _⟩, hp3, fin od kvs σ' H3 hH hp3 s3 q⟩
theorem q_foldD [PyI β] {A : Type} {p : Addr} {i : Nat} {kv : List (List Int × β)} (f : A → List Int → A) (a0 : A) (I : A → L2.St → Hp → Prop) (hp : Py.rep (DT.mk kv) (.ref p) H) (hi : σ[i]? = some (some (.ref p)))
    (h0 : ∀ od kvs, H p = some (.dT kvs) → I a0 σ (upd H p (.frz od (.dT kvs))))
    (step : ∀ od kvs j d x a σ' H', H p = some (.dT kvs) → H' p = some (.frz od (.dT kvs)) → TupK H H' → (keysD kv)[j]? = some d → a = ((keysD kv).take j).foldl f a0 → I a σ' H' → Py.rep d x H' →
      g x σ' H' fun σ2 H3 => tu { lkD' p od kvs { D with nx := tz D } with nx := fun σ3 H4 => H4 p = some (.frz od (.dT kvs)) ∧ TupK H H4 ∧ I (f a d) σ3 H4, ct := fun σ3 H4 => H4 p = some (.frz od (.dT kvs)) ∧ TupK H H4 ∧ I (f a d) σ3 H4, bk := (lkD' p od kvs { D with nx := tz D }).nx } σ2 H3)
    (fin : ∀ od kvs σ' H', H p = some (.dT kvs) → H' p = some (.frz od (.dT kvs)) → TupK H H' → I ((keysD kv).foldl f a0) σ' H' → tz D σ' (upd H' p (.dT kvs))) : tSeq (tLock (tFor (iKeys (tVar i)) g tu)) tz D σ H := s_foldD (D := { D with nx := tz D }) f a0 I hp hi h0 step fin
end
end Zw
/-! Z14: what the chase's steps compute (plain). -/
namespace Zw
open PySem L2 RZ PySem.Spec PyProof.Rows SrtO
theorem Mu.dT {β : Type} [PyI β] {l p : Addr} {H H2 : Hp} {d : List (List Int × β)} (m : Mu l H H2) (ne : p ≠ l) (r : Py.rep (DT.mk d) (.ref p) H) : Py.rep (DT.mk d) (.ref p) H2 := by
  obtain ⟨q, xs, e, hq, rr⟩ := r
  cases e
  exact ⟨p, xs, rfl, m.at hq (fun z => nomatch z) ne, rr.mono fun _ _ z => z.keep m.tup⟩
theorem mu_frz {H : Hp} {p : Addr} {od : Obj} {kvs : List (List Key × V)} {o : HO} (h : H p = some (.frz od (.dT kvs))) (no : NotH o := by intro _ _ _ _ _ z; cases z) : Mu p H (upd H p o) := ⟨H, o, _, Gr.refl _, h, (fun _ z => nomatch z), no, rfl⟩
theorem atI_nat {α : Type} {l : List α} {i : Int} (h : 0 ≤ i) (h2 : i < l.length) : ∃ d, L2.atI l i = some d ∧ l[i.toNat]? = some d := by
  have hi : i.toNat < l.length := by omega
  refine ⟨l[i.toNat], ?_, by simp [hi]⟩
  unfold L2.atI ixN
  rw [if_pos h, if_pos h2]
  show l[i.toNat]? = _
  simp [hi]
abbrev KVs := List (List Int × Bool)
def stepIn (s : List Int) (acc : KVs) (o : Int) : KVs := putD acc (sortO (s ++ [o])) true
def stepMid (row : List Int) (acc : KVs) (s : List Int) : KVs := row.foldl (stepIn s) acc
def stepOut (rows : List (List Int)) (kv : KVs) (w : Int) : KVs := (keysD kv).foldl (stepMid (rows.getD w.toNat [])) []
def stepsKV (rows : List (List Int)) (ws : List Int) : KVs := ws.foldl (stepOut rows) [([], true)]
def stepsM (rows : List (List Int)) (ws : List Int) : List (List Int) := sortO (keysD (stepsKV rows ws))
theorem stepIn_len (s : List Int) : ∀ (row : List Int) (acc : KVs), (row.foldl (stepIn s) acc).length ≤ acc.length + row.length
  | [], acc => Nat.le_refl _
  | o :: row, acc => by
    have h1 := stepIn_len s row (stepIn s acc o)
    have h2 : (stepIn s acc o).length ≤ acc.length + 1 := putD_length _ _ _
    simp only [List.foldl_cons, List.length_cons]
    omega
theorem stepMid_len (row : List Int) : ∀ (ks : List (List Int)) (acc : KVs), (ks.foldl (stepMid row) acc).length ≤ acc.length + ks.length * row.length
  | [], acc => by simp
  | s :: ks, acc => by
    have h1 := stepMid_len row ks (stepMid row acc s)
    have h2 : (stepMid row acc s).length ≤ acc.length + row.length := stepIn_len s row acc
    simp only [List.foldl_cons, List.length_cons]
    rw [Nat.add_mul]
    omega
theorem mem_putD {κ β : Type} [DecidableEq κ] {l : List (κ × β)} {k x : κ} {v : β} : x ∈ keysD (putD l k v) ↔ x = k ∨ x ∈ keysD l := by
  unfold putD
  split
  · rename_i h
    have e : keysD (l.map fun kv => if kv.1 = k then (kv.1, v) else kv) = keysD l := by
      unfold keysD
      rw [List.map_map]
      refine List.map_congr_left fun a _ => ?_
      show (if a.1 = k then (a.1, v) else a).1 = a.1
      split <;> rfl
    rw [e]
    constructor
    · exact .inr
    · rintro (rfl | h')
      · obtain ⟨kv, hm, hk⟩ := List.any_eq_true.mp h
        unfold keysD
        exact List.mem_map.mpr ⟨kv, hm, of_decide_eq_true hk⟩
      · exact h'
  · unfold keysD
    rw [List.map_append, List.mem_append]
    simp
    exact or_comm
theorem mem_stepIn (s : List Int) {x : List Int} : ∀ (row : List Int) (acc : KVs), x ∈ keysD (row.foldl (stepIn s) acc) ↔ x ∈ keysD acc ∨ ∃ o ∈ row, x = sortO (s ++ [o])
  | [], acc => by simp
  | o :: row, acc => by
    simp only [List.foldl_cons]
    rw [mem_stepIn s row (stepIn s acc o)]
    unfold stepIn
    rw [mem_putD]
    simp
    constructor
    · rintro ((h | h) | h)
      · exact .inr (.inl h)
      · exact .inl h
      · exact .inr (.inr h)
    · rintro (h | h | h)
      · exact .inl (.inr h)
      · exact .inl (.inl h)
      · exact .inr h
theorem mem_stepMid (row : List Int) {x : List Int} : ∀ (ks : List (List Int)) (acc : KVs), x ∈ keysD (ks.foldl (stepMid row) acc) ↔ x ∈ keysD acc ∨ ∃ s ∈ ks, ∃ o ∈ row, x = sortO (s ++ [o])
  | [], acc => by simp
  | s :: ks, acc => by
    simp only [List.foldl_cons]
    rw [mem_stepMid row ks (stepMid row acc s)]
    unfold stepMid
    rw [mem_stepIn]
    simp only [List.mem_cons]
    constructor
    · rintro ((h | h) | ⟨s', h, h'⟩)
      · exact .inl h
      · exact .inr ⟨s, .inl rfl, h⟩
      · exact .inr ⟨s', .inr h, h'⟩
    · rintro (h | ⟨s', (rfl | h), h'⟩)
      · exact .inl (.inl h)
      · exact .inl (.inr h')
      · exact .inr ⟨s', h, h'⟩
theorem stepsKV_snoc (rows : List (List Int)) (ws : List Int) (w : Int) : stepsKV rows (ws ++ [w]) = stepOut rows (stepsKV rows ws) w := by
  unfold stepsKV; rw [List.foldl_append]; rfl
theorem sortO_len {α : Type} [PyO α] (l : List α) : (sortO l).length = l.length := (sortO_perm l).length_eq
theorem stepOut_keyLen {rows : List (List Int)} {kv : KVs} {w : Int} {n : Nat} (h : ∀ k ∈ keysD kv, k.length = n) : ∀ k ∈ keysD (stepOut rows kv w), k.length = n + 1 := fun k hk => by
  unfold stepOut at hk
  rw [mem_stepMid] at hk
  rcases hk with hk | ⟨s, hs, o, _, rfl⟩
  · unfold keysD at hk; simp at hk
  · rw [sortO_len, List.length_append, h s hs]; rfl
theorem stepsKV_keyLen {rows : List (List Int)} {ws : List Int} : ∀ n ≤ ws.length, ∀ k ∈ keysD (stepsKV rows (ws.take n)), k.length = n
  | 0, _, k, hk => by
    unfold stepsKV keysD at hk
    simp at hk
    rw [hk]; rfl
  | n + 1, h, k, hk => by
    have hd : ws[n]? = some ws[n] := by simp
    rw [List.take_add_one, hd] at hk
    exact stepOut_keyLen (stepsKV_keyLen (ws := ws) n (by omega)) k (by rw [← stepsKV_snoc]; exact hk)
theorem stepsKV_len {rows : List (List Int)} (hr : ∀ r ∈ rows, r.length ≤ 37) {ws : List Int} : ∀ n ≤ ws.length, (stepsKV rows (ws.take n)).length ≤ 37 ^ n
  | 0, _ => by unfold stepsKV; simp
  | n + 1, h => by
    have hd : ws[n]? = some ws[n] := by simp
    rw [List.take_add_one, hd, show (some ws[n]).toList = [ws[n]] from rfl, stepsKV_snoc]
    have ih := stepsKV_len hr (ws := ws) n (by omega)
    unfold stepOut
    have h1 := stepMid_len (rows.getD ws[n].toNat []) (keysD (stepsKV rows (ws.take n))) []
    have h2 : (rows.getD ws[n].toNat []).length ≤ 37 := by
      rw [List.getD_eq_getElem?_getD]
      cases q : rows[ws[n].toNat]? with
      | none => show 0 ≤ 37; decide
      | some r => exact hr r (List.mem_of_getElem? q)
    have h3 : (keysD (stepsKV rows (ws.take n))).length = (stepsKV rows (ws.take n)).length := by unfold keysD; rw [List.length_map]
    rw [h3] at h1
    refine Nat.le_trans h1 ?_
    rw [Nat.pow_succ]
    have : (stepsKV rows (ws.take n)).length * (rows.getD ws[n].toNat []).length ≤ 37 ^ n * 37 := Nat.mul_le_mul ih h2
    simp at this ⊢
    exact this
end Zw
/-! Z15: arithmetic, the script, lists changed in place. -/
namespace Zw
open PySem L2 RZ PySem.Spec PyProof.Rows SrtO
section
variable {K : PySem.W.Frag} {σ : L2.St} {H H0 Hb H' : Hp} {ta tb tc te tj tl ty tv : TE} {tz tu : TS} {D : Ends} {g : TG} {α β γ : Type}
theorem ev_mul {i j : Int} (ha : Ev ta σ H i) (hb : Ev tb σ H j) (hc : CMul i j) : Ev (tOp (rI CMul fun i j => .int (i * j)) ta tb) σ H (i * j) := ev_op ha hb (ro_I hc fun _ => rfl)
theorem ev_fdiv {i j : Int} (ha : Ev ta σ H i) (hb : Ev tb σ H j) (hc : CDivN i j) : Ev (tOp (rI CDivN fun i j => .int (i.fdiv j)) ta tb) σ H (i.fdiv j) := ev_op ha hb (ro_I hc fun _ => rfl)
theorem ev_mod {i j : Int} (ha : Ev ta σ H i) (hb : Ev tb σ H j) (hc : j ≠ 0) : Ev (tOp (rI (fun _ j => j ≠ 0) fun i j => .int (i.fmod j)) ta tb) σ H (i.fmod j) := ev_op ha hb (ro_I hc fun _ => rfl)
theorem ev_pow {i j : Int} (ha : Ev ta σ H i) (hb : Ev tb σ H j) (hc : CPow i j) : Ev (tOp (rI CPow fun i j => .int (i ^ j.toNat)) ta tb) σ H (i ^ j.toNat) := ev_op ha hb (ro_I hc fun _ => rfl)
/-- .. of whatever size -/
theorem ed_mulL {Pa Pb : Int → Prop} (ha : Ed ta σ H Pa) (hb : Ed tb σ H Pb) (hc : ∀ i j, Pa i → Pb j → CMul i j) : Ed (tOp (rI CMul fun i j => .int (i * j)) ta tb) σ H (fun (_ : Int) => True) := ed_op ha hb fun a b pa pb x y H rx ry Q q => ⟨a, b, rx, ry, hc a b pa pb, q _ _ H trivial (Gr.refl H) rfl⟩
theorem ed_add {Pa Pb P : Int → Prop} (ha : Ed ta σ H Pa) (hb : Ed tb σ H Pb) (hc : ∀ i j, Pa i → Pb j → P (i + j)) : Ed (tOp (rI0 fun i j => .int (i + j)) ta tb) σ H P := ed_op ha hb fun a b pa pb x y H rx ry Q q => ⟨a, b, rx, ry, q _ _ H (hc a b pa pb) (Gr.refl H) rfl⟩
theorem ed_sub {Pa Pb P : Int → Prop} (ha : Ed ta σ H Pa) (hb : Ed tb σ H Pb) (hc : ∀ i j, Pa i → Pb j → P (i - j)) : Ed (tOp (rI0 fun i j => .int (i - j)) ta tb) σ H P := ed_op ha hb fun a b pa pb x y H rx ry Q q => ⟨a, b, rx, ry, q _ _ H (hc a b pa pb) (Gr.refl H) rfl⟩
theorem ed_lt {Pa Pb : Int → Prop} {P : Bool → Prop} (ha : Ed ta σ H Pa) (hb : Ed tb σ H Pb) (hc : ∀ i j, Pa i → Pb j → P (decide (i < j))) : Ed (tOp (rI0 fun i j => .bl (decide (i < j))) ta tb) σ H P := ed_op ha hb fun a b pa pb x y H rx ry Q q => ⟨a, b, rx, ry, q _ _ H (hc a b pa pb) (Gr.refl H) rfl⟩
theorem ed_le {Pa Pb : Int → Prop} {P : Bool → Prop} (ha : Ed ta σ H Pa) (hb : Ed tb σ H Pb) (hc : ∀ i j, Pa i → Pb j → P (decide (i ≤ j))) : Ed (tOp (rI0 fun i j => .bl (decide (i ≤ j))) ta tb) σ H P := ed_op ha hb fun a b pa pb x y H rx ry Q q => ⟨a, b, rx, ry, q _ _ H (hc a b pa pb) (Gr.refl H) rfl⟩
theorem ed_gt {Pa Pb : Int → Prop} {P : Bool → Prop} (ha : Ed ta σ H Pa) (hb : Ed tb σ H Pb) (hc : ∀ i j, Pa i → Pb j → P (decide (j < i))) : Ed (tOp (rI0 fun i j => .bl (decide (j < i))) ta tb) σ H P := ed_op ha hb fun a b pa pb x y H rx ry Q q => ⟨a, b, rx, ry, q _ _ H (hc a b pa pb) (Gr.refl H) rfl⟩
theorem ed_ge {Pa Pb : Int → Prop} {P : Bool → Prop} (ha : Ed ta σ H Pa) (hb : Ed tb σ H Pb) (hc : ∀ i j, Pa i → Pb j → P (decide (j ≤ i))) : Ed (tOp (rI0 fun i j => .bl (decide (j ≤ i))) ta tb) σ H P := ed_op ha hb fun a b pa pb x y H rx ry Q q => ⟨a, b, rx, ry, q _ _ H (hc a b pa pb) (Gr.refl H) rfl⟩
theorem ed_mod {Pa Pb P : Int → Prop} (ha : Ed ta σ H Pa) (hb : Ed tb σ H Pb) (hc : ∀ i j, Pa i → Pb j → j ≠ 0 ∧ P (i.fmod j)) : Ed (tOp (rI (fun _ j => j ≠ 0) fun i j => .int (i.fmod j)) ta tb) σ H P := ed_op ha hb fun a b pa pb x y H rx ry Q q => ⟨a, b, rx, ry, (hc a b pa pb).1, q _ _ H (hc a b pa pb).2 (Gr.refl H) rfl⟩
theorem ed_fdiv {Pa Pb P : Int → Prop} (ha : Ed ta σ H Pa) (hb : Ed tb σ H Pb) (hc : ∀ i j, Pa i → Pb j → CDivN i j ∧ P (i.fdiv j)) : Ed (tOp (rI CDivN fun i j => .int (i.fdiv j)) ta tb) σ H P := ed_op ha hb fun a b pa pb x y H rx ry Q q => ⟨a, b, rx, ry, (hc a b pa pb).1, q _ _ H (hc a b pa pb).2 (Gr.refl H) rfl⟩
theorem ed_int1 {P : Int → Prop} (h : Ed te σ H P) : Ed (tCB (fun xs H Q => (∃ i, xs = [V.int i] ∧ Q (.int i) H) ∨ ∃ k, xs = [V.bl k] ∧ Q (.int (if k then 1 else 0)) H) (tCons te tNil)) σ H P := fun H1 g Q q => h H1 g _ fun d v H2 p g2 r => by
  have e : v = .int d := r
  subst e
  exact .inl ⟨d, rfl, q d _ H2 p g2 rfl⟩
theorem ev_abs {i : Int} (h : Ev te σ H i) : Ev (tCB (fun xs H Q => ∃ i, xs = [V.int i] ∧ Q (.int (if i < 0 then -i else i)) H) (tCons te tNil)) σ H (if i < 0 then -i else i) := fun H1 g Q q => h H1 g _ fun d v H2 p g2 r => by
  have e : v = .int d := r
  subst e p
  exact ⟨d, rfl, q _ _ H2 rfl g2 rfl⟩
theorem fmod_rng {i j : Int} (h : 0 < j) : 0 ≤ i.fmod j ∧ i.fmod j < j := ⟨Int.fmod_nonneg_of_pos i h, Int.fmod_lt_of_pos i h⟩
/-- the script, as the law is given it -/
structure Scr (K : PySem.W.Frag) where
  l : List Int
instance : Py (Scr K) := ⟨fun d v H => ∃ a, v = .ref a ∧ SqL K H a (d.l.map V.int) ∧ d.l.length ≤ 63, fun g ⟨a, e, h, l⟩ => ⟨a, e, g.sqL h, l⟩⟩
theorem ev_slScr {d : Scr K} {lo hi : Option Int} {to th : TO} (h : Ev te σ H d) (h1 : EvO to σ H lo) (h2 : EvO th σ H hi) : Ev (tSl (rSlL K) te to th) σ H (Ls.mk (cutL d.l lo hi)) := fun H1 e Q q =>
  h H1 e _ fun d v H2 p e2 ⟨a, ev, ha, r⟩ => h1 H2 (e.trans e2) _ fun H3 e3 => h2 H3 ((e.trans e2).trans e3) _ fun H4 e4 => by
    subst p
    have e24 := e3.trans e4
    exact ⟨a, _, ev, e24.sqL ha, fun p hp => q _ _ _ rfl ((e2.trans e24).trans (Gr.new hp)) ⟨p, _, rfl, upd_same, (RL.map (R := fun (a : Int) x => PyI.rep a x _) (f := V.int) fun _ _ => rfl).cut lo hi⟩⟩
theorem cutL_length {α : Type} (l : List α) (lo hi : Option Int) : (cutL l lo hi).length ≤ l.length := by
  unfold cutL
  rw [List.length_take, List.length_drop]; omega

/-! ### a list at t, changed in place -/
theorem upd_back {a : Addr} {o : HO} (h : H a = some o) : upd H a o = H := by
  funext b
  by_cases e : b = a
  · subst e; rw [upd_same, h]
  · rw [upd_ne e]
def Ms (t : Addr) (H H' : Hp) : Prop := ∀ o, NotH o → (∀ xs, o ≠ .tup xs) → Gr (upd H t o) (upd H' t o)
theorem Ms.refl (t : Addr) (H : Hp) : Ms t H H := fun o _ _ => Gr.refl _
theorem Ms.trans {t : Addr} {H H1 H2 : Hp} (a : Ms t H H1) (b : Ms t H1 H2) : Ms t H H2 := fun o n n2 => (a o n n2).trans (b o n n2)
theorem Ms.put {t : Addr} {o' : HO} : Ms t H (upd H t o') := fun o n n2 => by rw [upd_upd]; exact Gr.refl _
theorem Ms.gr {t : Addr} {xs : List V} (g : Gr H H') (ht : H t = some (.lst xs)) : Ms t H H' := fun o n n2 => by
  have ht' := g.lst ht
  refine ⟨fun a w ha => ?_, fun nn => (g.neat ⟨fun p C dx r t' l hp => ?_, fun p p' C C' dx dx' r r' t1 t2 l hp hp' => ?_⟩).put n, fun p C dx r t' l hp hl => ?_⟩
  · by_cases e : a = t
    · subst e; rw [upd_same] at ha ⊢; exact .inl ha
    · rw [upd_ne e] at ha ⊢
      rcases g.old a w ha with z | ⟨c, ⟨p0, C0, dx0, r0, t0, e0⟩, v, ns, z, r, ow⟩
      · exact .inl z
      · refine .inr ⟨c, ⟨p0, C0, dx0, r0, t0, by rw [upd_ne (fun q => by rw [q, ht] at e0; cases e0)]; exact e0⟩, v, ns, z, PyI.keep (TupK.put ht' (fun _ z => nomatch z)) r, fun p C dx r' t' ds hp hd => ?_⟩
        have pt : p ≠ t := fun e => by subst e; rw [upd_same] at hp; cases hp; exact n _ _ _ _ _ rfl
        rw [upd_ne pt] at hp
        refine ow p C dx r' t' ds hp (PyI.keep (fun b ys hb => ?_) hd)
        by_cases e : b = t
        · subst e; rw [upd_same] at hb; cases hb; exact absurd rfl (n2 ys)
        · rw [upd_ne e] at hb; exact hb
  · have pt : p ≠ t := fun e => by subst e; rw [ht] at hp; cases hp
    have h1 := nn.1 p C dx r t' l (by rw [upd_ne pt]; exact hp)
    by_cases e : l = t
    · subst e; rw [ht]; exact fun z => nomatch z
    · rw [upd_ne e] at h1; exact h1
  · have pt : p ≠ t := fun e => by subst e; rw [ht] at hp; cases hp
    have pt' : p' ≠ t := fun e => by subst e; rw [ht] at hp'; cases hp'
    exact nn.2 p p' C C' dx dx' r r' t1 t2 l (by rw [upd_ne pt]; exact hp) (by rw [upd_ne pt']; exact hp')
  · have pt : p ≠ t := fun e => by subst e; rw [upd_same] at hp; cases hp; exact n _ _ _ _ _ rfl
    rw [upd_ne pt] at hp ⊢
    refine g.newH p C dx r t' l hp ?_
    by_cases e : l = t
    · subst e; rw [ht]; exact fun z => nomatch z
    · rw [upd_ne e] at hl; exact hl
/-- an item of it -/
theorem ev_raw [Py α] {t : Addr} {xs : List V} {i : Nat} {j : Int} {d : α} {v : V} (ht : H t = some (.lst xs)) (hi : σ[i]? = some (some (.ref t))) (hj : L2.atI xs j = some v) (r : Py.rep d v H) : Ev (tOp (rIxL K) (tVar i) (tC (.int j))) σ H d := fun H1 g Q q =>
  ⟨_, hi, t, xs, j, v, rfl, rfl, .of (g.lst ht), hj, q d v H1 rfl (Gr.refl H1) (Py.mono g r)⟩
/-- t[j] = e -/
theorem s_rawSet [Py α] {t : Addr} {xs : List V} {i k : Nat} {j : Int} {P : α → Prop} (ht : H t = some (.lst xs)) (hi : σ[i]? = some (some (.ref t))) (h : Ed te σ H P) (hj : ixN xs.length j = some k)
    (kk : ∀ d v H1, P d → Gr H H1 → Py.rep d v H1 → H1 t = some (.lst xs) → D.nx σ (upd H1 t (.lst (xs.set k v)))) : tAsg te (gSub (tVar i) (tC (.int j)) rSetL) D σ H := h H (Gr.refl H) _ fun d v H1 p g r =>
  ⟨_, hi, t, xs, j, k, rfl, rfl, g.lst ht, hj, kk d v H1 p g r (g.lst ht)⟩
theorem q_rawSet [Py α] {t : Addr} {xs : List V} {i k : Nat} {j : Int} {P : α → Prop} (ht : H t = some (.lst xs)) (hi : σ[i]? = some (some (.ref t))) (h : Ed te σ H P) (hj : ixN xs.length j = some k)
    (kk : ∀ d v H1, P d → Gr H H1 → Py.rep d v H1 → H1 t = some (.lst xs) → tz D σ (upd H1 t (.lst (xs.set k v)))) : tSeq (tAsg te (gSub (tVar i) (tC (.int j)) rSetL)) tz D σ H := s_rawSet (D := { D with nx := tz D }) ht hi h hj kk
/-- statements in a row, by what stands between them -/
theorem q_join (J : L2.St → Hp → Prop) (h1 : ∀ tz' : L2.St → Hp → Prop, (∀ σ' H', J σ' H' → tz' σ' H') → tu { D with nx := tz' } σ H) (h3 : ∀ σ' H', J σ' H' → tz D σ' H') : tSeq tu tz D σ H := h1 _ h3
theorem ea_n : EvA tNil σ H (fun vs _ => vs = []) := fun H1 _ _ q => q [] H1 (Gr.refl H1) rfl
theorem ea_c [Py α] {P : α → Prop} {R : List V → Hp → Prop} {tr : TA} (h : Ed te σ H P) (hr : EvA tr σ H R) : EvA (tCons te tr) σ H (fun vs H' => ∃ d v ws, vs = v :: ws ∧ P d ∧ Py.rep d v H' ∧ R ws H') := fun H1 e Q q =>
  h H1 e _ fun d v H2 p e2 r => hr H2 (e.trans e2) _ fun ws H3 e3 rr => q _ H3 (e2.trans e3) ⟨d, v, ws, rfl, p, Py.mono e3 r, rr⟩
theorem s_retLst {ta : TA} {R : List V → Hp → Prop} (h : EvA ta σ H R) (k : ∀ vs H1, R vs H1 → Gr H H1 → vs.length ≤ sizeLine ∧ ∀ p, H1 p = none → D.rt (.ref p) (upd H1 p (.lst vs))) : tRet (tLst ta) D σ H := h H (Gr.refl H) _ fun vs H1 g r => k vs H1 r g
end
end Zw
/-! Z16: data of any shape. -/
namespace Zw
open PySem L2 RZ PySem.Spec PyProof.Rows SrtO PySem.SeqAt Ob
mutual
theorem Dp.gr {K : PySem.W.Frag} {H H' : Hp} (g : Gr H H') : ∀ (d : PyData) (v : V), Dp K H v d → Dp K H' v d
  | .none, _, h => by cases h; exact .non
  | .bool b, _, h => by cases h; exact .bl b
  | .int i, _, h => by cases h; exact .int i
  | .str x, _, h => by cases h; exact .str x
  | .list ds, _, h => by
    cases h with
    | lst e r => exact .lst (g.sqL e) (DpAll.gr g ds _ r)
  | .tuple ds, _, h => by
    cases h with
    | tup e r => exact .tup (g.sqT e) (DpAll.gr g ds _ r)
  | .dict _, _, h => nomatch h
theorem DpAll.gr {K : PySem.W.Frag} {H H' : Hp} (g : Gr H H') : ∀ (ds : List PyData) (vs : List V), DpAll K H vs ds → DpAll K H' vs ds
  | [], _, h => by cases h; exact .nil
  | d :: ds, _, h => by
    cases h with
    | cons a b => exact .cons (Dp.gr g d _ a) (DpAll.gr g ds _ b)
end
theorem dpRL {K : PySem.W.Frag} {H : Hp} : ∀ {ds : List PyData} {vs : List V}, DpAll K H vs ds → RL (fun d x => Dp K H x d) ds vs
  | [], _, h => by cases h; exact RL.nil
  | d :: ds, _, h => by
    cases h with
    | cons a b => exact (dpRL b).cons a
/-- a value that shows the data d -/
structure Dq (K : PySem.W.Frag) where
  d : PyData
instance instDq {K : PySem.W.Frag} : Py (Dq K) := ⟨fun x v H => Dp K H v x.d, fun g h => Dp.gr g _ _ h⟩
/-- a pair of two such -/
structure Dq2 (K : PySem.W.Frag) where
  d : PyData
def Dq2.at {K : PySem.W.Frag} (x : Dq2 K) (v : V) (H : Hp) : Prop := ∃ p y z, v = .ref p ∧ H p = some (.tup [y, z]) ∧ Dp K H y x.d ∧ Dp K H z x.d
instance instDq2 {K : PySem.W.Frag} : Py (Dq2 K) := ⟨fun x v H => x.at v H, fun g ⟨p, y, z, e, h, a, b⟩ => ⟨p, y, z, e, g.tup _ _ h, Dp.gr g _ _ a, Dp.gr g _ _ b⟩⟩
def tyN : PyData → String
  | .none => "NoneType"
  | .bool _ => "bool"
  | .int _ => "int"
  | .str _ => "str"
  | .list _ => "list"
  | .tuple _ => "tuple"
  | .dict _ => "dict"
theorem tyX_lst {K : PySem.W.Frag} {H : Hp} {a : Addr} {xs : List V} (h : SqL K H a xs) : TyX K H (.ref a) (.type "list") := by
  rcases h with (h | ⟨o, h⟩) | ⟨o, its, n, h, c, _⟩
  · exact .base (.lst h)
  · exact .base (.frz h)
  · exact .kList h c
theorem tyX_tup {K : PySem.W.Frag} {H : Hp} {a : Addr} {xs : List V} (h : SqT K H a xs) : TyX K H (.ref a) (.type "tuple") := by
  rcases h with (h | ⟨o, h⟩) | ⟨o, its, n, h, c, _⟩
  · exact .base (.tup h)
  · exact .fTuple h
  · exact .kTuple h c
theorem tyX_dp {K : PySem.W.Frag} {H : Hp} {v : V} {d : PyData} (h : Dp K H v d) : TyX K H v (.type (tyN d)) := by
  cases h with
  | non => exact .base .non
  | bl b => exact .base (.bl b)
  | int i => exact .base (.int i)
  | str x => exact .base (.str x)
  | lst e r => exact tyX_lst e
  | tup e r => exact tyX_tup e
section
variable {K : PySem.W.Frag} {σ : L2.St} {H H0 Hb H' : Hp} {ta tb tc te tj tl ty tv : TE} {tt : TT} {tz tu : TS} {D : Ends} {g : TG} {α β γ : Type}
theorem ev_isiQ {x : Dq K} {T : String} {b : Bool} (ha : Ev ta σ H x) (hk : kitB (tyN x.d) T = some b) : Ev (tCB (rIsi K) (tCons ta (tCons (tC (.ty T)) tNil))) σ H b := fun H1 g Q q => ha H1 g _ fun d' v H2 e g2 r => by
  subst e
  exact ⟨v, .ty T, .type (tyN d'.d), .type T, b, rfl, .ty T, tyX_dp r, kit_ty hk, q _ _ H2 rfl g2 rfl⟩
theorem ev_lenQ {x : Dq K} {ds : List PyData} (h : Ev te σ H x) (hx : x.d = .list ds ∨ x.d = .tuple ds) : Ev (tCB (rLenA K) (tCons te tNil)) σ H (ds.length : Int) := ev_cb1 h fun v H r Q q => by
  obtain ⟨d⟩ := x
  rcases hx with e | e <;> (simp only at e; subst e)
  · cases r with
    | lst e r => exact ⟨_, ds.length, rfl, .inl ⟨_, e, (dpRL r).1⟩, q _ _ H rfl (Gr.refl H) rfl⟩
  · cases r with
    | tup e r => exact ⟨_, ds.length, rfl, .inr ⟨_, e, (dpRL r).1⟩, q _ _ H rfl (Gr.refl H) rfl⟩
theorem ev_eqQ {x : Dq K} (ha : Ev ta σ H x) (hb : Ev tb σ H x) (hs : SeqAt.shaped x.d = true) (he : PyData.eqv x.d x.d = true) : Ev (tOp (rEqD K) ta tb) σ H true := ev_op ha hb fun a b H rx ry Q q =>
  ⟨x.d, x.d, rx, ry, hs, hs, by rw [he]; exact q _ _ H rfl (Gr.refl H) rfl⟩
/-- zip of two that show the same -/
theorem src_zipQ {x : Dq K} {ds : List PyData} (h : Ev ta σ H x) (h' : Ev tb σ H x) (hx : x.d = .list ds ∨ x.d = .tuple ds) : Src (iZipA K (tCons ta (tCons tb tNil))) σ H (ds.map (Dq2.mk (K := K))) := fun H1 g R r => ea_2 h h' H1 g _ fun vs H2 g2 ⟨v, w, d, d', ev, pd, pd', r1, r2⟩ => by
  subst ev pd pd'
  obtain ⟨d⟩ := d'
  have fin : ∀ {xs ys : List V} {i : Nat} {z : Dq2 K} {H3 : Hp}, RL (fun d x => Dp K H2 x d) ds xs → RL (fun d x => Dp K H2 x d) ds ys → Gr H2 H3 → (ds.map (Dq2.mk (K := K)))[i]? = some z → ∃ d x y, z = ⟨d⟩ ∧ xs[i]? = some x ∧ ys[i]? = some y ∧ Dp K H3 x d ∧ Dp K H3 y d := fun a1 a2 k hz => by
    rw [List.getElem?_map] at hz
    rename_i xs ys i z H3
    cases e : ds[i]? with
    | none => rw [e] at hz; cases hz
    | some d =>
      rw [e] at hz
      cases hz
      obtain ⟨x, hx, rx⟩ := a1.get e
      obtain ⟨y, hy, ry⟩ := a2.get e
      exact ⟨d, x, y, rfl, hx, hy, Dp.gr k _ _ rx, Dp.gr k _ _ ry⟩
  rcases hx with e | e <;> (simp only at e; subst e)
  · cases r1 with
    | @lst a xs _ ha a1 =>
      cases r2 with
      | @lst b ys _ hb a2 =>
        refine ⟨a, b, xs, ys, rfl, .inl ⟨ha, hb, r _ H2 g2 ⟨fun H3 k => ⟨xs, ys, k.sqL ha, k.sqL hb, .inl (by rw [List.length_map, (dpRL a1).1]; exact Nat.le_refl _)⟩, fun H3 k i z hz => ?_⟩⟩⟩
        obtain ⟨d, x, y, rfl, hx, hy, rx, ry⟩ := fin (dpRL a1) (dpRL a2) k hz
        refine ⟨⟨xs, ys, x, y, k.sqL ha, k.sqL hb, hx, hy⟩, fun v' H4 hv => ?_⟩
        obtain ⟨T, x', y', ev', hT, e4, hx', hy'⟩ := hv
        have q1 := hx' xs (k.sqL ha)
        have q2 := hy' ys (k.sqL hb)
        rw [hx] at q1
        rw [hy] at q2
        cases q1
        cases q2
        subst e4
        exact ⟨Gr.new hT, T, x, y, ev', upd_same, Dp.gr (Gr.new hT) _ _ rx, Dp.gr (Gr.new hT) _ _ ry⟩
  · cases r1 with
    | @tup a xs _ ha a1 =>
      cases r2 with
      | @tup b ys _ hb a2 =>
        refine ⟨a, b, xs, ys, rfl, .inr ⟨ha, hb, r _ H2 g2 ⟨fun H3 k => ⟨xs, ys, k.sqT ha, k.sqT hb, .inl (by rw [List.length_map, (dpRL a1).1]; exact Nat.le_refl _)⟩, fun H3 k i z hz => ?_⟩⟩⟩
        obtain ⟨d, x, y, rfl, hx, hy, rx, ry⟩ := fin (dpRL a1) (dpRL a2) k hz
        refine ⟨⟨xs, ys, x, y, k.sqT ha, k.sqT hb, hx, hy⟩, fun v' H4 hv => ?_⟩
        obtain ⟨T, x', y', ev', hT, e4, hx', hy'⟩ := hv
        have q1 := hx' xs (k.sqT ha)
        have q2 := hy' ys (k.sqT hb)
        rw [hx] at q1
        rw [hy] at q2
        cases q1
        cases q2
        subst e4
        exact ⟨Gr.new hT, T, x, y, ev', upd_same, Dp.gr (Gr.new hT) _ _ rx, Dp.gr (Gr.new hT) _ _ ry⟩
/-- [.. for a, b in zip(x, y)] -/
theorem el_mapQ [PyI γ] {wi : TI} {i j : Nat} {vs : List Nat} {ds : List PyData} {v : PyData → γ} (hs : Src wi σ H (ds.map (Dq2.mk (K := K)))) (hz : ds.length ≤ 100000) (hw : ∀ x y, wipe (((wipe σ vs).set i (some x)).set j (some y)) vs = wipe σ vs)
    (he : ∀ d x y H', d ∈ ds → Gr H H' → Dp K H' x d → Dp K H' y d → Ev te (((wipe σ vs).set i (some x)).set j (some y)) H' (v d)) : Ev (tLc wi (gTup K 2 (gCons (gName i) (gCons (gName j) gNil))) tYes te vs) σ H (Ls.mk (ds.map v)) := by
  have h := el_lc (α := Dq2 K) (te := te) (tt := tYes) (fun d σ2 H => ∃ x y, σ2 = ((wipe σ vs).set i (some x)).set j (some y) ∧ Dp K H x d.d ∧ Dp K H y d.d) (fun _ => true) (fun d => v d.d) hs (by rw [List.length_map]; exact hz)
    (g := gTup K 2 (gCons (gName i) (gCons (gName j) gNil))) (fun d x H' ⟨p, y, z, e, hp, r1, r2⟩ Q q => ⟨p, _, e, .of hp, rfl, y, _, rfl, z, _, rfl, rfl, q _ (hw y z) ⟨y, z, rfl, r1, r2⟩⟩) (fun _ _ _ _ _ _ => et_yes) (fun d σ2 H' m g ⟨x, y, e, r, r'⟩ _ => by
      subst e
      obtain ⟨d0, hd0, rfl⟩ := List.mem_map.mp m
      exact he d0 x y H' hd0 g r r')
  rw [filter_yes, List.map_map] at h
  exact h
end
theorem u65 {k : Nat} {A : Around} (r : Room k A) : A.units + 65 < cLine := by have := r.un; omega
theorem eqvAll_self : ∀ l : List PyData, (∀ d ∈ l, PyData.eqv d d = true) → PyData.eqvAll l l = true
  | [], _ => by simp [PyData.eqvAll]
  | d :: l, h => by rw [PyData.eqvAll, h d List.mem_cons_self, eqvAll_self l fun x m => h x (List.mem_cons_of_mem _ m)]; rfl
/-- data without dicts, of depth n at most -/
def Pln : Nat → PyData → Prop
  | _, .none => True
  | _, .bool _ => True
  | _, .int _ => True
  | _, .str s => PyData.strOk s = true
  | n + 1, .list l => l.length ≤ 100000 ∧ ∀ d ∈ l, Pln n d
  | n + 1, .tuple l => l.length ≤ 100000 ∧ ∀ d ∈ l, Pln n d
  | _, _ => False
mutual
theorem Pln.eqv : ∀ (n : Nat) (d : PyData), Pln n d → PyData.eqv d d = true
  | _, .none, _ => by simp [PyData.eqv]
  | _, .bool b, _ => by simp [PyData.eqv]
  | _, .int i, _ => by simp [PyData.eqv]
  | _, .str x, _ => by simp [PyData.eqv]
  | 0, .list l, h => by simp [Pln] at h
  | 0, .tuple l, h => by simp [Pln] at h
  | _, .dict l, h => by simp [Pln] at h
  | n + 1, .list l, h => by rw [PyData.eqv]; exact Pln.eqvAll n l (by simp [Pln] at h; exact h.2)
  | n + 1, .tuple l, h => by rw [PyData.eqv]; exact Pln.eqvAll n l (by simp [Pln] at h; exact h.2)
theorem Pln.eqvAll : ∀ (n : Nat) (l : List PyData), (∀ d ∈ l, Pln n d) → PyData.eqvAll l l = true
  | n, [], _ => by simp [PyData.eqvAll]
  | n, d :: l, h => by rw [PyData.eqvAll, Pln.eqv n d (h d List.mem_cons_self), Pln.eqvAll n l fun x m => h x (List.mem_cons_of_mem _ m)]; rfl
end
end Zw
/-! Z17: comprehensions whose answers are drawn; new lists in pairs; instances. -/
namespace Zw
open PySem L2 RZ PySem.Spec PyProof.Rows SrtO
/-- what [e for d in ds if t] may be -/
inductive Pk {α β : Type} (T : α → Bool → Prop) (E : α → β → Prop) : List α → List β → Prop where
  | nil : Pk T E [] []
  | yes {ds : List α} {l : List β} {d : α} {x : β} : Pk T E ds l → T d true → E d x → Pk T E (ds ++ [d]) (l ++ [x])
  | no {ds : List α} {l : List β} {d : α} : Pk T E ds l → T d false → Pk T E (ds ++ [d]) l
theorem Pk.le {α β : Type} {T : α → Bool → Prop} {E : α → β → Prop} {ds : List α} {l : List β} (h : Pk T E ds l) : l.length ≤ ds.length := by
  induction h with
  | nil => exact Nat.le_refl _
  | yes _ _ _ ih => simp; exact ih
  | no _ _ ih => simp; omega
theorem Pk.all {α β : Type} {T : α → Bool → Prop} {E : α → β → Prop} {ds : List α} {l : List β} (h : Pk T E ds l) : ∀ x ∈ l, ∃ d ∈ ds, E d x := by
  induction h with
  | nil => intro x m; simp at m
  | yes _ _ e ih =>
    intro x m
    rcases List.mem_append.mp m with m | m
    · obtain ⟨d, hd, he⟩ := ih x m
      exact ⟨d, List.mem_append_left _ hd, he⟩
    · simp at m
      subst m
      exact ⟨_, List.mem_append_right _ List.mem_cons_self, e⟩
  | no _ _ ih =>
    intro x m
    obtain ⟨d, hd, he⟩ := ih x m
    exact ⟨d, List.mem_append_left _ hd, he⟩
theorem Pk.len {α β : Type} {T : α → Bool → Prop} {E : α → β → Prop} {ds : List α} {l : List β} (h : Pk T E ds l) (ht : ∀ d, ¬ T d false) : l.length = ds.length := by
  induction h with
  | nil => rfl
  | yes _ _ _ ih => simp; exact ih
  | no _ t _ => exact absurd t (ht _)
theorem Pk.sub {α β : Type} {T : α → Bool → Prop} {v : α → β} {ds : List α} {l : List β} (h : Pk T (fun d x => x = v d) ds l) : l.Sublist (ds.map v) := by
  induction h with
  | nil => exact List.Sublist.refl _
  | yes _ _ e ih => rw [List.map_append, e]; exact List.Sublist.append ih (List.Sublist.refl _)
  | no _ _ ih => rw [List.map_append]; exact ih.trans (List.sublist_append_left _ _)
section
variable {K : PySem.W.Frag} {σ : L2.St} {H H0 Hb H' : Hp} {ta tb tc te tj tl ty tv : TE} {tt : TT} {tz tu : TS} {D : Ends} {g : TG} {α β γ : Type}
theorem el_gen [Py α] [PyI β] {wi : TI} {g : TG} {vs : List Nat} {ds : List α} (S : α → L2.St → Hp → Prop) (T : α → Bool → Prop) (E : α → β → Prop) (hs : Src wi σ H ds) (hz : ds.length ≤ 100000)
    (hg : ∀ d x H', Py.rep d x H' → ∀ Q : L2.St → Hp → Prop, (∀ σ2, wipe σ2 vs = wipe σ vs → S d σ2 H' → Q σ2 H') → g x (wipe σ vs) H' Q)
    (ht : ∀ d σ2 H', d ∈ ds → Gr H H' → S d σ2 H' → EdT tt σ2 H' (T d)) (he : ∀ d σ2 H', d ∈ ds → Gr H H' → S d σ2 H' → T d true → Ed te σ2 H' (E d)) :
    Ed (tLc wi g tt te vs) σ H (fun (l : Ls β) => Pk T E ds l.l) := by
  intro H1 g1 Q q
  refine hs H1 g1 _ fun J H2 g2 w D hD => ?_
  have gD : Gr H2 (upd H2 D (.lst [])) := Gr.new hD
  refine ⟨fun i m H' => m = ds.length - i ∧ i ≤ ds.length ∧ Gr H2 H' ∧ ∃ l xs, Pk T E (ds.take i) l ∧ H' D = some (.lst xs) ∧ RL (fun a x => PyI.rep a x H') l xs, ⟨ds.length, by simp, Nat.zero_le _, gD, [], [], .nil, upd_same, RL.nil⟩, ?_⟩
  rintro i m H3 ⟨rfl, hi, g3, l, xs, pk, hx, rx⟩
  by_cases hlt : i < ds.length
  · have hd : ds[i]? = some ds[i] := by simp [hlt]
    obtain ⟨hgo, hy⟩ := w.go H3 g3 i _ hd
    have hmem : ds[i] ∈ ds := List.getElem_mem hlt
    have htk : ds.take (i + 1) = ds.take i ++ [ds[i]] := by rw [List.take_add_one, hd]; rfl
    have hle : l.length ≤ 100000 := Nat.le_trans pk.le (by rw [List.length_take]; omega)
    refine .inr ⟨hgo, fun H' => i + 1 ≤ ds.length ∧ Gr H2 H' ∧ ∃ l xs, Pk T E (ds.take (i + 1)) l ∧ H' D = some (.lst xs) ∧ RL (fun a x => PyI.rep a x H') l xs, fun H' h => ⟨ds.length - (i + 1), by omega, rfl, h.1, h.2⟩, fun x H4 hyl => ?_⟩
    obtain ⟨g4, r4⟩ := hy x H4 hyl
    refine hg _ x H4 r4 _ fun σ2 hw hS => ⟨hw, ?_⟩
    have gH4 : Gr H H4 := ((g1.trans g2).trans g3).trans g4
    refine ht _ σ2 H4 hmem gH4 hS H4 (Gr.refl _) _ fun b H5 eb g5 => ?_
    cases b with
    | true =>
      refine he _ σ2 H4 hmem gH4 hS eb H5 g5 _ fun z y H6 ez g6 r6 => ?_
      have g36 : Gr H3 H6 := (g4.trans g5).trans g6
      have hp : TupK H6 (upd H6 D (.lst (xs ++ [y]))) := TupK.put (g36.lst hx) (fun _ z => nomatch z)
      refine ⟨xs, g36.lst hx, by rw [← rx.1]; exact Nat.lt_of_le_of_lt hle (by decide), hlt, (g3.trans g36).mut hD (g36.lst hx) (fun _ z => nomatch z), l ++ [z], xs ++ [y], by rw [htk]; exact .yes pk eb ez, upd_same, ?_⟩
      exact (rx.mono fun _ _ z => PyI.keep (g36.tup.trans hp) z).snoc (PyI.keep hp r6)
    | false => exact ⟨hlt, g3.trans (g4.trans g5), l, xs, by rw [htk]; exact .no pk eb, (g4.trans g5).lst hx, rx.mono fun _ _ z => PyI.keep (g4.trans g5).tup z⟩
  · have e : i = ds.length := by omega
    subst e
    rw [List.take_length] at pk
    exact .inl ⟨w.stop H3 g3, q (Ls.mk l) _ H3 pk (g2.trans g3) ⟨D, xs, rfl, hx, rx⟩⟩
theorem el_genN [Py α] [PyI β] {wi : TI} {j : Nat} {vs : List Nat} {ds : List α} (T : α → Bool → Prop) (E : α → β → Prop) (hs : Src wi σ H ds) (hz : ds.length ≤ 100000) (hw : ∀ x, wipe ((wipe σ vs).set j (some x)) vs = wipe σ vs)
    (ht : ∀ d x H', d ∈ ds → Gr H H' → Py.rep d x H' → EdT tt ((wipe σ vs).set j (some x)) H' (T d)) (he : ∀ d x H', d ∈ ds → Gr H H' → Py.rep d x H' → T d true → Ed te ((wipe σ vs).set j (some x)) H' (E d)) :
    Ed (tLc wi (gName j) tt te vs) σ H (fun (l : Ls β) => Pk T E ds l.l) :=
  el_gen (SlotN (wipe σ vs) j) T E hs hz (fun d x H' r Q q => q _ (hw x) ⟨x, rfl, r⟩) (fun d σ2 H' m g ⟨x, e, r⟩ => by subst e; exact ht d x H' m g r) (fun d σ2 H' m g ⟨x, e, r⟩ hf => by subst e; exact he d x H' m g r hf)
/-- [e for d in src], e drawn -/
theorem el_anyN [Py α] [PyI β] {wi : TI} {j : Nat} {vs : List Nat} {ds : List α} {P : β → Prop} (hs : Src wi σ H ds) (hz : ds.length ≤ 100000) (hw : ∀ x, wipe ((wipe σ vs).set j (some x)) vs = wipe σ vs)
    (he : ∀ d x H', d ∈ ds → Gr H H' → Py.rep d x H' → Ed te ((wipe σ vs).set j (some x)) H' P) : Ed (tLc wi (gName j) tYes te vs) σ H (fun (l : Ls β) => l.l.length = ds.length ∧ ∀ x ∈ l.l, P x) :=
  (el_genN (fun _ b => b = true) (fun _ x => P x) hs hz hw (fun _ _ _ _ _ _ => et_yes) (fun d x H' m g r _ => he d x H' m g r)).imp fun l p => ⟨p.len (fun _ z => nomatch z), fun x m => by obtain ⟨_, _, h⟩ := p.all x m; exact h⟩
/-- tests, drawn -/
theorem edt_test {P : Bool → Prop} (h : Ed te σ H P) : EdT (tTest te) σ H P := fun H1 g Q q => h H1 g _ fun d v H2 p g2 r => ⟨d, by rw [show v = V.bl d from r], q d H2 p g2⟩
theorem edt_B {P : Bool → Prop} (h : Ed te σ H P) : EdT (tB te) σ H P := fun H1 g Q q => h H1 g _ fun d v H2 p g2 r => ⟨d, r, q d H2 p g2⟩
/-- a, l = e, [] -/
theorem q_parNew [Py α] {i j : Nat} {P : α → Prop} (h : Ed ta σ H P) (k : ∀ a v H1 p, P a → Gr H H1 → Py.rep a v H1 → H1 p = none → tz D ((σ.set i (some v)).set j (some (.ref p))) (upd H1 p (.lst []))) : tSeq (tPar i j (tCons ta (tCons (tLst tNil) tNil))) tz D σ H :=
  h H (Gr.refl H) _ fun a v H1 p e r => ⟨Nat.zero_le _, fun q hq => ⟨v, .ref q, rfl, k a v H1 q p e r hq⟩⟩
theorem ed_lst1 [Py α] {P : α → Prop} (h : Ed te σ H P) : Ed (tLst (tCons te tNil)) σ H (fun (l : Ls α) => ∃ d, l.l = [d] ∧ P d) := fun H1 g Q q => h H1 g _ fun d v H2 p g2 r =>
  ⟨(by show 1 ≤ sizeLine; decide), fun a ha => q (Ls.mk [d]) _ _ ⟨d, rfl, p⟩ (g2.trans (Gr.new ha)) ⟨a, [v], rfl, upd_same, RL.cons (Py.mono (Gr.new ha) r) RL.nil⟩⟩
theorem s_retV [Py α] {i : Nat} {d : α} {v : V} (h : σ[i]? = some (some v)) (r : Py.rep d v H) (k : D.rt v H) : tRet (tVar i) D σ H := ⟨v, h, k⟩
/-- a value, and the heap keeps its houses apart -/
structure Nd (α : Type) where
  v : α
instance [Py α] : Py (Nd α) := ⟨fun d v H => Py.rep d.v v H ∧ Neat H, fun g ⟨a, n⟩ => ⟨Py.mono g a, g.neat n⟩⟩
theorem ev_nd [Py α] {d : α} (h : Ev te σ H d) (n : Neat H) : Ev te σ H (Nd.mk d) := fun H1 g Q q => h H1 g _ fun d v H2 e g2 r => by subst e; exact q _ v H2 rfl g2 ⟨r, (g.trans g2).neat n⟩
/-- the instance's own dict and itself stand apart from all that was -/
theorem gr_make {H1 : Hp} {x dx C : Addr} (hx : H1 x = none) (hd : H1 dx = none) (ne : dx ≠ x) : Gr H1 (upd (upd H1 dx (.own x)) x (.ins C dx [])) :=
  (Gr.new hd).trans (Gr.new (by rw [upd_ne (Ne.symm ne)]; exact hx) (by intro _ _ _ _ _ z; injection z with _ _ z; cases z))
end
/-! ### what is sorted -/
theorem sortO_of_perm {α : Type} [PyO α] {l m : List α} (p : l.Perm m) : sortO l = sortO m := sortO_eq (sortO_srtd l) ((sortO_perm l).trans p)
theorem sortO_ext {α : Type} [PyO α] {l m : List α} (hl : l.Nodup) (hm : m.Nodup) (h : ∀ x, x ∈ l ↔ x ∈ m) : sortO l = sortO m := sortO_of_perm ((List.perm_ext_iff_of_nodup hl hm).mpr h)
theorem mem_sortO {α : Type} [PyO α] {l : List α} {x : α} : x ∈ sortO l ↔ x ∈ l := (sortO_perm l).mem_iff
theorem sortO_nodup {α : Type} [PyO α] {l : List α} (h : l.Nodup) : (sortO l).Nodup := (sortO_perm l).nodup_iff.mpr h
theorem sortO_strict {α : Type} [PyO α] {l : List α} (h : l.Nodup) : (sortO l).Pairwise (fun a b => PyO.lt a b = true) := by
  have h1 := sortO_srtd l
  have h2 := sortO_nodup h
  refine (List.Pairwise.and h1 h2).imp fun {a b} z => ?_
  cases q : PyO.lt a b with
  | true => rfl
  | false => exact absurd (PyO.tri a b q z.1) z.2
theorem sortO_le (l : List Int) : (sortO l).Pairwise (· ≤ ·) := (sortO_srtd l).imp fun {a b} z => by
  have : decide (b < a) = false := z
  have := of_decide_eq_false this
  omega
theorem sortO_id {l : List Int} (h : l.Pairwise (· ≤ ·)) : sortO l = l := (sortO_eq (h.imp fun {a b} z => by show decide (b < a) = false; exact decide_eq_false (by omega)) (List.Perm.refl l)).symm
/-- sorted, by insertion -/
def insO {α : Type} [PyO α] (x : α) : List α → List α
  | [] => [x]
  | y :: l => if PyO.lt y x = true then y :: insO x l else x :: y :: l
def insS {α : Type} [PyO α] : List α → List α
  | [] => []
  | x :: l => insO x (insS l)
theorem insO_perm {α : Type} [PyO α] (x : α) : ∀ l : List α, (insO x l).Perm (x :: l)
  | [] => List.Perm.refl _
  | y :: l => by
    unfold insO
    split
    · exact ((insO_perm x l).cons y).trans (List.Perm.swap x y l)
    · exact List.Perm.refl _
theorem insS_perm {α : Type} [PyO α] : ∀ l : List α, (insS l).Perm l
  | [] => List.Perm.refl _
  | x :: l => (insO_perm x (insS l)).trans ((insS_perm l).cons x)
theorem insO_srtd {α : Type} [PyO α] (x : α) : ∀ l : List α, Srtd PyO.lt l → Srtd PyO.lt (insO x l)
  | [], _ => by unfold insO Srtd; simp
  | y :: l, h => by
    unfold insO
    have h' := List.pairwise_cons.mp h
    split
    · rename_i q
      refine List.pairwise_cons.mpr ⟨fun z hz => ?_, insO_srtd x l h'.2⟩
      rcases List.mem_cons.mp ((insO_perm x l).mem_iff.mp hz) with e | e
      · rw [e]; exact PyO.asym _ _ q
      · exact h'.1 z e
    · rename_i q
      have q' : PyO.lt y x = false := by simpa using q
      refine List.pairwise_cons.mpr ⟨fun z hz => ?_, h⟩
      rcases List.mem_cons.mp hz with e | e
      · rw [e]; exact q'
      · exact PyO.ntr _ _ _ q' (h'.1 z e)
theorem insS_srtd {α : Type} [PyO α] : ∀ l : List α, Srtd PyO.lt (insS l)
  | [] => List.Pairwise.nil
  | x :: l => insO_srtd x _ (insS_srtd l)
theorem sortO_ins {α : Type} [PyO α] (l : List α) : sortO l = insS l := (sortO_eq (insS_srtd l) (insS_perm l)).symm
end Zw
/-! Z18: where the watchers come to (plain). -/
namespace Zw
open PySem L2 RZ PySem.Spec PyProof.Rows SrtO
theorem snoc_ind {α : Type} {P : List α → Prop} (h0 : P []) (h1 : ∀ l a, P l → P (l ++ [a])) : ∀ l, P l := fun l => by
  have : ∀ m : List α, P m.reverse := fun m => by
    induction m with
    | nil => exact h0
    | cons a m ih => rw [List.reverse_cons]; exact h1 _ _ ih
  have := this l.reverse
  rwa [List.reverse_reverse] at this
/-- one step each -/
def Fw (nb : Int → Int → Prop) : List Int → List Int → Prop
  | [], [] => True
  | w :: ws, o :: os => nb w o ∧ Fw nb ws os
  | _, _ => False
theorem Fw.imp {nb nb' : Int → Int → Prop} (h : ∀ a b, nb a b → nb' a b) : ∀ {ws os : List Int}, Fw nb ws os → Fw nb' ws os
  | [], [], _ => trivial
  | _ :: _, _ :: _, f => ⟨h _ _ f.1, Fw.imp h f.2⟩
  | [], _ :: _, f => f.elim
  | _ :: _, [], f => f.elim
theorem Fw.impM {nb nb' : Int → Int → Prop} : ∀ {ws os : List Int}, (∀ a ∈ ws, ∀ b, nb a b → nb' a b) → Fw nb ws os → Fw nb' ws os
  | [], [], _, _ => trivial
  | _ :: _, _ :: _, h, f => ⟨h _ List.mem_cons_self _ f.1, Fw.impM (fun a m => h a (List.mem_cons_of_mem _ m)) f.2⟩
  | [], _ :: _, _, f => f.elim
  | _ :: _, [], _, f => f.elim
theorem Fw.length {nb : Int → Int → Prop} : ∀ {ws os : List Int}, Fw nb ws os → os.length = ws.length
  | [], [], _ => rfl
  | _ :: _, _ :: _, f => by simp [Fw.length f.2]
  | [], _ :: _, f => f.elim
  | _ :: _, [], f => f.elim
theorem Fw.flip {nb nb' : Int → Int → Prop} : ∀ {ws os : List Int}, (∀ a b, nb a b → nb' b a) → Fw nb ws os → Fw nb' os ws
  | [], [], _, _ => trivial
  | _ :: _, _ :: _, h, f => ⟨h _ _ f.1, Fw.flip h f.2⟩
  | [], _ :: _, _, f => f.elim
  | _ :: _, [], _, f => f.elim
theorem Fw.self {nb : Int → Int → Prop} : ∀ {ws : List Int}, (∀ a ∈ ws, nb a a) → Fw nb ws ws
  | [], _ => trivial
  | _ :: _, h => ⟨h _ List.mem_cons_self, Fw.self fun a m => h a (List.mem_cons_of_mem _ m)⟩
theorem Fw.mem {nb : Int → Int → Prop} : ∀ {ws os : List Int}, Fw nb ws os → ∀ o ∈ os, ∃ w ∈ ws, nb w o
  | [], [], _ => fun o m => by simp at m
  | w :: ws, o :: os, f => fun x m => by
    rcases List.mem_cons.mp m with e | m
    · subst e; exact ⟨w, List.mem_cons_self, f.1⟩
    · obtain ⟨w', m', h⟩ := Fw.mem f.2 x m
      exact ⟨w', List.mem_cons_of_mem _ m', h⟩
  | [], _ :: _, f => f.elim
  | _ :: _, [], f => f.elim
theorem Fw.snoc {nb : Int → Int → Prop} {w : Int} : ∀ {ws os : List Int}, Fw nb (ws ++ [w]) os ↔ ∃ os' o, os = os' ++ [o] ∧ Fw nb ws os' ∧ nb w o
  | [], [] => ⟨fun f => f.elim, fun ⟨os', o, e, _⟩ => by cases os' <;> cases e⟩
  | [], [o] => ⟨fun f => ⟨[], o, rfl, trivial, f.1⟩, fun ⟨os', o', e, f, h⟩ => by
    cases os' with
    | nil => cases e; exact ⟨h, trivial⟩
    | cons a b => exact f.elim⟩
  | [], o :: o2 :: os => ⟨fun f => f.2.elim, fun ⟨os', o', e, f, h⟩ => by
    cases os' with
    | nil => cases e
    | cons a b => exact f.elim⟩
  | v :: ws, [] => ⟨fun f => f.elim, fun ⟨os', o, e, _⟩ => by cases os' <;> cases e⟩
  | v :: ws, o :: os => by
    show nb v o ∧ Fw nb (ws ++ [w]) os ↔ _
    rw [Fw.snoc (ws := ws) (os := os)]
    constructor
    · rintro ⟨h, os', o', rfl, f, h'⟩
      exact ⟨o :: os', o', rfl, ⟨h, f⟩, h'⟩
    · rintro ⟨os', o', e, f, h'⟩
      cases os' with
      | nil => exact f.elim
      | cons a b => cases e; exact ⟨f.1, b, o', rfl, f.2, h'⟩
theorem Fw.perm {nb : Int → Int → Prop} {os os' : List Int} (p : os.Perm os') : ∀ {ws : List Int}, Fw nb os ws → ∃ ws', ws.Perm ws' ∧ Fw nb os' ws' := by
  induction p with
  | nil => exact fun {ws} f => ⟨ws, List.Perm.refl _, f⟩
  | cons x _ ih => exact fun {ws} f => match ws, f with
    | w :: ws, f => by obtain ⟨ws', p, g⟩ := ih f.2; exact ⟨w :: ws', p.cons w, f.1, g⟩
    | [], f => f.elim
  | swap x y l => exact fun {ws} f => match ws, f with
    | a :: b :: ws, f => ⟨b :: a :: ws, List.Perm.swap b a ws, f.2.1, f.1, f.2.2⟩
    | [], f => f.elim
    | [_], f => f.2.elim
  | trans _ _ ih1 ih2 =>
    intro ws f
    obtain ⟨w1, p1, f1⟩ := ih1 f
    obtain ⟨w2, p2, f2⟩ := ih2 f1
    exact ⟨w2, p1.trans p2, f2⟩
theorem sortO_snoc (os : List Int) (o : Int) : sortO (sortO os ++ [o]) = sortO (os ++ [o]) := sortO_of_perm ((sortO_perm os).append_right [o])
theorem mem_stepsKV {rows : List (List Int)} {x : List Int} : ∀ ws : List Int, x ∈ keysD (stepsKV rows ws) ↔ ∃ os, Fw (fun w o => o ∈ rows.getD w.toNat []) ws os ∧ x = sortO os := by
  intro ws
  induction ws using snoc_ind generalizing x with
  | h0 =>
    unfold stepsKV keysD
    simp
    constructor
    · rintro rfl; exact ⟨[], trivial, by rw [sortO_ins]; rfl⟩
    · rintro ⟨os, f, rfl⟩
      cases os with
      | nil => rw [sortO_ins]; rfl
      | cons a b => exact f.elim
  | h1 ws w ih =>
    rw [stepsKV_snoc]
    unfold stepOut
    rw [mem_stepMid]
    constructor
    · rintro (h | ⟨s, hs, o, ho, rfl⟩)
      · unfold keysD at h; simp at h
      · obtain ⟨os, f, rfl⟩ := ih.mp hs
        exact ⟨os ++ [o], Fw.snoc.mpr ⟨os, o, rfl, f, ho⟩, sortO_snoc os o⟩
    · rintro ⟨os, f, rfl⟩
      obtain ⟨os', o, rfl, f', ho⟩ := Fw.snoc.mp f
      exact .inr ⟨sortO os', ih.mpr ⟨os', f', rfl⟩, o, ho, (sortO_snoc os' o).symm⟩
theorem nodup_putD {κ β : Type} [DecidableEq κ] {l : List (κ × β)} {k : κ} {v : β} (h : (keysD l).Nodup) : (keysD (putD l k v)).Nodup := by
  unfold putD
  split
  · have e : keysD (l.map fun kv => if kv.1 = k then (kv.1, v) else kv) = keysD l := by
      unfold keysD
      rw [List.map_map]
      refine List.map_congr_left fun a _ => ?_
      show (if a.1 = k then (a.1, v) else a).1 = a.1
      split <;> rfl
    rw [e]; exact h
  · rename_i q
    unfold keysD at h ⊢
    rw [List.map_append, List.nodup_append]
    refine ⟨h, by simp, fun a ha b hb => ?_⟩
    simp at hb
    subst hb
    rintro rfl
    obtain ⟨kv, hm, e⟩ := List.mem_map.mp ha
    exact q (List.any_eq_true.mpr ⟨kv, hm, decide_eq_true e⟩)
theorem nodup_stepIn (s : List Int) : ∀ (row : List Int) (acc : KVs), (keysD acc).Nodup → (keysD (row.foldl (stepIn s) acc)).Nodup
  | [], _, h => h
  | _ :: row, _, h => nodup_stepIn s row _ (nodup_putD h)
theorem nodup_stepMid (row : List Int) : ∀ (ks : List (List Int)) (acc : KVs), (keysD acc).Nodup → (keysD (ks.foldl (stepMid row) acc)).Nodup
  | [], _, h => h
  | s :: ks, _, h => nodup_stepMid row ks _ (nodup_stepIn s row _ h)
theorem nodup_stepsKV (rows : List (List Int)) : ∀ ws : List Int, (keysD (stepsKV rows ws)).Nodup := by
  intro ws
  induction ws using snoc_ind with
  | h0 => unfold stepsKV keysD; simp
  | h1 ws w ih => rw [stepsKV_snoc]; exact nodup_stepMid _ _ _ (by unfold keysD; exact List.nodup_nil)

/-! ### the law's own -/
def lawNears (d : Int × List (Int × Int)) : List (List Int) := (rngI 0 d.1.toNat).map fun room => (rngI 0 d.1.toNat).filter fun one => decide (one = room) || decide ((min one room, max one room) ∈ d.2)
def rowExt (row : List Int) (nr : List Int) : List (List Int) := nr.map fun one => row ++ [one]
def rowsStep (nv : List (List Int)) (rows : List (List Int)) (w : Int) : List (List Int) := rows.foldl (fun acc row => acc ++ rowExt row (nv.getD w.toNat [])) []
def rowsM (nv : List (List Int)) (ws : List Int) : List (List Int) := ws.foldl (rowsStep nv) [[]]
def foundStep (kv : KVs) (row : List Int) : KVs := putD kv (sortO row) true
def foundM (rows : List (List Int)) : KVs := rows.foldl foundStep []
def lawCome (nv : List (List Int)) (ws : List Int) : List (List Int) := sortO (keysD (foundM (rowsM nv ws)))
theorem mem_rowFold {nr : List Int} {x : List Int} : ∀ (rows acc : List (List Int)), x ∈ rows.foldl (fun acc row => acc ++ rowExt row nr) acc ↔ x ∈ acc ∨ ∃ row ∈ rows, ∃ o ∈ nr, x = row ++ [o]
  | [], acc => by simp
  | row :: rows, acc => by
    simp only [List.foldl_cons]
    rw [mem_rowFold rows (acc ++ rowExt row nr), List.mem_append]
    unfold rowExt
    rw [List.mem_map]
    simp only [List.mem_cons]
    constructor
    · rintro ((h | ⟨o, ho, e⟩) | ⟨r, hr, h⟩)
      · exact .inl h
      · exact .inr ⟨row, .inl rfl, o, ho, e.symm⟩
      · exact .inr ⟨r, .inr hr, h⟩
    · rintro (h | ⟨r, (rfl | hr), o, ho, e⟩)
      · exact .inl (.inl h)
      · exact .inl (.inr ⟨o, ho, e.symm⟩)
      · exact .inr ⟨r, hr, o, ho, e⟩
theorem mem_rowsM {nv : List (List Int)} {x : List Int} : ∀ ws : List Int, x ∈ rowsM nv ws ↔ Fw (fun w o => o ∈ nv.getD w.toNat []) ws x := by
  intro ws
  induction ws using snoc_ind generalizing x with
  | h0 =>
    unfold rowsM
    simp
    cases x with
    | nil => exact ⟨fun _ => trivial, fun _ => rfl⟩
    | cons a b => exact ⟨fun h => (by cases h), fun f => f.elim⟩
  | h1 ws w ih =>
    unfold rowsM
    rw [List.foldl_append]
    show x ∈ rowsStep nv (rowsM nv ws) w ↔ _
    unfold rowsStep
    rw [mem_rowFold, Fw.snoc]
    constructor
    · rintro (h | ⟨row, hr, o, ho, e⟩)
      · simp at h
      · exact ⟨row, o, e, ih.mp hr, ho⟩
    · rintro ⟨row, o, e, f, ho⟩
      exact .inr ⟨row, ih.mpr f, o, ho, e⟩
theorem mem_foundM {x : List Int} : ∀ (rows : List (List Int)) (acc : KVs), x ∈ keysD (rows.foldl foundStep acc) ↔ x ∈ keysD acc ∨ ∃ row ∈ rows, x = sortO row
  | [], acc => by simp
  | row :: rows, acc => by
    simp only [List.foldl_cons]
    rw [mem_foundM rows]
    unfold foundStep
    rw [mem_putD]
    simp only [List.mem_cons]
    constructor
    · rintro ((h | h) | ⟨r, hr, h⟩)
      · exact .inr ⟨row, .inl rfl, h⟩
      · exact .inl h
      · exact .inr ⟨r, .inr hr, h⟩
    · rintro (h | ⟨r, (rfl | hr), h⟩)
      · exact .inl (.inr h)
      · exact .inl (.inl h)
      · exact .inr ⟨r, hr, h⟩
theorem nodup_foundM : ∀ (rows : List (List Int)) (acc : KVs), (keysD acc).Nodup → (keysD (rows.foldl foundStep acc)).Nodup
  | [], _, h => h
  | _ :: rows, _, h => nodup_foundM rows _ (nodup_putD h)
theorem mem_nbrs {a o : Int} : ∀ l : List (Int × Int), o ∈ nbrs a l ↔ (a, o) ∈ l ∨ (o, a) ∈ l
  | [] => by simp [nbrs]
  | (x, y) :: l => by
    show o ∈ (if x = a then [y] else []) ++ (if y = a then [x] else []) ++ nbrs a l ↔ _
    rw [List.mem_append, List.mem_append, mem_nbrs l]
    simp only [List.mem_cons, Prod.mk.injEq]
    have mi : ∀ (c : Prop) [Decidable c] (z : Int), (o ∈ if c then [z] else []) ↔ c ∧ o = z := fun c _ z => by
      by_cases h : c
      · rw [if_pos h]; simp [h]
      · rw [if_neg h]; simp [h]
    rw [mi, mi]
    constructor
    · rintro ((⟨e1, e2⟩ | ⟨e1, e2⟩) | (h | h))
      · exact .inl (.inl ⟨e1.symm, e2⟩)
      · exact .inr (.inl ⟨e2, e1.symm⟩)
      · exact .inl (.inr h)
      · exact .inr (.inr h)
    · rintro ((⟨e1, e2⟩ | h) | (⟨e1, e2⟩ | h))
      · exact .inl (.inl ⟨e1.symm, e2⟩)
      · exact .inr (.inl h)
      · exact .inl (.inr ⟨e2.symm, e1⟩)
      · exact .inr (.inr h)
/-- near -/
def Near (r : Int) (ds : List (Int × Int)) (w o : Int) : Prop := (0 ≤ w ∧ w < r) ∧ (0 ≤ o ∧ o < r) ∧ (o = w ∨ (w, o) ∈ ds ∨ (o, w) ∈ ds)
theorem Near.symm {r : Int} {ds : List (Int × Int)} {w o : Int} (h : Near r ds w o) : Near r ds o w := ⟨h.2.1, h.1, by rcases h.2.2 with e | e | e; exact .inl e.symm; exact .inr (.inr e); exact .inr (.inl e)⟩
/-! ### x in t, t a tuple of data -/
def rInDT (K : PySem.W.Frag) (neg : Bool) : R2 := fun x y H Q => ∃ d ds, Dp K H x d ∧ Dp K H y (.tuple ds) ∧ SeqAt.shaped d = true ∧ SeqAt.shaped (.tuple ds) = true ∧ Q (.bl (neg ^^ ds.any fun z => PyData.eqv z d)) H
section
variable {X : Cx} {K : PySem.W.Frag} {σ : L2.St} {H : Hp} {ta tb te : TE} {α β : Type}
theorem op_inDT (hu : X.A.units + 65 < cLine) : OpR X (compareOp .In) (rInDT X.K false) := by
  intro pins s σ H x y v u Q I rx ry h
  obtain ⟨d, ds, hd, he, sd, se, q⟩ := h
  obtain ⟨as, r1⟩ := Dp.reads I d x v hd rx
  obtain ⟨bs, r2⟩ := Dp.reads I (.tuple ds) y u he ry
  exact SeqAt.in_tuple_reads r2 r1 (SeqAt.canLay_of_shaped se) (SeqAt.canLay_of_shaped sd) (room_in_shaped sd hu) ⟨.bl _, H, I, rfl, by simpa using q⟩
theorem op_notInDT (hu : X.A.units + 65 < cLine) : OpR X (compareOp .NotIn) (rInDT X.K true) := by
  intro pins s σ H x y v u Q I rx ry h
  obtain ⟨d, ds, hd, he, sd, se, q⟩ := h
  obtain ⟨as, r1⟩ := Dp.reads I d x v hd rx
  obtain ⟨bs, r2⟩ := Dp.reads I (.tuple ds) y u he ry
  exact SeqAt.notIn_tuple_reads r2 r1 (SeqAt.canLay_of_shaped se) (SeqAt.canLay_of_shaped sd) (room_in_shaped sd hu) ⟨.bl _, H, I, rfl, by simpa using q⟩
theorem k_inDT (h : X.K = K) (hu : X.A.units + 65 < cLine) : OpR X (compareOp .In) (rInDT K false) := h ▸ op_inDT hu
theorem k_notInDT (h : X.K = K) (hu : X.A.units + 65 < cLine) : OpR X (compareOp .NotIn) (rInDT K true) := h ▸ op_notInDT hu
theorem any_eqvI [PyI α] [PyDI α] [DecidableEq α] {a : α} : ∀ l : List α, ((l.map PyDI.toD).any fun z => PyData.eqv z (PyDI.toD a)) = decide (a ∈ l)
  | [] => by simp
  | b :: l => by
    rw [List.map_cons, List.any_cons, any_eqvI l, dec_of (p := True) (PyDI.eqv b a)]
    by_cases h : b = a
    · simp [h]
    · have h2 : ¬ a = b := fun e => h e.symm
      simp [h, h2]
theorem ev_inT [PyI α] [PyDI α] [DecidableEq α] {a : α} {l : List α} {neg : Bool} (ha : Ev ta σ H a) (hb : Ev tb σ H l) (hd : PyDI.dm α ≤ 63 := by decide) : Ev (tOp (rInDT K neg) ta tb) σ H (neg ^^ decide (a ∈ l)) := ev_op ha hb fun x y H rx ry Q q => by
  refine ⟨_, _, PyDI.dp rx, PyDI.dp (α := List α) ry, PyD.sh (α := α) (Nat.le_trans hd (by decide)) _, PyD.sh (α := List α) (show PyDI.dm α + 1 ≤ 64 from Nat.succ_le_succ hd) _, ?_⟩
  rw [any_eqvI]
  exact q _ _ H rfl (Gr.refl H) rfl
theorem ev_min2 {i j : Int} (h : Ev ta σ H i) (h2 : Ev tb σ H j) : Ev (tCB (fun xs H Q => ∃ i j, xs = [V.int i, V.int j] ∧ Q (.int (if j < i then j else i)) H) (tCons ta (tCons tb tNil))) σ H (min i j) := fun H1 g Q q => ea_2 h h2 H1 g _ fun vs H2 g2 ⟨v, w, d, d', ev, pd, pd', r1, r2⟩ => by
  have e1 : v = .int d := r1
  have e2 : w = .int d' := r2
  subst ev pd pd' e1 e2
  exact ⟨d, d', rfl, q _ _ H2 rfl g2 (show V.int (if d' < d then d' else d) = V.int (min d d') from by congr 1; split <;> omega)⟩
theorem ev_max2 {i j : Int} (h : Ev ta σ H i) (h2 : Ev tb σ H j) : Ev (tCB (fun xs H Q => ∃ i j, xs = [V.int i, V.int j] ∧ Q (.int (if j > i then j else i)) H) (tCons ta (tCons tb tNil))) σ H (max i j) := fun H1 g Q q => ea_2 h h2 H1 g _ fun vs H2 g2 ⟨v, w, d, d', ev, pd, pd', r1, r2⟩ => by
  have e1 : v = .int d := r1
  have e2 : w = .int d' := r2
  subst ev pd pd' e1 e2
  exact ⟨d, d', rfl, q _ _ H2 rfl g2 (show V.int (if d' > d then d' else d) = V.int (max d d') from by congr 1; split <;> omega)⟩
/-- a branch on a test that is drawn -/
theorem s_ifP {t : TT} {tu tw : TS} {D : Ends} {P : Bool → Prop} (h : EdT t σ H P) (h1 : P true → ∀ H1, Gr H H1 → tu D σ H1) (h2 : P false → ∀ H1, Gr H H1 → tw D σ H1) : tIfS t tu tw D σ H := h H (Gr.refl H) _ fun b' H1 eb e => by
  cases b' with
  | true => exact h1 eb H1 e
  | false => exact h2 eb H1 e
theorem etd_andP {t u : TT} {a : Bool} {P : Bool → Prop} (h1 : EvT t σ H a) (h2 : a = true → EdT u σ H P) : EdT (tAnd t u) σ H (fun b => (a = true ∧ P b) ∨ (a = false ∧ b = false)) := fun H1 e Q q => h1 H1 e _ fun a' H2 ea e2 => by
  subst ea
  cases a' with
  | true => exact h2 rfl H2 (e.trans e2) _ fun b H3 p g3 => q b H3 (.inl ⟨rfl, p⟩) (e2.trans g3)
  | false => exact q false H2 (.inr ⟨rfl, rfl⟩) e2
end
/-! ### a list at a known address, walked -/
section
variable {K : PySem.W.Frag} {σ : L2.St} {H : Hp} {tz tu : TS} {D : Ends} {g : TG} {α : Type}
def SrcA [Py α] (wi : TI) (σ : L2.St) (H : Hp) (l : Addr) (ds : List α) : Prop := ∀ H1, Gr H H1 → ∀ R : It → Hp → Prop, (∀ J H2 xs, Gr H1 H2 → H2 l = some (.lst xs) → Wk J ds (fun H3 => H3 l = some (.lst xs) ∧ TupK H2 H3) → R J H2) → wi σ H1 R
theorem src_at [PyI α] {i : Nat} {l : Addr} {ds : List α} (hi : σ[i]? = some (some (.ref l))) (hl : Py.rep (Ls.mk ds) (.ref l) H) : SrcA (iList K (tVar i)) σ H l ds := fun H1 g R r => by
  obtain ⟨p, xs, ev, hp, rl⟩ := Py.mono g hl
  cases ev
  refine ⟨_, hi, l, rfl, ⟨xs, .of hp⟩, r _ H1 xs (Gr.refl H1) hp ⟨fun H3 k => ⟨xs, .of k.1, by rw [rl.1]; exact Nat.le_refl _⟩, fun H3 k i d' hd => ?_⟩⟩
  obtain ⟨x, hx, rx⟩ := rl.get hd
  refine ⟨⟨xs, x, .of k.1, hx⟩, fun y H4 hy => ?_⟩
  obtain ⟨e4, hy⟩ := hy
  subst e4
  have e5 := hy xs (.of k.1)
  rw [hx] at e5
  cases e5
  exact ⟨Gr.refl _, PyI.keep k.2 rx⟩
theorem s_foldA [PyI α] {wi : TI} {A : Type} {l : Addr} {ds : List α} (f : A → α → A) (a0 : A) (I : A → L2.St → Hp → Prop) (hs : SrcA wi σ H l ds) (h0 : ∀ H2, Gr H H2 → I a0 σ H2) (mono : ∀ a σ' H1 H2, Gr H1 H2 → I a σ' H1 → I a σ' H2)
    (step : ∀ Hb xs i d x a σ' H', Gr H Hb → Hb l = some (.lst xs) → H' l = some (.lst xs) → TupK Hb H' → ds[i]? = some d → a = (ds.take i).foldl f a0 → I a σ' H' → Py.rep d x H' → g x σ' H' fun σ2 H3 => tu { D with nx := fun σ3 H4 => H4 l = some (.lst xs) ∧ TupK Hb H4 ∧ I (f a d) σ3 H4, ct := fun σ3 H4 => H4 l = some (.lst xs) ∧ TupK Hb H4 ∧ I (f a d) σ3 H4, bk := D.nx } σ2 H3)
    (fin : ∀ σ' H', TupK H H' → I (ds.foldl f a0) σ' H' → D.nx σ' H') : tFor wi g tu D σ H := by
  refine hs H (Gr.refl H) _ fun J H2 xs g2 hl w => ?_
  refine ⟨fun i m σ' H' => m = ds.length - i ∧ i ≤ ds.length ∧ H' l = some (.lst xs) ∧ TupK H2 H' ∧ I ((ds.take i).foldl f a0) σ' H', ⟨ds.length, by simp, Nat.zero_le _, hl, TupK.refl _, h0 H2 g2⟩, ?_⟩
  rintro i m σ' H3 ⟨rfl, hi, hl3, s3, p⟩
  by_cases hlt : i < ds.length
  · have hd : ds[i]? = some ds[i] := by simp [hlt]
    obtain ⟨hgo, hy⟩ := w.go H3 ⟨hl3, s3⟩ i _ hd
    refine .inr ⟨hgo, fun σ4 H4 => H4 l = some (.lst xs) ∧ TupK H2 H4 ∧ I (f ((ds.take i).foldl f a0) ds[i]) σ4 H4, fun σ4 H4 p4 => ⟨ds.length - (i + 1), by omega, rfl, hlt, p4.1, p4.2.1, by rw [foldl_take f a0 hd]; exact p4.2.2⟩, fun x H4 hyl => ?_⟩
    obtain ⟨g4, r4⟩ := hy x H4 hyl
    exact step H2 xs i _ x _ σ' H4 g2 hl (g4.lst hl3) (s3.trans g4.tup) hd rfl (mono _ _ _ _ g4 p) r4
  · have e : i = ds.length := by omega
    subst e
    rw [List.take_length] at p
    exact .inl ⟨w.stop H3 ⟨hl3, s3⟩, fin σ' H3 (g2.tup.trans s3) p⟩
theorem q_foldA [PyI α] {wi : TI} {A : Type} {l : Addr} {ds : List α} (f : A → α → A) (a0 : A) (I : A → L2.St → Hp → Prop) (hs : SrcA wi σ H l ds) (h0 : ∀ H2, Gr H H2 → I a0 σ H2) (mono : ∀ a σ' H1 H2, Gr H1 H2 → I a σ' H1 → I a σ' H2)
    (step : ∀ Hb xs i d x a σ' H', Gr H Hb → Hb l = some (.lst xs) → H' l = some (.lst xs) → TupK Hb H' → ds[i]? = some d → a = (ds.take i).foldl f a0 → I a σ' H' → Py.rep d x H' → g x σ' H' fun σ2 H3 => tu { D with nx := fun σ3 H4 => H4 l = some (.lst xs) ∧ TupK Hb H4 ∧ I (f a d) σ3 H4, ct := fun σ3 H4 => H4 l = some (.lst xs) ∧ TupK Hb H4 ∧ I (f a d) σ3 H4, bk := tz D } σ2 H3)
    (fin : ∀ σ' H', TupK H H' → I (ds.foldl f a0) σ' H' → tz D σ' H') : tSeq (tFor wi g tu) tz D σ H := s_foldA (D := { D with nx := tz D }) f a0 I hs h0 mono step fin
theorem ls_addr [Py α] {d : Ls α} {v : V} {H : Hp} (r : Py.rep d v H) : ∃ a, v = .ref a ∧ H a ≠ none := by obtain ⟨a, xs, e, h, _⟩ := r; exact ⟨a, e, by rw [h]; exact fun z => nomatch z⟩
end
section
variable {K : PySem.W.Frag} {σ : L2.St} {H : Hp} {te e : TE} {tt : TT} {g : TG} {vs : List Nat} {α γ : Type}
/-- the argument drawn -/
theorem ed_via [Py α] [Py γ] {r : List V → Hp → VK → Prop} {P : α → Prop} {P' : γ → Prop} (h : Ed te σ H P) (k : ∀ d v H', Gr H H' → P d → Py.rep d v H' → Ed (tCB r (tCons (tC v) tNil)) σ H' P') : Ed (tCB r (tCons te tNil)) σ H P' := fun H1 g1 Q q =>
  h H1 g1 _ fun d v H2 p g2 rv => k d v H2 (g1.trans g2) p rv H2 (Gr.refl H2) Q fun d' v' H3 p' g3 r' => q d' v' H3 p' (g2.trans g3) r'
theorem ed_lcRng1 [Py γ] {P : Int → Prop} {P' : γ → Prop} (h : Ed te σ H P) (k : ∀ n H', Gr H H' → P n → Ed (tLc (iRng1 (tCons (tC (.int n)) tNil)) g tt e vs) σ H' P') : Ed (tLc (iRng1 (tCons te tNil)) g tt e vs) σ H P' := fun H1 g1 Q q =>
  h H1 g1 _ fun d v H2 p g2 rv => by
    have ev : v = .int d := rv
    subst ev
    exact k d H2 (g1.trans g2) p H2 (Gr.refl H2) Q fun d' v' H3 p' g3 r' => q d' v' H3 p' (g2.trans g3) r'
theorem ed_sortedL [PyO α] [PySrt α] {P : List α → Prop} (h : Ed te σ H (fun (l : Ls α) => P l.l)) (hok : ∀ l, P l → ∀ d ∈ l, PySrt.ok d) : Ed (tCB rSortedG (tCons te tNil)) σ H (fun (l : Ls α) => ∃ l0, P l0 ∧ l = Ls.mk (sortO l0)) :=
  ed_via h fun d v H' _ p r => (ev_sortedL (ds := d.l) (ev_c r) (hok d.l p)).imp fun l e => ⟨d.l, p, e⟩
theorem ed_tupL [PyI α] {P : Ls α → Prop} (h : Ed te σ H P) : Ed (tCB (rTupOf K) (tCons te tNil)) σ H (fun (l : List α) => P (Ls.mk l)) :=
  ed_via h fun d v H' _ p r => (ev_tupL (a := d.l) (ev_c r)).imp fun l e => by rw [e]; exact p
instance [DecidableEq α] : DecidableEq (Ls α) := fun a b => decidable_of_iff (a.l = b.l) ⟨fun h => by cases a; cases b; cases h; rfl, fun h => by rw [h]⟩
end
theorem foldl_count {α : Type} (l : List α) (n : Nat) : l.foldl (fun n _ => n + 1) n = n + l.length := by
  induction l generalizing n with
  | nil => rfl
  | cons a l ih => rw [List.foldl_cons, ih, List.length_cons]; omega
theorem foldl_snoc {α β : Type} (g : α → β) : ∀ (l : List α) (acc : List β), l.foldl (fun acc d => acc ++ [g d]) acc = acc ++ l.map g
  | [], acc => by simp
  | a :: l, acc => by rw [List.foldl_cons, foldl_snoc g l]; simp
theorem rowFold_len (nr : List Int) : ∀ (rows acc : List (List Int)), (rows.foldl (fun acc row => acc ++ rowExt row nr) acc).length ≤ acc.length + rows.length * nr.length
  | [], acc => by simp
  | row :: rows, acc => by
    have h1 := rowFold_len nr rows (acc ++ rowExt row nr)
    simp only [List.foldl_cons, List.length_cons]
    rw [List.length_append] at h1
    unfold rowExt at h1 ⊢
    rw [List.length_map] at h1
    rw [Nat.add_mul]
    omega
theorem foundM_len : ∀ (rows : List (List Int)) (acc : KVs), (rows.foldl foundStep acc).length ≤ acc.length + rows.length
  | [], acc => Nat.le_refl _
  | row :: rows, acc => by
    have h1 := foundM_len rows (foundStep acc row)
    have h2 : (foundStep acc row).length ≤ acc.length + 1 := putD_length _ _ _
    simp only [List.foldl_cons, List.length_cons]
    omega
theorem rowsM_snoc (nv : List (List Int)) (ws : List Int) (w : Int) : rowsM nv (ws ++ [w]) = rowsStep nv (rowsM nv ws) w := by
  unfold rowsM; rw [List.foldl_append]; rfl
theorem rowsM_len {nv : List (List Int)} (hr : ∀ r ∈ nv, r.length ≤ 9) {ws : List Int} : ∀ n ≤ ws.length, (rowsM nv (ws.take n)).length ≤ 9 ^ n
  | 0, _ => by unfold rowsM; simp
  | n + 1, h => by
    have hd : ws[n]? = some ws[n] := by simp
    rw [List.take_add_one, hd, show (some ws[n]).toList = [ws[n]] from rfl, rowsM_snoc]
    have ih := rowsM_len hr (ws := ws) n (by omega)
    unfold rowsStep
    have h1 := rowFold_len (nv.getD ws[n].toNat []) (rowsM nv (ws.take n)) []
    have h2 : (nv.getD ws[n].toNat []).length ≤ 9 := by
      rw [List.getD_eq_getElem?_getD]
      cases q : nv[ws[n].toNat]? with
      | none => show 0 ≤ 9; decide
      | some r => exact hr r (List.mem_of_getElem? q)
    refine Nat.le_trans h1 ?_
    rw [Nat.pow_succ]
    have : (rowsM nv (ws.take n)).length * (nv.getD ws[n].toNat []).length ≤ 9 ^ n * 9 := Nat.mul_le_mul ih h2
    simp at this ⊢
    exact this
theorem rowsM_keyLen {nv : List (List Int)} {ws : List Int} (n : Nat) (h : n ≤ ws.length) : ∀ k ∈ rowsM nv (ws.take n), k.length = n := fun k hk => by
  rw [((mem_rowsM _).mp hk).length, List.length_take]; omega
def tri : Nat → Nat
  | 0 => 0
  | n + 1 => tri n + n
theorem tri_le : ∀ n, n ≤ 8 → tri n ≤ 28 := by
  intro n h
  rcases (show n = 0 ∨ n = 1 ∨ n = 2 ∨ n = 3 ∨ n = 4 ∨ n = 5 ∨ n = 6 ∨ n = 7 ∨ n = 8 by omega) with rfl | rfl | rfl | rfl | rfl | rfl | rfl | rfl | rfl <;> decide
theorem rngI_nodup (lo : Int) (n : Nat) : (rngI lo n).Nodup := by
  unfold rngI
  refine List.Pairwise.map _ (fun a b h => ?_) List.nodup_range
  omega
end Zw
/-! Z19: what is made anew; dicts with ints for keys. -/
namespace Zw
open PySem L2 RZ PySem.Spec PyProof.Rows SrtO
/-- evaluates to an object that was not there -/
def EdF {α : Type} [Py α] (te : TE) (σ : L2.St) (H : Hp) (P : α → Prop) : Prop := ∀ H1, Gr H H1 → ∀ Q : VK, (∀ d a H2, P d → Gr H1 H2 → H1 a = none → H2 a ≠ none → Py.rep d (.ref a) H2 → Q (.ref a) H2) → te σ H1 Q
/-- no house keeps its looked at p -/
def NoOwn (H : Hp) (p : Addr) : Prop := ¬ Owned H p
theorem Neat.noOwn {H : Hp} (n : Neat H) {p : Addr} (h : H p = none) : NoOwn H p := fun ⟨q, C, dx, r, t, e⟩ => n.1 q C dx r t p e h
instance instDI {β : Type} [PyI β] : Py (DI β) := ⟨fun d v H => ∃ p kvs, v = .ref p ∧ H p = some (.dK kvs) ∧ NoOwn H p ∧ PL (KRI H) d.kv kvs, fun {d v H H'} g ⟨p, kvs, e, h, no, r⟩ => ⟨p, kvs, e, by
    rcases g.old p _ h with z | ⟨_, od, _⟩
    · exact z
    · exact absurd od no, fun od => no (g.owned (by rw [h]; exact fun z => nomatch z) od), r.mono fun _ _ z => z.keep g.tup⟩⟩
section
variable {K : PySem.W.Frag} {σ : L2.St} {H H0 Hb H' : Hp} {ta tb tc te tj tl ty tv td : TE} {tt : TT} {tz tu : TS} {D : Ends} {g : TG} {α β γ : Type}
theorem EdF.ed [Py α] {P : α → Prop} (h : EdF te σ H P) : Ed te σ H P := fun H1 g Q q => h H1 g Q fun d a H2 p g2 _ _ r => q d _ H2 p g2 r
theorem EdF.imp [Py α] {P P' : α → Prop} (h : EdF te σ H P) (i : ∀ d, P d → P' d) : EdF te σ H P' := fun H1 a Q q => h H1 a Q fun d v H2 p => q d v H2 (i d p)
theorem EdF.mono [Py α] {P : α → Prop} (e : Gr H H') (h : EdF te σ H P) : EdF te σ H' P := fun H1 a Q q => h H1 (e.trans a) Q q
theorem s_asgF [Py α] {i : Nat} {P : α → Prop} (h : EdF te σ H P) (k : ∀ d a H1, P d → Gr H H1 → H a = none → Py.rep d (.ref a) H1 → D.nx (σ.set i (some (.ref a))) H1) : tAsg te (gName i) D σ H := h H (Gr.refl H) _ fun d a H1 p e n _ r => k d a H1 p e n r
theorem q_asgF [Py α] {i : Nat} {P : α → Prop} (h : EdF te σ H P) (k : ∀ d a H1, P d → Gr H H1 → H a = none → Py.rep d (.ref a) H1 → tz D (σ.set i (some (.ref a))) H1) : tSeq (tAsg te (gName i)) tz D σ H := s_asgF (D := { D with nx := tz D }) h k
theorem q_parEF [Py α] [Py β] {i j : Nat} {P : α → Prop} {P' : β → Prop} (h : Ed ta σ H P) (h' : EdF tb σ H P') (k : ∀ a v b q H1, P a → P' b → Gr H H1 → Py.rep a v H1 → H q = none → Py.rep b (.ref q) H1 → tz D ((σ.set i (some v)).set j (some (.ref q))) H1) : tSeq (tPar i j (tCons ta (tCons tb tNil))) tz D σ H :=
  h H (Gr.refl H) _ fun a v H1 p e r => h' H1 e _ fun b q H2 p' e2 hq _ r' => ⟨v, .ref q, rfl, k a v b q H2 p p' (e.trans e2) (Py.mono e2 r) (e.back hq) r'⟩
theorem q_parFF [Py α] [Py β] {i j : Nat} {P : α → Prop} {P' : β → Prop} (h : EdF ta σ H P) (h' : EdF tb σ H P') (k : ∀ a p b q H1, P a → P' b → Gr H H1 → H p = none → H q = none → p ≠ q → Py.rep a (.ref p) H1 → Py.rep b (.ref q) H1 → tz D ((σ.set i (some (.ref p))).set j (some (.ref q))) H1) : tSeq (tPar i j (tCons ta (tCons tb tNil))) tz D σ H :=
  h H (Gr.refl H) _ fun a p H1 pa e hp hp2 r => h' H1 e _ fun b q H2 p' e2 hq _ r' => ⟨.ref p, .ref q, rfl, k a p b q H2 pa p' (e.trans e2) hp (e.back hq) (fun z => hp2 (by rw [z]; exact hq)) (Py.mono e2 r) r'⟩
theorem edF_newDT [PyI β] : EdF tDNewT σ H (· = DT.mk ([] : List (List Int × β))) := fun H1 g Q q p hp => q _ p _ rfl (Gr.new hp) hp (by rw [upd_same]; exact fun z => nomatch z) rep_newDT
theorem edF_newDI [PyI β] (n : Neat H) : EdF tDNewK σ H (· = DI.mk ([] : List (Int × β))) := fun H1 g Q q p hp => q _ p _ rfl (Gr.new hp) hp (by rw [upd_same]; exact fun z => nomatch z) ⟨p, [], rfl, upd_same, (fun ⟨a, C, dx, r, t, e⟩ => (g.neat n).noOwn hp ⟨a, C, dx, r, t, by rw [upd_ne (fun z => by rw [z, upd_same] at e; cases e)] at e; exact e⟩), PL.nil⟩
theorem edF_lst [Py α] {ds : List α} {tr : TA} (h : EvA tr σ H (AllI ds)) (hl : ds.length ≤ 100000) : EdF (tLst tr) σ H (· = Ls.mk ds) := fun H1 e Q q =>
  h H1 e _ fun vs H2 e2 r => ⟨by rw [← r.1]; exact Nat.le_trans hl (by decide), fun p hp => q _ p _ rfl (e2.trans (Gr.new hp)) (e2.back hp) (by rw [upd_same]; exact fun z => nomatch z) ⟨p, vs, rfl, upd_same, r.mono fun _ _ z => Py.mono (Gr.new hp) z⟩⟩
theorem edF_newL [Py α] : EdF (tLst tNil) σ H (· = Ls.mk ([] : List α)) := edF_lst eal_nil (Nat.zero_le _)
theorem edF_lst1 [Py α] {P : α → Prop} (h : Ed te σ H P) : EdF (tLst (tCons te tNil)) σ H (fun (l : Ls α) => ∃ d, l.l = [d] ∧ P d) := fun H1 g Q q => h H1 g _ fun d v H2 p g2 r =>
  ⟨(by show 1 ≤ sizeLine; decide), fun a ha => q (Ls.mk [d]) a _ ⟨d, rfl, p⟩ (g2.trans (Gr.new ha)) (g2.back ha) (by rw [upd_same]; exact fun z => nomatch z) ⟨a, [v], rfl, upd_same, RL.cons (Py.mono (Gr.new ha) r) RL.nil⟩⟩
theorem edF_rg1 {n : Int} (h : Ev te σ H n) (hn : -100000 ≤ n ∧ n ≤ 100000) : EdF (tLstRg (tRg1 te)) σ H (· = Ls.mk (rngI 0 n.toNat)) := fun H1 g Q q => h H1 g _ fun d v H2 e g2 r => by
  subst e
  have ev : v = .int d := r
  subst ev
  refine ⟨d, rfl, ⟨by omega, by omega, by omega, by omega, by omega⟩, fun p hp => q _ p _ rfl (g2.trans (Gr.new hp)) (g2.back hp) (by rw [upd_same]; exact fun z => nomatch z) ⟨p, _, rfl, upd_same, ?_⟩⟩
  have e : rgV 0 d = (rngI 0 d.toNat).map V.int := by unfold rgV rngI; rw [List.map_map, Int.sub_zero]; rfl
  rw [e]
  exact RL.map fun _ _ => rfl
theorem edF_rg2 {m n : Int} (h0 : Ev ta σ H m) (h : Ev te σ H n) (hn : -100000 ≤ m ∧ m ≤ 100000 ∧ -100000 ≤ n ∧ n ≤ 100000) : EdF (tLstRg (tRg2 ta te)) σ H (· = Ls.mk (rngI m (n - m).toNat)) := fun H1 g Q q => h0 H1 g _ fun d0 v0 H2 e0 g2 r0 => h H2 (g.trans g2) _ fun d v H3 e g3 r => by
  subst e e0
  have ev : v = .int d := r
  have ev0 : v0 = .int d0 := r0
  subst ev ev0
  refine ⟨d0, d, rfl, rfl, ⟨by omega, by omega, by omega, by omega, by omega⟩, fun p hp => q _ p _ rfl ((g2.trans g3).trans (Gr.new hp)) ((g2.trans g3).back hp) (by rw [upd_same]; exact fun z => nomatch z) ⟨p, _, rfl, upd_same, ?_⟩⟩
  have e : rgV d0 d = (rngI d0 (d - d0).toNat).map V.int := by unfold rgV rngI; rw [List.map_map]; rfl
  rw [e]
  exact RL.map fun _ _ => rfl
/-- tuple(range(n)) -/
theorem ev_tupRg1 {n : Int} (h : Ev te σ H n) (hn : -100000 ≤ n ∧ n ≤ 100000) : Ev (tTupRg (tRg1 te)) σ H (rngI 0 n.toNat) := fun H1 g Q q => h H1 g _ fun d v H2 e g2 r => by
  subst e
  have ev : v = .int d := r
  subst ev
  refine ⟨d, rfl, ⟨by omega, by omega, by omega, by omega, by omega⟩, fun p hp => q _ _ _ rfl (g2.trans (Gr.new hp)) ⟨p, _, rfl, upd_same, ?_⟩⟩
  have e : rgV 0 d = (rngI 0 d.toNat).map V.int := by unfold rgV rngI; rw [List.map_map, Int.sub_zero]; rfl
  rw [e]
  exact RL.map fun _ _ => rfl
theorem edF_lstT [PyI α] {a : List α} (h : Ev te σ H a) : EdF (tCB (rLstOf K) (tCons te tNil)) σ H (· = Ls.mk a) := fun H1 g Q q => h H1 g _ fun d v H2 e g2 ⟨p, xs, ev, hp, r⟩ => by
  subst e
  exact ⟨p, xs, by rw [ev], .inr (.of hp), fun l hl => q _ l _ rfl (g2.trans (Gr.new hl)) (g2.back hl) (by rw [upd_same]; exact fun z => nomatch z) ⟨l, xs, rfl, upd_same, r.mono fun _ _ z => PyI.keep (TupK.new hl) z⟩⟩
theorem edF_lstL [PyI α] {a : List α} (h : Ev te σ H (Ls.mk a)) : EdF (tCB (rLstOf K) (tCons te tNil)) σ H (· = Ls.mk a) := fun H1 g Q q => h H1 g _ fun d v H2 e g2 ⟨p, xs, ev, hp, r⟩ => by
  subst e
  exact ⟨p, xs, by rw [ev], .inl (.of hp), fun l hl => q _ l _ rfl (g2.trans (Gr.new hl)) (g2.back hl) (by rw [upd_same]; exact fun z => nomatch z) ⟨l, xs, rfl, upd_same, r.mono fun _ _ z => PyI.keep (TupK.new hl) z⟩⟩
/-- comprehensions make new lists -/
theorem elF_gen [Py α] [PyI β] {wi : TI} {g : TG} {vs : List Nat} {ds : List α} (S : α → L2.St → Hp → Prop) (T : α → Bool → Prop) (E : α → β → Prop) (hs : Src wi σ H ds) (hz : ds.length ≤ 100000)
    (hg : ∀ d x H', Py.rep d x H' → ∀ Q : L2.St → Hp → Prop, (∀ σ2, wipe σ2 vs = wipe σ vs → S d σ2 H' → Q σ2 H') → g x (wipe σ vs) H' Q)
    (ht : ∀ d σ2 H', d ∈ ds → Gr H H' → S d σ2 H' → EdT tt σ2 H' (T d)) (he : ∀ d σ2 H', d ∈ ds → Gr H H' → S d σ2 H' → T d true → Ed te σ2 H' (E d)) :
    EdF (tLc wi g tt te vs) σ H (fun (l : Ls β) => Pk T E ds l.l) := by
  intro H1 g1 Q q
  refine hs H1 g1 _ fun J H2 g2 w D hD => ?_
  have gD : Gr H2 (upd H2 D (.lst [])) := Gr.new hD
  refine ⟨fun i m H' => m = ds.length - i ∧ i ≤ ds.length ∧ Gr H2 H' ∧ ∃ l xs, Pk T E (ds.take i) l ∧ H' D = some (.lst xs) ∧ RL (fun a x => PyI.rep a x H') l xs, ⟨ds.length, by simp, Nat.zero_le _, gD, [], [], .nil, upd_same, RL.nil⟩, ?_⟩
  rintro i m H3 ⟨rfl, hi, g3, l, xs, pk, hx, rx⟩
  by_cases hlt : i < ds.length
  · have hd : ds[i]? = some ds[i] := by simp [hlt]
    obtain ⟨hgo, hy⟩ := w.go H3 g3 i _ hd
    have hmem : ds[i] ∈ ds := List.getElem_mem hlt
    have htk : ds.take (i + 1) = ds.take i ++ [ds[i]] := by rw [List.take_add_one, hd]; rfl
    have hle : l.length ≤ 100000 := Nat.le_trans pk.le (by rw [List.length_take]; omega)
    refine .inr ⟨hgo, fun H' => i + 1 ≤ ds.length ∧ Gr H2 H' ∧ ∃ l xs, Pk T E (ds.take (i + 1)) l ∧ H' D = some (.lst xs) ∧ RL (fun a x => PyI.rep a x H') l xs, fun H' h => ⟨ds.length - (i + 1), by omega, rfl, h.1, h.2⟩, fun x H4 hyl => ?_⟩
    obtain ⟨g4, r4⟩ := hy x H4 hyl
    refine hg _ x H4 r4 _ fun σ2 hw hS => ⟨hw, ?_⟩
    have gH4 : Gr H H4 := ((g1.trans g2).trans g3).trans g4
    refine ht _ σ2 H4 hmem gH4 hS H4 (Gr.refl _) _ fun b H5 eb g5 => ?_
    cases b with
    | true =>
      refine he _ σ2 H4 hmem gH4 hS eb H5 g5 _ fun z y H6 ez g6 r6 => ?_
      have g36 : Gr H3 H6 := (g4.trans g5).trans g6
      have hp : TupK H6 (upd H6 D (.lst (xs ++ [y]))) := TupK.put (g36.lst hx) (fun _ z => nomatch z)
      refine ⟨xs, g36.lst hx, by rw [← rx.1]; exact Nat.lt_of_le_of_lt hle (by decide), hlt, (g3.trans g36).mut hD (g36.lst hx) (fun _ z => nomatch z), l ++ [z], xs ++ [y], by rw [htk]; exact .yes pk eb ez, upd_same, ?_⟩
      exact (rx.mono fun _ _ z => PyI.keep (g36.tup.trans hp) z).snoc (PyI.keep hp r6)
    | false => exact ⟨hlt, g3.trans (g4.trans g5), l, xs, by rw [htk]; exact .no pk eb, (g4.trans g5).lst hx, rx.mono fun _ _ z => PyI.keep (g4.trans g5).tup z⟩
  · have e : i = ds.length := by omega
    subst e
    rw [List.take_length] at pk
    exact .inl ⟨w.stop H3 g3, q (Ls.mk l) D H3 pk (g2.trans g3) (g2.back hD) (by rw [hx]; exact fun z => nomatch z) ⟨D, xs, rfl, hx, rx⟩⟩
theorem Pk.det {f : α → Bool} {v : α → β} {ds : List α} {l : List β} (h : Pk (fun d b => b = f d) (fun d x => x = v d) ds l) : l = (ds.filter f).map v := by
  induction h with
  | nil => rfl
  | yes _ t e ih => rw [List.filter_append, List.map_append, ← ih, List.filter_cons, if_pos t.symm, e]; rfl
  | no _ t ih => rw [List.filter_append, List.map_append, ← ih, List.filter_cons, if_neg (by rw [← t]; decide)]; simp
theorem elF_lcN [Py α] [PyI β] {wi : TI} {j : Nat} {vs : List Nat} {ds : List α} {f : α → Bool} {v : α → β} (hs : Src wi σ H ds) (hz : ds.length ≤ 100000) (hw : ∀ x, wipe ((wipe σ vs).set j (some x)) vs = wipe σ vs)
    (ht : ∀ d x H', d ∈ ds → Gr H H' → Py.rep d x H' → EvT tt ((wipe σ vs).set j (some x)) H' (f d)) (he : ∀ d x H', d ∈ ds → Gr H H' → Py.rep d x H' → f d = true → Ev te ((wipe σ vs).set j (some x)) H' (v d)) :
    EdF (tLc wi (gName j) tt te vs) σ H (· = Ls.mk ((ds.filter f).map v)) :=
  (elF_gen (SlotN (wipe σ vs) j) (fun d b => b = f d) (fun d x => x = v d) hs hz (fun d x H' r Q q => q _ (hw x) ⟨x, rfl, r⟩) (fun d σ2 H' m g ⟨x, e, r⟩ => by subst e; exact ht d x H' m g r) (fun d σ2 H' m g ⟨x, e, r⟩ hf => by subst e; exact he d x H' m g r hf.symm)).imp fun l p => by rw [← p.det]
end
end Zw
/-! Z20: dicts with ints for keys. -/
namespace Zw
open PySem L2 RZ PySem.Spec PyProof.Rows SrtO
section
variable {K : PySem.W.Frag} {σ : L2.St} {H H0 Hb H' : Hp} {ta tb tc te tj tl ty tv td : TE} {tt : TT} {tz tu : TS} {D : Ends} {g : TG} {α β γ : Type}
theorem lkI_some [PyI β] {k : Int} {kv : List (Int × β)} {kvs : List (Key × V)} (r : PL (KRI H) kv kvs) : (valV kvs (Sum.inl k)).isSome = (lkD kv k).isSome := by
  have l := lk_KRI (k := k) r
  cases q : lkD kv k with
  | none => rw [q] at l; rw [l]; rfl
  | some z => rw [q] at l; obtain ⟨v, hv, _⟩ := l; rw [hv]; rfl
theorem ev_inDI [PyI β] {k : Int} {d : DI β} (hk : Ev ty σ H k) (hd : Ev td σ H d) : Ev (tDIn ty td) σ H (decide (k ∈ keysD d.kv)) := fun H1 g Q q => hk H1 g _ fun k' y H2 e g2 ry => hd H2 (g.trans g2) _ fun d' x H3 e' g3 ⟨p, kvs, ep, hp, no, r⟩ => by
  subst e e'
  have ey : y = .int k' := ry
  subst ep ey
  refine ⟨p, _, rfl, DGet.k (k := Sum.inl k') hp, ?_⟩
  rw [lkI_some r, lkD_isSome]
  exact q _ _ H3 rfl (g2.trans g3) rfl
theorem ev_notInDI [PyI β] {k : Int} {d : DI β} (hk : Ev ty σ H k) (hd : Ev td σ H d) : Ev (tDNotIn ty td) σ H (!decide (k ∈ keysD d.kv)) := fun H1 g Q q => hk H1 g _ fun k' y H2 e g2 ry => hd H2 (g.trans g2) _ fun d' x H3 e' g3 ⟨p, kvs, ep, hp, no, r⟩ => by
  subst e e'
  have ey : y = .int k' := ry
  subst ep ey
  refine ⟨p, _, rfl, DGet.k (k := Sum.inl k') hp, ?_⟩
  rw [lkI_some r, lkD_isSome]
  exact q _ _ H3 rfl (g2.trans g3) rfl
theorem ev_getDI [PyI β] {k : Int} {d : DI β} {b : β} (hd : Ev td σ H d) (hk : Ev ty σ H k) (hl : lkD d.kv k = some b) : Ev (tDGet td ty) σ H b := fun H1 g Q q => hd H1 g _ fun d' x H2 e g2 rd => hk H2 (g.trans g2) _ fun k' y H3 e' g3 ry => by
  obtain ⟨p, kvs, ep, hp, no, r⟩ := Py.mono g3 rd
  subst e e'
  have ey : y = .int k' := ry
  subst ep ey
  have l := lk_KRI (k := k') r
  rw [hl] at l
  obtain ⟨v, hv, rv⟩ := l
  exact ⟨p, v, rfl, by have := DGet.k (k := Sum.inl k') hp; rw [hv] at this; exact this, q _ v H3 rfl (g2.trans g3) rv⟩
theorem s_putDI [PyI β] {p : Addr} {i : Nat} {kv : List (Int × β)} {Pk : Int → Prop} {Pv : β → Prop} (hp : Py.rep (DI.mk kv) (.ref p) H) (hi : σ[i]? = some (some (.ref p))) (hk : Ed ty σ H Pk) (hv : Ed tv σ H Pv) (hz : kv.length < 100000)
    (kk : ∀ k b H2, Pk k → Pv b → Mu p H H2 → Py.rep (DI.mk (putD kv k b)) (.ref p) H2 → D.nx σ H2) : sDPut (tVar i) ty tv D σ H := by
  refine hv H (Gr.refl H) _ fun b y H1 pb g1 ry => ⟨_, hi, ?_⟩
  refine hk H1 g1 _ fun k z H2 pk g2 rz => ?_
  obtain ⟨p', kvs, e, hp', no, r⟩ := Py.mono (g1.trans g2) hp
  cases e
  have ez : z = .int k := rz
  subst ez
  have hzl : kvs.length < sizeLine := by rw [← r.1]; exact Nat.lt_of_lt_of_le hz (by decide)
  refine ⟨p, _, rfl, DPut.k (k := Sum.inl k) (v := y) hp' hzl, ?_⟩
  have tk : TupK H2 (upd H2 p (.dK (putK kvs (Sum.inl k) y))) := TupK.put hp' (fun _ z => nomatch z)
  refine kk k b _ pk pb ⟨H2, _, _, g1.trans g2, hp', (fun _ z => nomatch z), (by intro _ _ _ _ _ z; cases z), rfl⟩ ⟨p, _, rfl, upd_same, (fun ⟨a, C, dx, r, t, e⟩ => no ⟨a, C, dx, r, t, by rw [upd_ne (fun z => by rw [z, upd_same] at e; cases e)] at e; exact e⟩), (put_KRI (Py.mono g2 ry) r).mono fun _ _ z => z.keep tk⟩
theorem q_putDI [PyI β] {p : Addr} {i : Nat} {kv : List (Int × β)} {Pk : Int → Prop} {Pv : β → Prop} (hp : Py.rep (DI.mk kv) (.ref p) H) (hi : σ[i]? = some (some (.ref p))) (hk : Ed ty σ H Pk) (hv : Ed tv σ H Pv) (hz : kv.length < 100000)
    (kk : ∀ k b H2, Pk k → Pv b → Mu p H H2 → Py.rep (DI.mk (putD kv k b)) (.ref p) H2 → tz D σ H2) : tSeq (sDPut (tVar i) ty tv) tz D σ H := s_putDI (D := { D with nx := tz D }) hp hi hk hv hz kk
theorem Mu.dI [PyI β] {l p : Addr} {H2 : Hp} {d : List (Int × β)} (m : Mu l H H2) (ne : p ≠ l) (r : Py.rep (DI.mk d) (.ref p) H) : Py.rep (DI.mk d) (.ref p) H2 := by
  obtain ⟨H1, o, u, g1, hl, hn, no, rfl⟩ := m
  have tk : TupK H1 (upd H1 l o) := TupK.put hl hn
  obtain ⟨q, kvs, e, hq, nw, rr⟩ := Py.mono g1 r
  cases e
  exact ⟨p, kvs, rfl, by rw [upd_ne ne]; exact hq, (fun ⟨a, C, dx, r, t, e⟩ => nw ⟨a, C, dx, r, t, by
    by_cases z : a = l
    · rw [z, upd_same] at e; cases e; exact absurd rfl (no C dx r t p)
    · rw [upd_ne z] at e; exact e⟩), rr.mono fun _ _ z => z.keep tk⟩
theorem keysI_RL [PyI β] {kv : List (Int × β)} {kvs : List (Key × V)} (r : PL (KRI H) kv kvs) : RL (fun (d : Int) x => PyI.rep d x H') (keysD kv) (kvs.map fun kv => kV kv.1) := by
  refine ⟨by unfold keysD; rw [List.length_map, List.length_map, r.1], fun i d x h h' => ?_⟩
  unfold keysD at h
  rw [List.getElem?_map] at h h'
  cases e : kv[i]? with
  | none => rw [e] at h; cases h
  | some p =>
    cases e' : kvs[i]? with
    | none => rw [e'] at h'; cases h'
    | some q =>
      rw [e] at h; rw [e'] at h'
      cases h; cases h'
      have e1 := (r.2 i p q e e').1
      show kV q.1 = V.int p.1
      rw [e1]; rfl
theorem ev_sortedDI [PyI β] {d : DI β} (h : Ev te σ H d) : Ev (tCB rSortedG (tCons te tNil)) σ H (Ls.mk (sortO (keysD d.kv))) := ev_sortedC (α := Int) (γ := DI β) (ds := keysD d.kv) h (fun v H' r0 => by obtain ⟨p, kvs, e, hp, no, r⟩ := r0; exact ⟨p, e, Coll.dK hp (keysI_RL r)⟩) (fun _ _ => trivial)
/-- Ms for whatever stands at t -/
theorem Ms.gr' {t : Addr} {u : HO} (g : Gr H H') (ht : H t = some u) (hc : ¬ Chg u) (hu : NotH u) (ht2 : ∀ xs, u ≠ .tup xs) : Ms t H H' := fun o n n2 => by
  have ht' := g.at ht hc
  refine ⟨fun a w ha => ?_, fun nn => (g.neat ⟨fun p C dx r t' l hp => ?_, fun p p' C C' dx dx' r r' t1 t2 l hp hp' => ?_⟩).put n, fun p C dx r t' l hp hl => ?_⟩
  · by_cases e : a = t
    · subst e; rw [upd_same] at ha ⊢; exact .inl ha
    · rw [upd_ne e] at ha ⊢
      rcases g.old a w ha with z | ⟨c, ⟨p0, C0, dx0, r0, t0, e0⟩, v, ns, z, r, ow⟩
      · exact .inl z
      · refine .inr ⟨c, ⟨p0, C0, dx0, r0, t0, by rw [upd_ne (fun q => by rw [q, ht] at e0; cases e0; exact hu _ _ _ _ _ rfl)]; exact e0⟩, v, ns, z, PyI.keep (TupK.put ht' ht2) r, fun p C dx r' t' ds hp hd => ?_⟩
        have pt : p ≠ t := fun e => by subst e; rw [upd_same] at hp; cases hp; exact n _ _ _ _ _ rfl
        rw [upd_ne pt] at hp
        refine ow p C dx r' t' ds hp (PyI.keep (fun b ys hb => ?_) hd)
        by_cases e : b = t
        · subst e; rw [upd_same] at hb; cases hb; exact absurd rfl (n2 ys)
        · rw [upd_ne e] at hb; exact hb
  · have pt : p ≠ t := fun e => by subst e; rw [ht] at hp; cases hp; exact hu _ _ _ _ _ rfl
    have h1 := nn.1 p C dx r t' l (by rw [upd_ne pt]; exact hp)
    by_cases e : l = t
    · subst e; rw [ht]; exact fun z => nomatch z
    · rw [upd_ne e] at h1; exact h1
  · have pt : p ≠ t := fun e => by subst e; rw [ht] at hp; cases hp; exact hu _ _ _ _ _ rfl
    have pt' : p' ≠ t := fun e => by subst e; rw [ht] at hp'; cases hp'; exact hu _ _ _ _ _ rfl
    exact nn.2 p p' C C' dx dx' r r' t1 t2 l (by rw [upd_ne pt]; exact hp) (by rw [upd_ne pt']; exact hp')
  · have pt : p ≠ t := fun e => by subst e; rw [upd_same] at hp; cases hp; exact n _ _ _ _ _ rfl
    rw [upd_ne pt] at hp ⊢
    refine g.newH p C dx r t' l hp ?_
    by_cases e : l = t
    · subst e; rw [ht]; exact fun z => nomatch z
    · rw [upd_ne e] at hl; exact hl
/-- [e for j in d if t], d a dict of ints: what is read of the heap but d must be data that never changes -/
theorem el_lcD [PyI β] [PyI γ] {i j : Nat} {vs : List Nat} {p : Addr} {kv : List (Int × β)} {f : Int → Bool} {v : Int → γ} (hi : σ[i]? = some (some (.ref p))) (hp : Py.rep (DI.mk kv) (.ref p) H) (hz : kv.length ≤ 100000) (hw : ∀ x, wipe ((wipe σ vs).set j (some x)) vs = wipe σ vs)
    (ht : ∀ d H', d ∈ keysD kv → TupK H H' → EvT tt ((wipe σ vs).set j (some (.int d))) H' (f d)) (he : ∀ d H', d ∈ keysD kv → TupK H H' → f d = true → Ev te ((wipe σ vs).set j (some (.int d))) H' (v d)) :
    Ev (tLockE (tLc (iKeys (tVar i)) (gName j) tt te vs)) σ H (Ls.mk (((keysD kv).filter f).map v)) := fun H1 g1 Q q => by
  obtain ⟨p', kvs, e, hH, no, r⟩ := Py.mono g1 hp
  cases e
  refine ⟨p, .dK kvs, hH, trivial, fun od => ?_⟩
  have tk0 : TupK H1 (upd H1 p (.frz od (.dK kvs))) := TupK.put hH (fun _ z => nomatch z)
  have hlen : (keysD kv).length = kvs.length := by unfold keysD; rw [List.length_map]; exact r.1
  refine ⟨.ref p, hi, p, od, rfl, .inl ⟨kvs, upd_same, ?_⟩⟩
  have main := elF_gen (te := te) (tt := tt) (σ := σ) (H := upd H1 p (.frz od (.dK kvs))) (wi := fun _ H R => R (Itk p od kvs) H) (g := gName j) (vs := vs) (ds := keysD kv) (α := Int) (β := γ) (SlotN (wipe σ vs) j) (fun d b => b = f d) (fun d x => x = v d)
    (fun H2 g2 R rr => rr _ H2 (Gr.refl H2) ⟨fun H3 g3 => ⟨(g2.trans g3).at upd_same (fun z => nomatch z), by rw [hlen]; exact Nat.le_refl _⟩, fun H3 g3 n d hd => by
      have hn := (List.getElem?_eq_some_iff.mp hd).1
      rw [hlen] at hn
      refine ⟨⟨(g2.trans g3).at upd_same (fun z => nomatch z), hn⟩, fun x H4 ⟨e4, k, w, hk, ex⟩ => ?_⟩
      subst e4 ex
      refine ⟨Gr.refl _, ?_⟩
      have hx : (kvs.map fun kv => kV kv.1)[n]? = some (kV k) := by rw [List.getElem?_map, hk]; rfl
      exact (keysI_RL (H' := H4) r).2 n d _ hd hx⟩)
    (by rw [hlen, ← r.1]; exact hz) (fun d x H' rx Q q => q _ (hw x) ⟨x, rfl, rx⟩)
    (fun d σ2 H' m gg ⟨x, e, rx⟩ => by subst e; have ex : x = .int d := rx; subst ex; exact ht d H' m (g1.tup.trans (tk0.trans gg.tup)))
    (fun d σ2 H' m gg ⟨x, e, rx⟩ hf => by subst e; have ex : x = .int d := rx; subst ex; exact he d H' m (g1.tup.trans (tk0.trans gg.tup)) hf.symm)
  refine main _ (Gr.refl _) (fun v H' => H' p = some (.frz od (.dK kvs)) ∧ Q v (upd H' p (.dK kvs))) fun l a H2 pk g2 ha _ rl => ?_
  have hfz := g2.at (a := p) (o := .frz od (.dK kvs)) upd_same (fun z => nomatch z)
  refine ⟨hfz, ?_⟩
  have ms := Ms.gr' g2 (t := p) upd_same (fun z => nomatch z) (by intro _ _ _ _ _ z; cases z) (by intro _ z; cases z) (.dK kvs) (by intro _ _ _ _ _ z; cases z) (by intro _ z; cases z)
  rw [upd_upd, upd_back hH] at ms
  refine q _ _ _ rfl ms ?_
  obtain ⟨a', xs, e, hx, rx⟩ := rl
  cases e
  have hap : a ≠ p := fun z => by rw [z, hfz] at hx; cases hx
  rw [pk.det] at rx
  exact ⟨a, xs, rfl, by rw [upd_ne hap]; exact hx, rx.mono fun _ _ z => PyI.keep (TupK.put hfz (fun _ z => nomatch z)) z⟩
end
end Zw
/-! Z21: xs.extend(t), t a tuple; x in xs of ints; max of a list. -/
namespace Zw
open PySem L2 RZ PySem.Spec PyProof.Rows SrtO PySem.AutoSeq1
theorem extend_tup (l : Addr) (xs : Array Value) (n : Nat) (b : Addr) (ys : Array Value) (k : Nat) (dd : Option Addr) (sl : Array (Option Value)) (few : ¬(!xs.isEmpty && Builtin.List.listTooLong (xs.size + ys.size)) = true) (z1 : xs.size ≤ sizeLine) (z2 : xs.size + ys.size ≤ sizeLine + 1) :
    Meets (Builtin.«list.extend» ⟨[.ref l, .ref b], []⟩) (fun _ R s => s.heap.get? l = some { cls := .type "list", dict := none, data := .seq xs n, slots := #[] } ∧
      s.heap.get? b = some { cls := .type "tuple", dict := dd, data := .seq ys k, slots := sl } ∧ R (.ok (.ret .none)) { s with heap := s.heap.update l (Obj.mapSeq fun x => x ++ ys), toks := s.toks }) :=
  .of_wp fun prog w A R s h => by
    obtain ⟨h0, g, dr, tk, os⟩ := s
    obtain ⟨hl, hb, h⟩ := h
    have f1 := idx_int
    have f2 := AutoSeq1.sub_tuple_tuple
    have f3 := AutoSeq1.sub_list_list
    have f4 := AutoSeq1.sub_tuple_list
    have f5 := AutoSeq1.sub_list_tuple
    have z3 : (xs ++ ys).size ≤ sizeLine + 1 := by
      rw [Array.size_append]
      exact z2
    wp_walk using (wpAny_updateSeq hl rfl (hz := z1) (_hz' := z3)), wpAny_loadPart' hl, wpAny_loadPart' hb
    exact ⟨_, rfl, h⟩
/-- a list, or a tuple -/
def rExtT (K : PySem.W.Frag) : V → List V → Hp → VK → Prop := fun x vs H Q => ∃ l b xs zs, x = .ref l ∧ vs = [.ref b] ∧ H l = some (.lst xs) ∧ SqT K H b zs ∧ xs.length + zs.length ≤ sizeLine ∧ Q .non (upd H l (.lst (xs ++ zs)))
theorem mt_extT {X : Cx} : MtR X "list.extend" (rExtT X.K) := by
  intro pins s σ H x vs v us Q I rx rv h
  obtain ⟨l, b, xs, zs, rfl, rfl, hH, hB, hz, q⟩ := h
  cases rx
  obtain ⟨u, rfl, ru⟩ := rv.one
  cases ru
  obtain ⟨z, its, n, r, hl, e⟩ := I.lstM hH
  obtain ⟨its2, r2, ⟨⟨cls, dd, data, sl⟩, e2, hc, n2, hd⟩, hz2⟩ := I.tuple hB
  simp only at hc hd
  subst hc hd
  have hl2 := r2.length
  have hsz : its.toArray.size + its2.toArray.size ≤ sizeLine := by
    rw [List.size_toArray, List.size_toArray]
    omega
  have hlong : ¬ (!its.toArray.isEmpty && Builtin.List.listTooLong (its.toArray.size + its2.toArray.size)) = true := by
    rw [notLongL hsz, Bool.and_false]
    decide
  refine call_meets F.slot_list_extend ⟨_, e, rfl⟩ F.entry_list_extend (F.args_list_extend_2 _ _) (extend_tup l its.toArray n b its2.toArray n2 dd sl hlong (by rw [List.size_toArray]; omega) (by omega)) ⟨e, e2, ?_⟩
  refine ⟨.non, _, I.lset (its' := its ++ its2) hH e (by simp) (r.append r2) (by rw [List.length_append]; omega), rfl, q⟩
theorem k_extT {X : Cx} {K : PySem.W.Frag} (h : X.K = K) : MtR X "list.extend" (rExtT K) := h ▸ mt_extT
section
variable {K : PySem.W.Frag} {σ : L2.St} {H H0 Hb H' : Hp} {ta tb tc te tj tl ty tv td : TE} {tt : TT} {tz tu : TS} {D : Ends} {g : TG} {α β γ : Type}
theorem s_extT [PyI α] {l : Addr} {i : Nat} {ds es : List α} (hl : Py.rep (Ls.mk ds) (.ref l) H) (ha : σ[i]? = some (some (.ref l))) (h : Ev te σ H es) (hz : ds.length + es.length ≤ 100000) (k : ∀ H2, Mu l H H2 → Py.rep (Ls.mk (ds ++ es)) (.ref l) H2 → D.nx σ H2) :
    tDrop (tBM K "list" (rExtT K) (tVar i) (tCons te tNil)) D σ H := by
  obtain ⟨q, xs, e, hq, rr⟩ := hl
  cases e
  refine ⟨_, ha, .inl ⟨rfl, xs, .of hq⟩, ?_⟩
  refine h H (Gr.refl H) _ fun d v H1 p g ⟨b, ys, ev, hb, rb⟩ => ⟨l, b, xs, ys, rfl, by rw [ev], g.lst hq, .inl (.inl hb), by rw [← rr.1, ← rb.1, p]; exact Nat.le_trans hz (by decide), ?_⟩
  subst p
  exact k _ (mu_of g (g.lst hq)) (ls_put (g.lst hq) ((rr.mono fun _ _ z => PyI.keep g.tup z).append rb))
theorem q_extT [PyI α] {l : Addr} {i : Nat} {ds es : List α} (hl : Py.rep (Ls.mk ds) (.ref l) H) (ha : σ[i]? = some (some (.ref l))) (h : Ev te σ H es) (hz : ds.length + es.length ≤ 100000) (k : ∀ H2, Mu l H H2 → Py.rep (Ls.mk (ds ++ es)) (.ref l) H2 → tz D σ H2) :
    tSeq (tDrop (tBM K "list" (rExtT K) (tVar i) (tCons te tNil))) tz D σ H := s_extT (D := { D with nx := tz D }) hl ha h hz k
theorem inV_ints {i : Int} : ∀ l : List Int, inV (.int i) (l.map V.int) = decide (i ∈ l)
  | [] => rfl
  | a :: l => by
    have e : eqV (.int a) (.int i) = decide (i = a) := by
      show (a == i) = _
      rw [Bool.eq_iff_iff]
      simp
      exact eq_comm
    have ih := inV_ints l (i := i)
    unfold inV at ih ⊢
    rw [List.map_cons, List.any_cons, ih, e]
    simp
theorem flat_ints : ∀ l : List Int, (l.map V.int).all flatV = true
  | [] => rfl
  | a :: l => by rw [List.map_cons, List.all_cons, flat_ints l]; rfl
/-- x in xs, x not in xs: ints -/
theorem ev_inIL {i : Int} {l : List Int} {neg : Bool} (ha : Ev ta σ H i) (hb : Ev tb σ H (Ls.mk l)) : Ev (tOp (rIn K neg) ta tb) σ H (neg ^^ decide (i ∈ l)) := ev_op ha hb fun x y H rx ⟨p, xs, e, hp, rl⟩ Q q => by
  have ex : x = .int i := rx
  have es := RL.eq_map (f := V.int) rl
  subst ex es
  refine ⟨p, _, e, .inl (.of hp), rfl, flat_ints l, ?_⟩
  rw [inV_ints]
  cases neg <;> simpa using q _ _ H rfl (Gr.refl H) rfl
theorem ev_inIT {i : Int} {l : List Int} {neg : Bool} (ha : Ev ta σ H i) (hb : Ev tb σ H l) : Ev (tOp (rIn K neg) ta tb) σ H (neg ^^ decide (i ∈ l)) := ev_op ha hb fun x y H rx ⟨p, xs, e, hp, rl⟩ Q q => by
  have ex : x = .int i := rx
  have es := RL.eq_map (f := V.int) rl
  subst ex es
  refine ⟨p, _, e, .inr (.inl (.inl hp)), rfl, flat_ints l, ?_⟩
  rw [inV_ints]
  cases neg <;> simpa using q _ _ H rfl (Gr.refl H) rfl
/-- max of a list of ints -/
theorem ed_maxL {l : List Int} (h : Ev te σ H (Ls.mk l)) (hl : 0 < l.length) : Ed (tCB (rMax K) (tCons te tNil)) σ H (fun (m : Int) => m ∈ l ∧ ∀ y ∈ l, y ≤ m) := fun H1 g Q q => h H1 g _ fun d v H2 e g2 ⟨p, xs, ev, hp, rl⟩ => by
  subst e
  have es := RL.eq_map (f := V.int) rl
  subst es
  exact ⟨p, l, by rw [ev], .inl (.inl hp), hl, fun m hm hy => q m _ H2 ⟨hm, hy⟩ g2 rfl⟩
theorem max_uniq {l : List Int} {m m' : Int} (h : m ∈ l ∧ ∀ y ∈ l, y ≤ m) (h' : m' ∈ l ∧ ∀ y ∈ l, y ≤ m') : m = m' := by
  have a := h.2 _ h'.1
  have b := h'.2 _ h.1
  omega
end
end Zw
/-! Z22: xs.append(ys.pop(k)); lists of lists; loops of drawn length. -/
namespace Zw
open PySem L2 RZ PySem.Spec PyProof.Rows SrtO
section
variable {K : PySem.W.Frag} {σ : L2.St} {H H0 Hb H' : Hp} {ta tb tc te tj tl ty tv td : TE} {tt : TT} {tz tu : TS} {D : Ends} {g : TG} {α β γ : Type}
theorem s_appPop [PyI α] {l m : Addr} {i j : Nat} {ds es : List α} {P : Int → Prop} (hl : Py.rep (Ls.mk ds) (.ref l) H) (hm : Py.rep (Ls.mk es) (.ref m) H) (ne : l ≠ m) (ha : σ[i]? = some (some (.ref l))) (hb : σ[j]? = some (some (.ref m))) (h : Ed te σ H P) (hP : ∀ k, P k → 0 ≤ k ∧ k < es.length) (hz : ds.length < 100000) (hz2 : es.length ≤ 100000)
    (k : ∀ (n : Nat) d H2, es[n]? = some d → (∀ Hb, Gr Hb H → Hb l = none → Hb m = none → Gr Hb H2) → TupK H H2 → Py.rep (Ls.mk (ds ++ [d])) (.ref l) H2 → Py.rep (Ls.mk (es.eraseIdx n)) (.ref m) H2 → D.nx σ H2) :
    tDrop (tBM K "list" rAppend (tVar i) (tCons (tBM K "list" rPopAt (tVar j) (tCons te tNil)) tNil)) D σ H := by
  obtain ⟨l', xs, e, hxs, rx⟩ := hl
  cases e
  obtain ⟨m', ys, e, hys, ry⟩ := hm
  cases e
  refine ⟨_, ha, .inl ⟨rfl, xs, .of hxs⟩, _, hb, .inl ⟨rfl, ys, .of hys⟩, ?_⟩
  refine h H (Gr.refl H) _ fun c v H1 pc g1 rc => ?_
  obtain ⟨c0, c1⟩ := hP c pc
  have ec : v = .int c := rc
  subst ec
  have hlt : c.toNat < es.length := by omega
  have hd : es[c.toNat]? = some es[c.toNat] := by simp [hlt]
  obtain ⟨y, hy, rd⟩ := ry.get hd
  have hix : ixN ys.length c = some c.toNat := by
    unfold ixN
    rw [if_pos c0, if_pos (by rw [← ry.1]; exact c1)]
  have g1m := g1.lst hys
  have g1l := g1.lst hxs
  refine ⟨m, ys, c, c.toNat, y, rfl, rfl, g1m, by omega, by omega, (ixN_seq hix).1, hy, ?_⟩
  have t1 : TupK H1 (upd H1 m (.lst (ys.eraseIdx c.toNat))) := TupK.put g1m (fun _ z => nomatch z)
  have hl2 : (upd H1 m (.lst (ys.eraseIdx c.toNat))) l = some (.lst xs) := by rw [upd_ne ne]; exact g1l
  have t2 : TupK (upd H1 m (.lst (ys.eraseIdx c.toNat))) (upd (upd H1 m (.lst (ys.eraseIdx c.toNat))) l (.lst (xs ++ [y]))) := TupK.put hl2 (fun _ z => nomatch z)
  refine ⟨l, xs, y, rfl, rfl, hl2, by rw [← rx.1]; exact Nat.lt_of_lt_of_le hz (by decide), ?_⟩
  have tt := (g1.tup.trans t1).trans t2
  refine k c.toNat _ _ hd (fun Hb gb b1 b2 => ((gb.trans g1).mut b2 g1m (fun _ z => nomatch z)).mut b1 hl2 (fun _ z => nomatch z)) tt ⟨l, _, rfl, upd_same, ?_⟩ ⟨m, _, rfl, by rw [upd_ne (Ne.symm ne)]; exact upd_same, ?_⟩
  · exact (rx.mono fun _ _ z => PyI.keep tt z).snoc (PyI.keep tt rd)
  · exact (RL.erase _ ry).mono fun _ _ z => PyI.keep tt z
theorem q_appPop [PyI α] {l m : Addr} {i j : Nat} {ds es : List α} {P : Int → Prop} (hl : Py.rep (Ls.mk ds) (.ref l) H) (hm : Py.rep (Ls.mk es) (.ref m) H) (ne : l ≠ m) (ha : σ[i]? = some (some (.ref l))) (hb : σ[j]? = some (some (.ref m))) (h : Ed te σ H P) (hP : ∀ k, P k → 0 ≤ k ∧ k < es.length) (hz : ds.length < 100000) (hz2 : es.length ≤ 100000)
    (k : ∀ (n : Nat) d H2, es[n]? = some d → (∀ Hb, Gr Hb H → Hb l = none → Hb m = none → Gr Hb H2) → TupK H H2 → Py.rep (Ls.mk (ds ++ [d])) (.ref l) H2 → Py.rep (Ls.mk (es.eraseIdx n)) (.ref m) H2 → tz D σ H2) :
    tSeq (tDrop (tBM K "list" rAppend (tVar i) (tCons (tBM K "list" rPopAt (tVar j) (tCons te tNil)) tNil))) tz D σ H := s_appPop (D := { D with nx := tz D }) hl hm ne ha hb h hP hz hz2 k
theorem perm_pop {l : List α} {d : α} {n : Nat} (h : l[n]? = some d) : (d :: l.eraseIdx n).Perm l := by
  induction l generalizing n with
  | nil => simp at h
  | cons a l ih =>
    cases n with
    | zero => simp at h; subst h; exact List.Perm.refl _
    | succ n =>
      simp at h
      rw [List.eraseIdx_cons_succ]
      exact (List.Perm.swap a d _).trans ((ih h).cons a)
theorem q_parEN [Py α] [Py β] {i j : Nat} {P : α → Prop} {P' : β → Prop} (h : Ed ta σ H P) (h' : EdF tb σ H P') (k : ∀ a v b q H1 H2, P a → P' b → Gr H H1 → Py.rep a v H1 → H1 q = none → Gr H1 H2 → Py.rep b (.ref q) H2 → tz D ((σ.set i (some v)).set j (some (.ref q))) H2) : tSeq (tPar i j (tCons ta (tCons tb tNil))) tz D σ H :=
  h H (Gr.refl H) _ fun a v H1 p e r => h' H1 e _ fun b q H2 p' e2 hq _ r' => ⟨v, .ref q, rfl, k a v b q H1 H2 p p' e r hq e2 r'⟩
/-- for .. in range(e), e drawn -/
theorem s_forRng {P : Int → Prop} (h : Ed te σ H P) (k : ∀ n H', P n → Gr H H' → tFor (iRng1 (tCons (tC (.int n)) tNil)) g tu D σ H') : tFor (iRng1 (tCons te tNil)) g tu D σ H := h H (Gr.refl H) _ fun d v H1 p g1 r => by
  have e : v = .int d := r
  subst e
  exact k d H1 p g1
theorem q_forRng {P : Int → Prop} (h : Ed te σ H P) (k : ∀ n H', P n → Gr H H' → tSeq (tFor (iRng1 (tCons (tC (.int n)) tNil)) g tu) tz D σ H') : tSeq (tFor (iRng1 (tCons te tNil)) g tu) tz D σ H := s_forRng (D := { D with nx := tz D }) h k
theorem ed_tup2 {Pa Pb : Int → Prop} (h : Ed ta σ H Pa) (h' : Ed tb σ H Pb) : Ed (tTup (tCons ta (tCons tb tNil))) σ H (fun (l : List Int) => ∃ a b, l = [a, b] ∧ Pa a ∧ Pb b) := fun H1 e Q q =>
  ea_2 h h' H1 e _ fun vs H2 e2 ⟨v, w, d, d', ev, p, p', r, r'⟩ => by
    subst ev
    exact ⟨by show 2 ≤ sizeLine; decide, fun p0 hp => q [d, d'] _ _ ⟨d, d', rfl, p, p'⟩ (e2.trans (Gr.new hp)) ⟨p0, [v, w], rfl, upd_same, (RL.cons (Py.mono (Gr.new hp) r) (RL.cons (Py.mono (Gr.new hp) r') RL.nil))⟩⟩
theorem list2_pair {a b : Int} {v : V} {H : Hp} (h : Py.rep [a, b] v H) : Py.rep (a, b) v H := by
  obtain ⟨p, xs, e, hp, r⟩ := h
  obtain ⟨x, xs', rfl, r1, t⟩ := r.uncons
  obtain ⟨y, ys, rfl, r2, t2⟩ := t.uncons
  rw [t2.nil_inv] at hp
  exact ⟨p, x, y, e, hp, r1, r2⟩
/-- [list(..) for j in ..]: a list of new lists -/
theorem el_nestF [PyI α] [Py β] {wi : TI} {j : Nat} {vs : List Nat} {ds : List β} {v : β → List α} (hs : Src wi σ H ds) (hz : ds.length ≤ 100000) (hw : ∀ x, wipe ((wipe σ vs).set j (some x)) vs = wipe σ vs)
    (he : ∀ d x H', d ∈ ds → Gr H H' → Py.rep d x H' → EdF te ((wipe σ vs).set j (some x)) H' (· = Ls.mk (v d))) : EdF (tLc wi (gName j) tYes te vs) σ H (· = Ls.mk (ds.map fun d => Ls.mk (v d))) := by
  intro H1 g1 Q q
  refine hs H1 g1 _ fun J H2 g2 w A hA => ?_
  have gD : Gr H2 (upd H2 A (.lst [])) := Gr.new hA
  have hA0 : H1 A = none := g2.back hA
  refine ⟨fun i m H' => m = ds.length - i ∧ i ≤ ds.length ∧ Gr H2 H' ∧ ∃ as, Nest (α := α) H1 H' A as ((ds.take i).map v), ⟨ds.length, by simp, Nat.zero_le _, gD, [], ⟨upd_same, hA0, rfl, fun i a vs h => by simp at h, List.nodup_nil⟩⟩, ?_⟩
  rintro i m H3 ⟨rfl, hi, g3, as, N⟩
  by_cases hlt : i < ds.length
  · have hd : ds[i]? = some ds[i] := by simp [hlt]
    obtain ⟨hgo, hy⟩ := w.go H3 g3 i _ hd
    have hmem : ds[i] ∈ ds := List.getElem_mem hlt
    have htk : ds.take (i + 1) = ds.take i ++ [ds[i]] := by rw [List.take_add_one, hd]; rfl
    refine .inr ⟨hgo, fun H' => i + 1 ≤ ds.length ∧ Gr H2 H' ∧ ∃ as, Nest (α := α) H1 H' A as ((ds.take (i + 1)).map v), fun H' h => ⟨ds.length - (i + 1), by omega, rfl, h.1, h.2⟩, fun x H4 hyl => ?_⟩
    obtain ⟨g4, r4⟩ := hy x H4 hyl
    refine ⟨hw x, ?_⟩
    unfold tYes
    have gH4 : Gr H H4 := ((g1.trans g2).trans g3).trans g4
    have main := he _ x H4 hmem gH4 r4 H4 (Gr.refl _) (fun y H5 => ∃ acc, H5 A = some (.lst acc) ∧ acc.length < sizeLine ∧ (i + 1 ≤ ds.length ∧ Gr H2 (upd H5 A (.lst (acc ++ [y]))) ∧ ∃ as, Nest (α := α) H1 (upd H5 A (.lst (acc ++ [y]))) A as ((ds.take (i + 1)).map v))) fun d a H5 ed g5 ha ha2 r5 => ?_
    · simpa using main
    · subst ed
      have N5 := N.gr (g4.trans g5)
      have hl := N.len
      rw [List.length_map, List.length_take] at hl
      have aA : a ≠ A := fun e => by rw [e, (N.gr g4).out] at ha; cases ha
      obtain ⟨a', xs, e, hxs, rxs⟩ := r5
      cases e
      have tk : TupK H5 (upd H5 A (.lst (as.map V.ref ++ [V.ref a]))) := TupK.put N5.out (fun _ z => nomatch z)
      refine ⟨as.map V.ref, N5.out, by rw [List.length_map]; exact Nat.lt_of_lt_of_le (show as.length < 100001 by omega) (by decide), hlt, ?_, as ++ [a], ?_⟩
      · exact (g3.trans (g4.trans g5)).mut hA N5.out (fun _ z => nomatch z)
      · refine ⟨by rw [upd_same]; simp, N.new, by rw [htk, List.map_append, List.length_append, List.length_append, N.len]; rfl, fun q b ws h h' => ?_, ?_⟩
        · rw [htk, List.map_append] at h'
          by_cases hq : q < as.length
          · rw [List.getElem?_append_left hq] at h
            rw [List.getElem?_append_left (by rw [← N.len]; exact hq)] at h'
            obtain ⟨h1, h2, ys, hys, rys⟩ := N5.ins q b ws h h'
            exact ⟨h1, h2, ys, by rw [upd_ne h2]; exact hys, rys.mono fun _ _ z => PyI.keep tk z⟩
          · rw [List.getElem?_append_right (by omega)] at h
            rw [List.getElem?_append_right (by rw [← N.len]; omega), ← N.len] at h'
            have hz0 : q - as.length = 0 := by
              have := (List.getElem?_eq_some_iff.mp h).1
              simp at this; omega
            rw [hz0] at h h'
            simp at h h'
            subst h h'
            exact ⟨g2.back (g3.back (g4.back ha)), aA, xs, by rw [upd_ne aA]; exact hxs, rxs.mono fun _ _ z => PyI.keep tk z⟩
        · rw [List.nodup_append]
          refine ⟨N.nd, by simp, fun b hb c hc e => ?_⟩
          simp at hc
          subst hc e
          obtain ⟨q, hq⟩ := List.mem_iff_getElem?.mp hb
          have hql := (List.getElem?_eq_some_iff.mp hq).1
          obtain ⟨ws, hws⟩ : ∃ ws, ((ds.take i).map v)[q]? = some ws := ⟨_, List.getElem?_eq_getElem (by rw [← N.len]; exact hql)⟩
          obtain ⟨_, _, ys, hys, _⟩ := (N.gr g4).ins q b ws hq hws
          rw [ha] at hys
          cases hys
  · have e : i = ds.length := by omega
    subst e
    rw [List.take_length] at N
    have hr := N.rep
    rw [List.map_map] at hr
    exact .inl ⟨w.stop H3 g3, q _ A H3 rfl (g2.trans g3) hA0 (by rw [N.out]; exact fun z => nomatch z) hr⟩
theorem edF_sortedL [PyO α] [PySrt α] {ds : List α} (h : Ev te σ H (Ls.mk ds)) (hok : ∀ d ∈ ds, PySrt.ok d) : EdF (tCB rSortedG (tCons te tNil)) σ H (· = Ls.mk (sortO ds)) := fun H1 g Q q => h H1 g _ fun d v H2 e g2 ⟨p, xs, ev, hp, r⟩ => by
  subst e
  refine ⟨α, _, _, ds, p, by rw [ev], Coll.lst hp r, hok, fun p' ys ds' hp' hs hn rl => ?_⟩
  rw [sortO_eq hs hp'] at rl
  exact q _ p' _ rfl (g2.trans (Gr.new hn)) (g2.back hn) (by rw [upd_same]; exact fun z => nomatch z) ⟨p', ys, rfl, upd_same, rl.mono fun _ _ z => PyI.keep (TupK.new hn) z⟩
end
end Zw
/-! Z23: a, b = (e, f) through a tuple. -/
namespace Zw
open PySem L2 RZ PySem.Spec PyProof.Rows SrtO
section
variable {K : PySem.W.Frag} {σ : L2.St} {H : Hp} {ta tb : TE} {tz : TS} {D : Ends} {α β : Type}
theorem q_asgT2 [Py α] [Py β] {i j : Nat} {P : α → Prop} {P' : β → Prop} (h : Ed ta σ H P) (h' : Ed tb σ H P') (k : ∀ a b v w H1, P a → P' b → Gr H H1 → Py.rep a v H1 → Py.rep b w H1 → tz D ((σ.set i (some v)).set j (some w)) H1) :
    tSeq (tAsg (tTup (tCons ta (tCons tb tNil))) (gTup K 2 (gCons (gName i) (gCons (gName j) gNil)))) tz D σ H := by
  unfold tSeq tAsg tTup
  refine ea_2 h h' H (Gr.refl H) _ fun vs H1 e z => ?_
  obtain ⟨v, w, a, b, ev, p, p', r, r'⟩ := z
  subst ev
  exact ⟨by show 2 ≤ sizeLine; decide, fun q hq => ⟨q, _, rfl, .of upd_same, rfl, v, _, rfl, w, _, rfl, rfl, k a b v w _ p p' (e.trans (Gr.new hq)) (Py.mono (Gr.new hq) r) (Py.mono (Gr.new hq) r')⟩⟩
theorem ed_eqI {Pa Pb : Int → Prop} (ha : Ed ta σ H Pa) (hb : Ed tb σ H Pb) : Ed (tOp rEq ta tb) σ H (fun (_ : Bool) => True) := ed_op ha hb fun a b _ _ x y H rx ry Q q =>
  ev_eqI (ta := tC x) (tb := tC y) (σ := σ) (ev_c rx) (ev_c ry) H (Gr.refl H) Q fun d v H2 _ g r => q d v H2 trivial g r
theorem ed_ixTd [PyI α] {P : List α → Prop} {P' : α → Prop} {i : Int} (h : Ed ta σ H P) (hi : Ev tb σ H i) (e : ∀ ds, P ds → ∃ d, L2.atI ds i = some d ∧ P' d) : Ed (tOp (rIxT K) ta tb) σ H P' := ed_op h hi fun ds i' pd ei x y H2 ⟨p, xs, ex, hp, r⟩ ry Q q => by
  subst ei
  obtain ⟨d, ed, pd⟩ := e ds pd
  obtain ⟨z, ez, rz⟩ := r.atI ed
  exact ⟨p, xs, i', z, ex, ry, .of hp, ez, q d z H2 pd (Gr.refl H2) rz⟩
/-- x = [.. for k in d ..] under the dict's lock -/
theorem s_lockAsg [Py α] {te : TE} {n : Nat} {P : α → Prop} (h : Ed (tLockE te) σ H P) (k : ∀ d v H1, P d → Gr H H1 → Py.rep d v H1 → D.nx (σ.set n (some v)) H1) : tLock (tAsg te (gName n)) D σ H :=
  h H (Gr.refl H) (fun v H' => D.nx (σ.set n (some v)) H') k
end
end Zw
/-! Z24: tuples of whole numbers sorted, the empty one among them. -/
namespace Zw
open PySem L2 RZ PySem.Spec PyProof.Rows SrtO PySem.SeqAt Ob PySem.W
def KF (h : Heap) : List Value → List (Option Value) → Prop
  | [], [] => True
  | v :: vs, f :: fs => (∃ a o xs n, v = .ref a ∧ h.get? a = some o ∧ o.cls = .type "tuple" ∧ o.data = .seq xs n ∧ xs[0]? = f) ∧ KF h vs fs
  | _, _ => False
theorem kf_len {h : Heap} : ∀ {vs : List Value} {fs : List (Option Value)}, KF h vs fs → vs.length = fs.length
  | [], [], _ => rfl
  | _ :: vs, _ :: fs, t => by have := kf_len t.2; simp [this]
  | [], _ :: _, t => t.elim
  | _ :: _, [], t => t.elim
theorem kf_firsts {M : Model} {A : Around} {E : Value → Shared → Prop} {s : Shared} : ∀ (vs : List Value) (fs : List (Option Value)) {Q : List (Option Value) → Shared → Prop}, KF s.heap vs fs → Q fs s → wpAny M A (vs.mapM firstOfTuple') Q E s
  | [], [], _, _, h => by rw [List.mapM_nil]; exact wpAny_pure h
  | [], _ :: _, _, t, _ => t.elim
  | _ :: _, [], _, t, _ => t.elim
  | v :: vs, f :: fs, Q, t, h => by
    obtain ⟨⟨a, o, xs, n, rfl, ho, hc, hd, hf⟩, t⟩ := t
    rw [List.mapM_cons]
    refine wpAny_bind ?_
    rw [kas_first_eq]
    refine wpAny_bind (Looks.here (show Looks M s.heap (typeOf (.ref a)) o.cls from (Looks.ld ho).andThen .now) ?_)
    rw [hc, if_neg (by first | decide | simp)]
    refine wpAny_bind (listItems_at ho hd (wpAny_pure ?_))
    rw [hf]
    exact wpAny_bind (kf_firsts vs fs (Q := fun bs s' => wpAny M A (pure (f :: bs)) Q E s') t (wpAny_pure h))
theorem kf_looks {M : Model} {h : Heap} : ∀ {vs : List Value} {fs : List (Option Value)}, KF h vs fs → ∀ v ∈ vs, Looks M h (typeOf v) (.type "tuple")
  | [], [], _, _, m => by cases m
  | _ :: vs, _ :: fs, t, v, m => by
    rcases List.mem_cons.mp m with e | m
    · obtain ⟨a, o, xs, n, e', ho, hc, _⟩ := t.1
      rw [e, e', ← hc]
      exact (Looks.ld ho).andThen .now
    · exact kf_looks t.2 v m
  | [], _ :: _, t, _, _ => t.elim
  | _ :: _, [], t, _, _ => t.elim
theorem kf_kind {M : Model} {A : Around} {E : Value → Shared → Prop} {s : Shared} {vs : List Value} {fs : List (Option Value)} {Q : SortKind → Shared → Prop} (t : KF s.heap vs fs) (hne : 0 < fs.length) (hs : ¬ ∀ f ∈ fs, f.isSome = true)
    (h : Q (if (fs[0]?.bind id).isSome then general' else oneType') s) : wpAny M A (keyKind' vs.toArray) Q E s := by
  rw [keyKind'_eq, List.mapM_toArray, map_eq_pure_bind]
  refine wpAny_bind (wpAny_bind (kf_firsts vs _ t (wpAny_pure ?_)))
  have hall : ¬ (fs.toArray.all fun x => x.isSome) = true := by
    simpa using hs
  rw [if_neg hall]
  by_cases h0 : (fs[0]?.bind id).isSome = true
  · rw [if_pos h0] at h
    have h0' : (fs.toArray[0]?.bind id).isSome = true := by simpa using h0
    rw [if_pos h0']
    exact wpAny_pure h
  · rw [if_neg h0] at h
    have h0' : ¬ (fs.toArray[0]?.bind id).isSome = true := by simpa using h0
    rw [if_neg h0']
    rw [oneTypeOnly'_eq, List.mapM_toArray, map_eq_pure_bind]
    refine wpAny_bind (wpAny_bind (wpAny_bind (kas_mapM (r := Value.type "tuple") _ (fun v hv Q' hq => (kf_looks t v hv).here hq) (wpAny_pure ?_))))
    obtain ⟨v, vr, e⟩ : ∃ v vr, vs = v :: vr := by
      have := kf_len t
      match vs, this with
      | v :: vr, _ => exact ⟨v, vr, rfl⟩
      | [], z => rw [← z] at hne; exact absurd hne (by simp)
    subst e
    have hall2 : ((List.map (fun _ => Value.type "tuple") (v :: vr)).toArray.all fun x => x == Value.type "tuple") = true := by
      simp only [List.all_toArray, List.all_map, List.all_eq_true]
      intro _ _
      rfl
    have h1 : (List.map (fun _ => Value.type "tuple") (v :: vr)).toArray[0]? = some (Value.type "tuple") := by simp
    rw [h1]
    simp only [hall2, if_true]
    exact wpAny_pure (wpAny_pure h)
theorem call_tuple_lt {prog : Program} {w : World} {A : Around} {s : Shared} {E : Value → Shared → Prop} {Q : Value → Shared → Prop} {l b : Addr} {items items2 : Array Value} {e r : Nat → Bool} (hl : s.heap.IsTuple l items) (hb : s.heap.IsTuple b items2)
    (he : ∀ j (h1 : j < items.size) (h2 : j < items2.size), EqAt A.in1 s items[j] items2[j] (e j)) (hr : ∀ j (h1 : j < items.size) (h2 : j < items2.size), e j = false → RcOp .Lt A.in1 s items[j] items2[j] (r j))
    (h : Q (.bool (lexAt e r (decide (items.size < items2.size)) 0 (min items.size items2.size))) s) : wpAny (model prog w) A (call (.builtin "tuple.__lt__") [.ref l, .ref b]) Q E s := by
  obtain ⟨⟨cls, dd, data, sl⟩, ho, hc, n, hd⟩ := id hl
  obtain ⟨⟨cls2, dd2, data2, sl2⟩, ho2, hc2, n2, hd2⟩ := id hb
  simp only at hc hd hc2 hd2
  subst hc hd hc2 hd2
  exact call_meets F.slot_tuple_lt ⟨_, ho, rfl⟩ F.entry_tuple_lt (F.args_tuple_lt_2 _ _) (tuple_ltAt l b items items2 n n2 dd dd2 sl sl2 e r) ⟨ho, ho2, he, hr, h⟩
theorem oneLt_tup {prog : Program} {w : World} {A : Around} {s : Shared} {E : Value → Shared → Prop} {Q : Bool → Shared → Prop} {l m : List Int} {u v : Value} (hu : A.units < cLine) (h1 : PyO.vr l u s.heap) (h2 : PyO.vr m v s.heap) (h : Q (PyO.lt l m) s) : wpAny (model prog w) A (oneLt' true u v) Q E s := by
  obtain ⟨a, its, e, ht, r⟩ := h1
  obtain ⟨b, its', e', ht', r'⟩ := h2
  subst e e'
  rw [oneLt'_eq]
  simp only [if_true]
  refine wpAny_bind (wpAny_cRoomFor hu ?_)
  obtain ⟨o, ho, hc, n, hd⟩ := id ht
  refine wpAny_bind (wpAny_callSpecialIfBound?_slot (T := "tuple") ⟨_, ho, hc⟩ F.slot_tuple_lt (call_tuple_lt (e := fun j => decide (l.getD j default = m.getD j default)) (r := fun j => PyO.lt (l.getD j default) (m.getD j default)) ht ht' (fun j j1 j2 => ?_) (fun j j1 j2 hj => ?_) ?_))
  · obtain ⟨t, e⟩ := r.arr j1
    obtain ⟨t', e'⟩ := r'.arr j2
    rw [e, e']
    have hd : ∀ p q : Int, decide (p = q) = (p == q) := fun p q => by rw [Bool.eq_iff_iff]; simp
    rw [hd]
    exact EqAt.int_int _ t _ t'
  · obtain ⟨t, e⟩ := r.arr j1
    obtain ⟨t', e'⟩ := r'.arr j2
    rw [e, e']
    exact RcOp.lt_int _ _ t t'
  · have q := lexAt_lexG (lt := PyO.lt (α := Int)) l m
    rw [VTup.size (a := a) r, VTup.size (a := b) r', q]
    exact wpAny_truthy_bool h
instance (priority := 2000) instSrtListE : PySrt (List Int) where
  ok := fun _ => True
  srt := fun {prog w A s a us} k hu h h2 ha => (by
    by_cases hne : ∀ u ∈ us, k u ≠ []
    · exact instSrtList.srt k hu (fun u m => ⟨(h u m).1, hne u m⟩) h2 ha
    · intro h' keep
      have hv : ∀ u ∈ us, PyO.vr (k u) u h' := fun u hm => PyO.vkeep (fun b o e c => keep b o (fun z => by subst z; exact ha o e c) e) (h u hm).1
      have hfs : ∀ vs : List Value, (∀ u ∈ vs, PyO.vr (k u) u h') → ∃ fs : List (Option Value), KF h' vs fs ∧ ∀ (i : Nat) (u : Value), vs[i]? = some u → ∃ f : Option Value, fs[i]? = some f ∧ (f.isSome = true ↔ k u ≠ []) := by
        intro vs
        induction vs with
        | nil => intro _; exact ⟨[], trivial, fun i u e => by simp at e⟩
        | cons v vs ih =>
          intro hm
          obtain ⟨fs, q1, q2⟩ := ih fun u hu => hm u (List.mem_cons_of_mem _ hu)
          obtain ⟨b, its, e, ⟨o, ho, hc, n, hdd⟩, r⟩ := hm v List.mem_cons_self
          refine ⟨its[0]? :: fs, ⟨⟨b, o, its, n, e, ho, hc, hdd, rfl⟩, q1⟩, fun i u ei => ?_⟩
          cases i with
          | succ i => exact q2 i u (by simpa using ei)
          | zero =>
            simp at ei
            subst ei
            refine ⟨its[0]?, rfl, ?_⟩
            have := r.1
            cases ek : k v with
            | nil => rw [ek] at this; simp at this; simp [this]
            | cons x l => rw [ek] at this; simp at this; simp; omega
      obtain ⟨fs, kf, hf⟩ := hfs us hv
      have hl := kf_len kf
      refine ⟨if (fs[0]?.bind id).isSome then general' else oneType', fun Q E hq => kf_kind kf (by omega) (fun hall => hne fun u hu => ?_) hq, fun p q hp hq => ?_⟩
      · obtain ⟨i, ei⟩ := List.mem_iff_getElem?.mp hu
        obtain ⟨f, ef, e2⟩ := hf i u ei
        exact e2.mp (hall f (List.mem_of_getElem? ef))
      · show wpAny (model prog w) A (keyLt' _ p.1 q.1) (fun r s' => s' = { s with heap := h' } ∧ r = PyO.lt (k p.1) (k q.1)) (fun _ _ => False) { s with heap := h' }
        split
        · show wpAny (model prog w) A (oneLt' false p.1 q.1) _ _ _
          exact oneLt_any (PyO.ltAt (s := { s with heap := h' }) (by show A.units + (0 + 1) < cLine; omega) (hv _ hp) (hv _ hq)) ⟨rfl, rfl⟩
        · rw [keyLt'_oneType]
          exact oneLt_tup (s := { s with heap := h' }) (by omega) (hv _ hp) (hv _ hq) ⟨rfl, rfl⟩)
theorem allOkT {l : List (List Int)} : ∀ d ∈ l, PySrt.ok d := fun _ _ => trivial
end Zw
/-! Z25: set(a list of whole numbers), sorted of it. -/
namespace Zw
open PySem L2 RZ PySem.Spec PyProof.Rows SrtO PySem.SeqAt Ob PySem.W
section
variable {P : Program} {w : World} {A : Around} {E : Value → Shared → Prop} {s : Shared}
/-- the empty set that set(..) begins with -/
abbrev eSet (w : World) : Obj := { cls := .type "set", dict := none, data := .set #[] 0 (.fresh 0 0 (!w.params.followText "set-order")) }
/-- what filling it leaves -/
def Filled (w : World) (ns : List Int) (s s' : Shared) : Prop := ∃ h' tk c, s' = { s with heap := h', toks := tk } ∧ SetR w h' s.heap.objs.size (fun j => decide (j ∈ ns)) c ∧ c ≤ ns.length ∧ ∀ b o, s.heap.get? b = some o → h'.get? b = some o
theorem ints_at {its : List Value} {ns : List Int} (hi : IntsAre its ns) {i : Nat} {v : Value} (hv : its[i]? = some v) : ∃ k t, ns[i]? = some k ∧ v = .int k t := by
  have hl : i < ns.length := by rw [← IntsAre.length hi]; exact (List.getElem?_eq_some_iff.mp hv).1
  obtain ⟨t, e⟩ := IntsAre.int_at hi i v hv
  rw [List.getD_eq_getElem?_getD, List.getElem?_eq_getElem hl] at e
  exact ⟨_, t, List.getElem?_eq_getElem hl, e⟩
/-- the loop of set.update over a list's iterator, both new -/
theorem fill_loop {A : Around} {l : Addr} {its : Array Value} {ns : List Int} {R : Result → Shared → Prop} (hh : A.in1.handled = none) (hl : (s.heap.push (eSet w)).IsList l its) (hlt : l < s.heap.objs.size) (hi : IntsAre its.toList ns) (hb : ns.length + 1 < scanBound)
    (h : ∀ s', Filled w ns s s' → R (.ok (.ret .none)) s') :
    codeAny (model P w) A (.builtin "set.update.loop" ⟨[.ref s.heap.objs.size, .ref (s.heap.push (eSet w)).objs.size], []⟩) R { s with heap := (s.heap.push (eSet w)).push { cls := .type "list_iterator", data := .fields #[.ref l, .int 0 0] } } := by
  have zs : its.size = ns.length := by have q := IntsAre.length hi; rwa [Array.length_toList] at q
  have z1 : (s.heap.push (eSet w)).objs.size = s.heap.objs.size + 1 := Heap.size_push ..
  have hne : l ≠ (s.heap.push (eSet w)).objs.size := by rw [z1]; exact Nat.ne_of_lt (Nat.lt_succ_of_lt hlt)
  have hnot : s.heap.objs.size ∉ [(s.heap.push (eSet w)).objs.size, l] := by
    rw [z1]
    simp only [List.mem_cons, List.mem_singleton, List.not_mem_nil, or_false, not_or]
    exact ⟨Nat.ne_of_lt (Nat.lt_succ_self _), Nat.ne_of_gt hlt⟩
  refine set_update_ints ((Walks.list hh _ l hne its).toS) s.heap.objs.size hnot ns zs hb (fun i v hv => ints_at hi (i := i) (by rw [Array.getElem?_toList]; exact hv)) (its.size - 0) 0 _ (by omega) (Nat.zero_le _) ⟨⟨_, Heap.get?_push_size _ rfl, rfl, rfl⟩, hl.push _⟩
    ⟨0, Nat.le_refl 0, setR_new_at (Heap.get?_push_of_some _ (Heap.get?_push_size _ rfl))⟩ fun s' c hm hc hS => ?_
  obtain ⟨h', g, d, tk, os⟩ := s'
  obtain rfl : g = s.gens := hm.gens
  obtain rfl : d = s.drawn := hm.drawn
  obtain rfl : os = s.os := hm.os
  refine h _ ⟨h', tk, c, rfl, hS, by omega, fun b o e => ?_⟩
  have hlt := Heap.lt_size e
  refine hm.heap b o ?_ (Heap.get?_push_of_some _ (Heap.get?_push_of_some _ e))
  rw [z1]
  simp only [List.mem_cons, List.mem_singleton, List.not_mem_nil, or_false, not_or]
  exact ⟨Nat.ne_of_lt hlt, Nat.ne_of_lt (Nat.lt_succ_of_lt hlt)⟩
set_option maxHeartbeats 3200000 in
theorem set_of_list {l : Addr} {its : Array Value} {ns : List Int} {Q : Value → Shared → Prop} (hh : A.handled = none) (hl : s.heap.IsList l its) (hi : IntsAre its.toList ns) (hb : ns.length + 1 < scanBound)
    (h : ∀ s', Filled w ns s s' → Q (.ref s.heap.objs.size) s') : wpAny (model P w) A (call (.type "set") [.ref l]) Q E s := by
  obtain ⟨_, _, hmro⟩ := F.called_set.mro
  have m1 := F.called_set.made
  have m2 := F.called_set.sub
  have m3 := F.called_set.notType
  have m4 := F.called_set.canCreate
  have m5 := F.typeCall_set_1 (.ref l)
  refine wpAny_call (codeAny_of_tree ?_)
  show wpAny _ _ (callAny (.type "set") _) _ _ _
  refine wpAny_pure ⟨Code.quiet_builtin _ (by decide +kernel), codeAny_builtin F.entry_type_call ?_⟩
  rw [Around.under_plain (weight_type_call_type "set" [.ref l] []) rfl]
  repeat (any_goals (first | assumption | wp_step))
  refine codeAny_mono (code_set_led1 (.ref l) (E := E) (Q₁ := fun x s1 => x = .ref s.heap.objs.size ∧ s1 = { s with heap := s.heap.push (eSet w) }) ⟨rfl, rfl⟩) fun r s1 hr => ?_
  cases r with
  | error _ => exact hr
  | ok f => cases f with
    | ret x =>
      obtain ⟨rfl, rfl⟩ := hr
      have hT : Shared.TypeIs { s with heap := s.heap.push (eSet w) } (.ref s.heap.objs.size) "set" := ⟨_, Heap.get?_push_size _ rfl, rfl⟩
      have i1 := F.called_set.init.lookup
      have i2 := F.called_set.init.bind (.ref s.heap.objs.size)
      repeat (any_goals (first | assumption | wp_step))
      refine codeAny_mono (codeAny_call_builtin (R := wants (fun r s2 => r = .none ∧ Filled w ns s s2) E) F.called_set.init.plain F.entry_set_init (check_set_init_1 hT ?_)) fun r2 s2 hr2 => ?_
      · obtain ⟨⟨cls, di, da, sl⟩, ho, hc, n, hd⟩ := hl
        simp only at hc hd
        subst hc hd
        have hll := Heap.lt_size ho
        have ho' : (s.heap.push (eSet w)).get? l = some { cls := .type "list", dict := di, data := .seq its n, slots := sl } := Heap.get?_push_of_some _ ho
        have hL : (s.heap.push (eSet w)).IsList l its := ⟨_, ho', rfl, n, rfl⟩
        have s1 := F.sub_list_set
        have s2 := F.sub_list_frozenset
        have s3 : (Value.type "list" == Value.type "dict") = false := by decide
        unfold Builtin.«set.__init__» noKeywords Builtin.Frozenset.updateFrom
        generalize hI : pyIter = I
        wp_walk
        subst hI
        refine wpAny_pyIter_list hL (wpAny_bind (wpAny_runValue ?_))
        refine fill_loop (by simp [hh]) hL hll hi hb fun s' f => ?_
        refine wpAny_pure ?_
        show wpAny _ _ (ret Value.none) _ _ _
        exact wpAny_pure ⟨rfl, f⟩
      · cases r2 with
        | error _ => exact hr2
        | ok f2 => cases f2 with
          | ret r =>
            obtain ⟨rfl, hf⟩ := hr2
            repeat (any_goals (first | assumption | wp_step))
            exact h _ hf
          | _ => exact hr2.elim
    | _ => exact hr.elim
end
end Zw
/-! Y1: the heap where some objects of one's own change; results that are new; what the slots hold. -/
namespace Zw
open PySem L2 RZ PySem.Spec PyProof.Rows SrtO

def MutO : HO → Prop
  | .lst _ => True
  | .dK _ => True
  | .dT _ => True
  | .frz _ _ => True
  | _ => False
theorem MutO.notH {o : HO} (h : MutO o) : NotH o := by intro C dx r t l e; subst e; exact h
theorem MutO.notT {o : HO} (h : MutO o) : ∀ xs, o ≠ .tup xs := by intro xs e; subst e; exact h
/-- may be changed -/
def MutA (H : Hp) (a : Addr) : Prop := ∀ o, H a = some o → MutO o ∧ ¬ Owned H a
structure Mx (S : Addr → Prop) (H H' : Hp) : Prop where
  old : ∀ a o, ¬ S a → H a = some o → H' a = some o ∨ (Chg o ∧ Owned H a ∧ ∃ v ns, H' a = some (warm v) ∧ PyI.rep (α := List (List Int)) ns v H' ∧ Own H a ns)
  mt : ∀ a o, S a → H a = some o → ∃ o', H' a = some o' ∧ MutO o'
  kd : ∀ a, S a → MutA H a
  neat : Neat H → Neat H'
  newH : ∀ p C dx r t l, H' p = some (.ins C dx (hFields r t l)) → H l ≠ none → H p = some (.ins C dx (hFields r t l))
theorem Mx.tup {S : Addr → Prop} {H H' : Hp} (m : Mx S H H') : TupK H H' := fun a xs h => by
  by_cases s : S a
  · exact absurd rfl ((m.kd a s _ h).1.notT xs)
  · rcases m.old a _ s h with z | ⟨z, _⟩
    · exact z
    · exact absurd z (fun z => nomatch z)
theorem Mx.ins {S : Addr → Prop} {H H' : Hp} (m : Mx S H H') {a C dx : Addr} {fs : List (Str × V)} (h : H a = some (.ins C dx fs)) : H' a = some (.ins C dx fs) := by
  by_cases s : S a
  · exact ((m.kd a s _ h).1).elim
  · rcases m.old a _ s h with z | ⟨z, _⟩
    · exact z
    · exact absurd z (fun z => nomatch z)
theorem Mx.there {S : Addr → Prop} {H H' : Hp} (m : Mx S H H') {a : Addr} (h : H a ≠ none) : H' a ≠ none := by
  cases q : H a with
  | none => exact absurd q h
  | some o =>
    by_cases s : S a
    · obtain ⟨o', e, _⟩ := m.mt a o s q
      rw [e]; exact fun z => nomatch z
    · rcases m.old a o s q with z | ⟨_, _, v, ns, z, _⟩ <;> (rw [z]; exact fun z => nomatch z)
theorem Mx.back {S : Addr → Prop} {H H' : Hp} (m : Mx S H H') {a : Addr} (h : H' a = none) : H a = none := Classical.byContradiction fun z => m.there z h
theorem Mx.owned {S : Addr → Prop} {H H' : Hp} (m : Mx S H H') {a : Addr} (h : H a ≠ none) (o : Owned H' a) : Owned H a := by
  obtain ⟨p, C, dx, r, t, e⟩ := o
  exact ⟨p, C, dx, r, t, m.newH p C dx r t a e h⟩
theorem Mx.at {S : Addr → Prop} {H H' : Hp} (m : Mx S H H') {a : Addr} {o : HO} (h : H a = some o) (s : ¬ S a) (n : ¬ Chg o) : H' a = some o := by
  rcases m.old a o s h with z | ⟨z, _⟩
  · exact z
  · exact absurd z n
/-- an object that no house keeps -/
theorem Mx.atO {S : Addr → Prop} {H H' : Hp} (m : Mx S H H') {a : Addr} {o : HO} (h : H a = some o) (s : ¬ S a) (n : ¬ Owned H a) : H' a = some o := by
  rcases m.old a o s h with z | ⟨_, z, _⟩
  · exact z
  · exact absurd z n
theorem Mx.gr {H H' : Hp} (m : Mx (fun _ => False) H H') : Gr H H' := ⟨fun a o h => m.old a o id h, m.neat, m.newH⟩
theorem MutA.gr {H H' : Hp} {a : Addr} (g : Gr H H') (h : H a ≠ none) (k : MutA H a) : MutA H' a := fun o e => by
  cases q : H a with
  | none => exact absurd q h
  | some u =>
    obtain ⟨k1, k2⟩ := k u q
    rcases g.old a u q with z | ⟨_, z, _⟩
    · rw [e] at z
      injection z with z
      subst z
      exact ⟨k1, fun od => k2 (g.owned h od)⟩
    · exact absurd z k2
theorem MutA.mx {S : Addr → Prop} {H H' : Hp} {a : Addr} (m : Mx S H H') (h : H a ≠ none) (k : MutA H a) : MutA H' a := fun o e => by
  cases q : H a with
  | none => exact absurd q h
  | some u =>
    obtain ⟨k1, k2⟩ := k u q
    refine ⟨?_, fun od => k2 (m.owned h od)⟩
    by_cases s : S a
    · obtain ⟨o', e', k'⟩ := m.mt a u s q
      rw [e] at e'; cases e'; exact k'
    · have := m.atO q s k2
      rw [e] at this; cases this; exact k1
/-- growth, and then changes of what is S' -/
theorem Mx.comp {S S' : Addr → Prop} {H H1 H2 : Hp} (kd : ∀ a, S a → MutA H a) (m1 : Mx S H H1) (m : Mx S' H1 H2) (hs : ∀ a, H a ≠ none → S' a → S a) : Mx S H H2 := by
  refine ⟨fun a o s h => ?_, fun a o s h => ?_, kd, fun n => m.neat (m1.neat n), fun p C dx r t l e hl => m1.newH p C dx r t l (m.newH p C dx r t l e (m1.there hl)) hl⟩
  · have hne : H a ≠ none := by rw [h]; exact fun z => nomatch z
    have s' : ¬ S' a := fun z => s (hs a hne z)
    have key : ∀ v ns, H2 a = some (warm v) → PyI.rep (α := List (List Int)) ns v H2 → Own H1 a ns → Owned H1 a → Chg o → H2 a = some o ∨ (Chg o ∧ Owned H a ∧ ∃ v ns, H2 a = some (warm v) ∧ PyI.rep (α := List (List Int)) ns v H2 ∧ Own H a ns) := fun v ns h2 r ow od e =>
      .inr ⟨e, m1.owned hne od, v, ns, h2, r, fun p C dx r t ds hp hd => ow p C dx r t ds (m1.ins hp) (PyI.keep m1.tup hd)⟩
    rcases m1.old a o s h with h1 | ⟨e, od, v, ns, h1, r, ow⟩
    · rcases m.old a o s' h1 with h2 | ⟨e, od, v, ns, h2, r, ow⟩
      · exact .inl h2
      · exact key v ns h2 r ow od e
    · rcases m.old a _ s' h1 with h2 | ⟨_, od', v', ns', h2, r', ow'⟩
      · exact .inr ⟨e, od, v, ns, h2, PyI.keep m.tup r, ow⟩
      · exact key v' ns' h2 r' ow' od' e
  · obtain ⟨o1, e1, k1⟩ := m1.mt a o s h
    by_cases s' : S' a
    · exact m.mt a o1 s' e1
    · have hne : H a ≠ none := by rw [h]; exact fun z => nomatch z
      exact ⟨o1, m.atO e1 s' (fun od => (kd a s o h).2 (m1.owned hne od)), k1⟩
theorem Mx.of_gr {S : Addr → Prop} {H H' : Hp} (kd : ∀ a, S a → MutA H a) (g : Gr H H') : Mx S H H' := by
  refine ⟨fun a o _ h => g.old a o h, fun a o s h => ?_, kd, g.neat, g.newH⟩
  rcases g.old a o h with z | ⟨_, od, _⟩
  · exact ⟨o, z, (kd a s o h).1⟩
  · exact absurd od (kd a s o h).2
theorem Mx.put {S : Addr → Prop} {H : Hp} {a : Addr} {o u : HO} (kd : ∀ a, S a → MutA H a) (s : S a) (h : H a = some u) (m : MutO o) : Mx S H (upd H a o) := by
  refine ⟨fun b w nb hb => .inl (by rw [upd_ne (fun z => nb (by rw [z]; exact s))]; exact hb), fun b w sb hb => ?_, kd, fun n => n.put m.notH, fun p C dx r t l e _ => ?_⟩
  · by_cases e : b = a
    · subst e; exact ⟨o, upd_same, m⟩
    · exact ⟨w, by rw [upd_ne e]; exact hb, (kd b sb w hb).1⟩
  · by_cases e' : p = a
    · subst e'; rw [upd_same] at e; cases e; exact m.elim
    · rw [upd_ne e'] at e; exact e
theorem Mx.mono {S S' : Addr → Prop} {H H' : Hp} (kd : ∀ a, S' a → MutA H a) (m : Mx S H H') (hs : ∀ a, H a ≠ none → S a → S' a) : Mx S' H H' :=
  Mx.comp kd (Mx.of_gr kd (Gr.refl H)) m hs
def Rob (S : Addr → Prop) (f : Hp → Prop) (H : Hp) : Prop := ∀ H', Mx S H H' → f H'
theorem Rob.now {S : Addr → Prop} {f : Hp → Prop} {H : Hp} (kd : ∀ a, S a → MutA H a) (r : Rob S f H) : f H := r H (Mx.of_gr kd (Gr.refl H))
theorem Rob.mx {S S' : Addr → Prop} {f : Hp → Prop} {H H1 : Hp} (r : Rob S f H) (m : Mx S H H1) (hs : ∀ a, H a ≠ none → S' a → S a) : Rob S' f H1 := fun H' m' => r H' (Mx.comp m.kd m m' hs)
theorem Rob.gr {S S' : Addr → Prop} {f : Hp → Prop} {H H1 : Hp} (r : Rob S f H) (kd : ∀ a, S a → MutA H a) (g : Gr H H1) (hs : ∀ a, H a ≠ none → S' a → S a) : Rob S' f H1 := r.mx (Mx.of_gr kd g) hs
theorem Rob.imp {S : Addr → Prop} {f f' : Hp → Prop} {H : Hp} (r : Rob S f H) (i : ∀ H, f H → f' H) : Rob S f' H := fun H' m => i H' (r H' m)

/-! ### results that are new -/
class PyR (α : Type) extends Py α where
  fr : Hp → α → V → Hp → Prop
  frep : ∀ {H1 H2 : Hp} {d : α} {v : V}, fr H1 d v H2 → rep d v H2
  frmono : ∀ {H1 H2 H3 : Hp} {d : α} {v : V}, Gr H2 H3 → fr H1 d v H2 → fr H1 d v H3
  frpre : ∀ {H0 H1 H2 : Hp} {d : α} {v : V}, (∀ a, H1 a = none → H0 a = none) → fr H1 d v H2 → fr H0 d v H2
  frob : ∀ {H1 H2 H3 : Hp} {d : α} {v : V} {S : Addr → Prop}, fr H1 d v H2 → (∀ a, S a → H1 a ≠ none) → Mx S H2 H3 → fr H1 d v H3
  foot : V → List Addr
  ffoot : ∀ {H1 H2 : Hp} {d : α} {v : V}, fr H1 d v H2 → ∀ a ∈ foot v, H1 a = none ∧ H2 a ≠ none ∧ MutA H2 a
  arob : ∀ {H H' : Hp} {d : α} {v : V}, Gr H H' → rep d v H → rep d v H'
instance (priority := 10) instPyRofI {α : Type} [PyI α] : PyR α where
  fr := fun _ d v H => PyI.rep d v H
  frep := fun h => h
  frmono := fun g h => PyI.keep g.tup h
  frpre := fun _ h => h
  frob := fun h _ m => PyI.keep m.tup h
  foot := fun _ => []
  ffoot := fun _ a m => by simp at m
  arob := fun g h => PyI.keep g.tup h
theorem hs_mx {C : Addr} {S : Addr → Prop} {h : Hs C} {v : V} {H H' : Hp} (m : Mx S H H') (r : Py.rep h v H) : Py.rep h v H' := by
  obtain ⟨p, dx, t, l, e, hp, hn, ht, hl⟩ := r
  have od : Owned H l := ⟨p, C, dx, _, _, hp⟩
  have hl0 : H l ≠ none := hn.1 _ _ _ _ _ _ hp
  have key : ∀ o, H l = some o → H' l = some o ∨ ∃ b, H' l = some (warm b) ∧ PyI.rep (besM h.r h.ds) b H' := fun o ho => by
    have ns : ¬ S l := fun s => (m.kd l s o ho).2 od
    rcases m.old l o ns ho with z | ⟨_, _, v, ns, z, r, ow⟩
    · exact .inl z
    · exact .inr ⟨v, z, by rw [← ow p C dx h.r t h.ds hp ht]; exact r⟩
  refine ⟨p, dx, t, l, e, m.ins hp, m.neat hn, PyI.keep m.tup ht, ?_⟩
  rcases hl with hl | ⟨b, hl, hb⟩
  · exact key _ hl
  · rcases key _ hl with z | z
    · exact .inr ⟨b, z, PyI.keep m.tup hb⟩
    · exact .inr z
instance {C : Addr} : PyR (Hs C) where
  fr := fun _ d v H => Py.rep d v H
  frep := fun h => h
  frmono := fun g h => Py.mono g h
  frpre := fun _ h => h
  frob := fun h _ m => hs_mx m h
  foot := fun _ => []
  ffoot := fun _ a m => by simp at m
  arob := fun g h => Py.mono g h
def footV : V → List Addr
  | .ref a => [a]
  | _ => []
instance instRLs {α : Type} [PyR α] : PyR (Ls α) where
  fr := fun H1 d v H2 => ∃ p xs, v = .ref p ∧ H1 p = none ∧ H2 p = some (.lst xs) ∧ ¬ Owned H2 p ∧ RL (fun a x => PyR.fr H1 a x H2) d.l xs
  frep := fun ⟨p, xs, e, _, h, _, r⟩ => ⟨p, xs, e, h, r.mono fun _ _ z => PyR.frep z⟩
  frmono := fun g ⟨p, xs, e, n, h, no, r⟩ => ⟨p, xs, e, n, g.lst h, fun od => no (g.owned (by rw [h]; exact fun z => nomatch z) od), r.mono fun _ _ z => PyR.frmono g z⟩
  frpre := fun k ⟨p, xs, e, n, h, no, r⟩ => ⟨p, xs, e, k p n, h, no, r.mono fun _ _ z => PyR.frpre k z⟩
  frob := fun ⟨p, xs, e, n, h, no, r⟩ hs m => ⟨p, xs, e, n, m.at h (fun s => hs p s n) (fun z => nomatch z), fun od => no (m.owned (by rw [h]; exact fun z => nomatch z) od), r.mono fun _ _ z => PyR.frob z hs m⟩
  foot := footV
  ffoot := fun ⟨p, xs, e, n, h, no, r⟩ a m => by
    subst e
    have ea : a = p := by simpa [footV] using m
    subst ea
    exact ⟨n, by rw [h]; exact (fun z => nomatch z), fun o ho => by rw [h] at ho; cases ho; exact ⟨trivial, no⟩⟩
  arob := fun g h => Py.mono g h
instance instRDT {β : Type} [PyI β] : PyR (DT β) where
  fr := fun H1 d v H2 => ∃ p kvs, v = .ref p ∧ H1 p = none ∧ H2 p = some (.dT kvs) ∧ ¬ Owned H2 p ∧ PL (KR H2) d.kv kvs
  frep := fun ⟨p, xs, e, _, h, _, r⟩ => ⟨p, xs, e, h, r⟩
  frmono := fun g ⟨p, xs, e, n, h, no, r⟩ => ⟨p, xs, e, n, g.dT h, fun od => no (g.owned (by rw [h]; exact fun z => nomatch z) od), r.mono fun _ _ z => z.keep g.tup⟩
  frpre := fun k ⟨p, xs, e, n, h, no, r⟩ => ⟨p, xs, e, k p n, h, no, r⟩
  frob := fun ⟨p, xs, e, n, h, no, r⟩ hs m => ⟨p, xs, e, n, m.at h (fun s => hs p s n) (fun z => nomatch z), fun od => no (m.owned (by rw [h]; exact fun z => nomatch z) od), r.mono fun _ _ z => z.keep m.tup⟩
  foot := footV
  ffoot := fun ⟨p, xs, e, n, h, no, r⟩ a m => by
    subst e
    have ea : a = p := by simpa [footV] using m
    subst ea
    exact ⟨n, by rw [h]; exact (fun z => nomatch z), fun o ho => by rw [h] at ho; cases ho; exact ⟨trivial, no⟩⟩
  arob := fun g h => Py.mono g h
instance instRDI {β : Type} [PyI β] : PyR (DI β) where
  fr := fun H1 d v H2 => ∃ p kvs, v = .ref p ∧ H1 p = none ∧ H2 p = some (.dK kvs) ∧ ¬ Owned H2 p ∧ PL (KRI H2) d.kv kvs
  frep := fun ⟨p, xs, e, _, h, no, r⟩ => ⟨p, xs, e, h, no, r⟩
  frmono := fun {H1 H2 H3 d v} g ⟨p, xs, e, n, h, no, r⟩ => ⟨p, xs, e, n, by
    rcases g.old p _ h with z | ⟨_, z, _⟩
    · exact z
    · exact absurd z no, fun od => no (g.owned (by rw [h]; exact fun z => nomatch z) od), r.mono fun _ _ z => z.keep g.tup⟩
  frpre := fun k ⟨p, xs, e, n, h, no, r⟩ => ⟨p, xs, e, k p n, h, no, r⟩
  frob := fun ⟨p, xs, e, n, h, no, r⟩ hs m => ⟨p, xs, e, n, m.atO h (fun s => hs p s n) no, fun od => no (m.owned (by rw [h]; exact fun z => nomatch z) od), r.mono fun _ _ z => z.keep m.tup⟩
  foot := footV
  ffoot := fun ⟨p, xs, e, n, h, no, r⟩ a m => by
    subst e
    have ea : a = p := by simpa [footV] using m
    subst ea
    exact ⟨n, by rw [h]; exact (fun z => nomatch z), fun o ho => by rw [h] at ho; cases ho; exact ⟨trivial, no⟩⟩
  arob := fun g h => Py.mono g h
instance : PyR Hand where
  fr := fun H1 _ v H => ∃ t c ns, v = .ref t ∧ H t = some (hidL t (Phand c)) ∧ H1 c = none ∧ H c = some (.lst (List.map V.int ns))
  frep := fun ⟨t, c, ns, e, h, _, h2⟩ => ⟨t, c, ns, e, h, h2⟩
  frmono := fun g ⟨t, c, ns, e, h, n, h2⟩ => ⟨t, c, ns, e, g.at h (fun z => nomatch z), n, g.lst h2⟩
  frpre := fun k ⟨t, c, ns, e, h, n, h2⟩ => ⟨t, c, ns, e, h, k c n, h2⟩
  frob := fun ⟨t, c, ns, e, h, n, h2⟩ hs m => ⟨t, c, ns, e, m.at h (fun s => (m.kd t s _ h).1.elim) (fun z => nomatch z), n, m.at h2 (fun s => hs c s n) (fun z => nomatch z)⟩
  foot := fun _ => []
  ffoot := fun _ a m => by simp at m
  arob := fun g h => Py.mono g h
instance : PyR Tape where
  fr := fun _ d v H => Py.rep d v H
  frep := fun h => h
  frmono := fun g h => Py.mono g h
  frpre := fun _ h => h
  frob := fun ⟨t, c, e, n, h, h2⟩ hs m => ⟨t, c, e, n, m.at h (fun s => (m.kd t s _ h).1.elim) (fun z => nomatch z), m.at h2 (fun s => (m.kd c s _ h2).1.elim) (fun z => nomatch z)⟩
  foot := fun _ => []
  ffoot := fun _ a m => by simp at m
  arob := fun g h => Py.mono g h

/-- all that belongs to it stands at one place -/
class PyFlat (α : Type) extends PyR α where
  frobA : ∀ {H1 H2 H3 : Hp} {d : α} {v : V} {S : Addr → Prop}, fr H1 d v H2 → (∀ a, v = .ref a → ¬ S a) → Mx S H2 H3 → fr H1 d v H3
  footE : foot = footV
instance {α : Type} [PyI α] : PyFlat (Ls α) where
  frobA := fun ⟨p, xs, e, n, h, no, r⟩ hs m => ⟨p, xs, e, n, m.at h (hs p e) (fun z => nomatch z), fun od => no (m.owned (by rw [h]; exact fun z => nomatch z) od), r.mono fun _ _ z => PyI.keep m.tup z⟩
  footE := rfl
instance {β : Type} [PyI β] : PyFlat (DT β) where
  frobA := fun ⟨p, xs, e, n, h, no, r⟩ hs m => ⟨p, xs, e, n, m.at h (hs p e) (fun z => nomatch z), fun od => no (m.owned (by rw [h]; exact fun z => nomatch z) od), r.mono fun _ _ z => z.keep m.tup⟩
  footE := rfl
instance {β : Type} [PyI β] : PyFlat (DI β) where
  frobA := fun ⟨p, xs, e, n, h, no, r⟩ hs m => ⟨p, xs, e, n, m.atO h (hs p e) no, fun od => no (m.owned (by rw [h]; exact fun z => nomatch z) od), r.mono fun _ _ z => z.keep m.tup⟩
  footE := rfl
/-- a dict that is walked -/
structure LkT (β : Type) where
  kv : List (List Int × β)
  od : Obj
  kvs : List (List Key × V)
instance instLkT {β : Type} [PyI β] : Py (LkT β) := ⟨fun d v H => ∃ p, v = .ref p ∧ H p = some (.frz d.od (.dT d.kvs)) ∧ PL (KR H) d.kv d.kvs, fun g ⟨p, e, h, r⟩ => ⟨p, e, g.at h (fun z => nomatch z), r.mono fun _ _ z => z.keep g.tup⟩⟩
structure LkI (β : Type) where
  kv : List (Int × β)
  od : Obj
  kvs : List (Key × V)
instance instLkI {β : Type} [PyI β] : Py (LkI β) := ⟨fun d v H => ∃ p, v = .ref p ∧ H p = some (.frz d.od (.dK d.kvs)) ∧ PL (KRI H) d.kv d.kvs, fun g ⟨p, e, h, r⟩ => ⟨p, e, g.at h (fun z => nomatch z), r.mono fun _ _ z => z.keep g.tup⟩⟩
instance {β : Type} [PyI β] : PyFlat (LkT β) where
  fr := fun H1 d v H2 => ∃ p, v = .ref p ∧ H1 p = none ∧ H2 p = some (.frz d.od (.dT d.kvs)) ∧ ¬ Owned H2 p ∧ PL (KR H2) d.kv d.kvs
  frep := fun ⟨p, e, _, h, _, r⟩ => ⟨p, e, h, r⟩
  frmono := fun g ⟨p, e, n, h, no, r⟩ => ⟨p, e, n, g.at h (fun z => nomatch z), fun od => no (g.owned (by rw [h]; exact fun z => nomatch z) od), r.mono fun _ _ z => z.keep g.tup⟩
  frpre := fun k ⟨p, e, n, h, no, r⟩ => ⟨p, e, k p n, h, no, r⟩
  frob := fun ⟨p, e, n, h, no, r⟩ hs m => ⟨p, e, n, m.at h (fun s => hs p s n) (fun z => nomatch z), fun od => no (m.owned (by rw [h]; exact fun z => nomatch z) od), r.mono fun _ _ z => z.keep m.tup⟩
  foot := footV
  ffoot := fun ⟨p, e, n, h, no, r⟩ a m => by
    subst e
    have ea : a = p := by simpa [footV] using m
    subst ea
    exact ⟨n, by rw [h]; exact (fun z => nomatch z), fun o ho => by rw [h] at ho; cases ho; exact ⟨trivial, no⟩⟩
  arob := fun g h => Py.mono g h
  frobA := fun ⟨p, e, n, h, no, r⟩ hs m => ⟨p, e, n, m.at h (hs p e) (fun z => nomatch z), fun od => no (m.owned (by rw [h]; exact fun z => nomatch z) od), r.mono fun _ _ z => z.keep m.tup⟩
  footE := rfl
instance {β : Type} [PyI β] : PyFlat (LkI β) where
  fr := fun H1 d v H2 => ∃ p, v = .ref p ∧ H1 p = none ∧ H2 p = some (.frz d.od (.dK d.kvs)) ∧ ¬ Owned H2 p ∧ PL (KRI H2) d.kv d.kvs
  frep := fun ⟨p, e, _, h, _, r⟩ => ⟨p, e, h, r⟩
  frmono := fun g ⟨p, e, n, h, no, r⟩ => ⟨p, e, n, g.at h (fun z => nomatch z), fun od => no (g.owned (by rw [h]; exact fun z => nomatch z) od), r.mono fun _ _ z => z.keep g.tup⟩
  frpre := fun k ⟨p, e, n, h, no, r⟩ => ⟨p, e, k p n, h, no, r⟩
  frob := fun ⟨p, e, n, h, no, r⟩ hs m => ⟨p, e, n, m.at h (fun s => hs p s n) (fun z => nomatch z), fun od => no (m.owned (by rw [h]; exact fun z => nomatch z) od), r.mono fun _ _ z => z.keep m.tup⟩
  foot := footV
  ffoot := fun ⟨p, e, n, h, no, r⟩ a m => by
    subst e
    have ea : a = p := by simpa [footV] using m
    subst ea
    exact ⟨n, by rw [h]; exact (fun z => nomatch z), fun o ho => by rw [h] at ho; cases ho; exact ⟨trivial, no⟩⟩
  arob := fun g h => Py.mono g h
  frobA := fun ⟨p, e, n, h, no, r⟩ hs m => ⟨p, e, n, m.at h (hs p e) (fun z => nomatch z), fun od => no (m.owned (by rw [h]; exact fun z => nomatch z) od), r.mono fun _ _ z => z.keep m.tup⟩
  footE := rfl

/-! ### what the slots hold -/
structure Bnd where
  α : Type
  py : PyR α
  d : α
  v : V
  own : Bool
/-- what is new; what was given -/
abbrev bN {α : Type} [i : PyR α] (d : α) (v : V) : Bnd := ⟨α, i, d, v, true⟩
abbrev bG {α : Type} [i : PyR α] (d : α) (v : V) : Bnd := ⟨α, i, d, v, false⟩
def Bnd.ok (H0 : Hp) (b : Bnd) (H : Hp) : Prop := match b.own with | true => b.py.fr H0 b.d b.v H | false => b.py.rep b.d b.v H
def Bnd.foot (b : Bnd) : List Addr := match b.own with | true => b.py.foot b.v | false => []
abbrev EnvT := List (Option Bnd)
def OwnA (e : EnvT) (a : Addr) : Prop := ∃ (j : Nat) (b : Bnd), e[j]? = some (some b) ∧ a ∈ b.foot
def OthA (e : EnvT) (i : Nat) (a : Addr) : Prop := ∃ (j : Nat) (b : Bnd), j ≠ i ∧ e[j]? = some (some b) ∧ a ∈ b.foot
theorem OthA.own {e : EnvT} {i : Nat} {a : Addr} (h : OthA e i a) : OwnA e a := let ⟨j, b, _, x, y⟩ := h; ⟨j, b, x, y⟩
structure EnvOk (H0 : Hp) (F : Hp → Prop) (e : EnvT) (σ : L2.St) (H : Hp) : Prop where
  len : σ.length = e.length
  sl : ∀ (i : Nat) (b : Bnd), e[i]? = some (some b) → σ[i]? = some (some b.v)
  rb : ∀ (i : Nat) (b : Bnd), e[i]? = some (some b) → Rob (OthA e i) (b.ok H0) H
  kd : ∀ a, OwnA e a → H a ≠ none ∧ MutA H a
  nw : ∀ a, OwnA e a → H0 a = none
  nd : ∀ (i j : Nat) (b b' : Bnd) (a : Addr), e[i]? = some (some b) → e[j]? = some (some b') → a ∈ b.foot → a ∈ b'.foot → i = j
  fr : Rob (OwnA e) F H
  ne : Neat H
  gr : Rob (OwnA e) (Gr H0) H
section
variable {H0 H H' : Hp} {F F' : Hp → Prop} {e e' : EnvT} {σ : L2.St}
theorem Bnd.ok_rep {b : Bnd} (h : b.ok H0 H) : b.py.rep b.d b.v H := by
  unfold Bnd.ok at h
  split at h
  · exact b.py.frep h
  · exact h
theorem EnvOk.kdo (he : EnvOk H0 F e σ H) : ∀ a, OwnA e a → MutA H a := fun a h => (he.kd a h).2
theorem EnvOk.kdi (he : EnvOk H0 F e σ H) (i : Nat) : ∀ a, OthA e i a → MutA H a := fun a h => (he.kd a h.own).2
theorem EnvOk.rep (he : EnvOk H0 F e σ H) {i : Nat} {b : Bnd} (h : e[i]? = some (some b)) : b.py.rep b.d b.v H := Bnd.ok_rep (Rob.now (he.kdi i) (he.rb i b h))
theorem EnvOk.now (he : EnvOk H0 F e σ H) {i : Nat} {b : Bnd} (h : e[i]? = some (some b)) : b.ok H0 H := Rob.now (he.kdi i) (he.rb i b h)
theorem EnvOk.gr0 (he : EnvOk H0 F e σ H) : Gr H0 H := Rob.now he.kdo he.gr
theorem EnvOk.frm (he : EnvOk H0 F e σ H) : F H := Rob.now he.kdo he.fr
theorem EnvOk.mono (he : EnvOk H0 F e σ H) (g : Gr H H') : EnvOk H0 F e σ H' :=
  ⟨he.len, he.sl, fun i b h => (he.rb i b h).gr (he.kdi i) g fun _ _ z => z, fun a h => ⟨fun z => (he.kd a h).1 (g.back z), (he.kd a h).2.gr g (he.kd a h).1⟩, he.nw, he.nd, he.fr.gr he.kdo g fun _ _ z => z, g.neat he.ne, he.gr.gr he.kdo g fun _ _ z => z⟩
theorem EnvOk.imp (he : EnvOk H0 F e σ H) (i : ∀ H, F H → F' H) : EnvOk H0 F' e σ H := ⟨he.len, he.sl, he.rb, he.kd, he.nw, he.nd, he.fr.imp i, he.ne, he.gr⟩
theorem EnvOk.and (he : EnvOk H0 F e σ H) {S : Hp → Prop} (s : Rob (OwnA e) S H) : EnvOk H0 (fun H => F H ∧ S H) e σ H := ⟨he.len, he.sl, he.rb, he.kd, he.nw, he.nd, fun H' m => ⟨he.fr H' m, s H' m⟩, he.ne, he.gr⟩
/-- fewer slots known -/
theorem EnvOk.drop (he : EnvOk H0 F e σ H) {i : Nat} : EnvOk H0 F (e.set i none) σ H := by
  have key : ∀ (j : Nat) (b : Bnd), (e.set i none)[j]? = some (some b) → e[j]? = some (some b) := fun j b h => by
    rw [List.getElem?_set] at h
    split at h
    · split at h <;> cases h
    · exact h
  have ko : ∀ a, OwnA (e.set i none) a → OwnA e a := fun a ⟨j, b, h, m⟩ => ⟨j, b, key j b h, m⟩
  refine ⟨by rw [List.length_set]; exact he.len, fun j b h => he.sl j b (key j b h), fun j b h => fun H' m => he.rb j b (key j b h) H' (m.mono (he.kdi j) fun a _ ⟨k, b', n, x, y⟩ => ⟨k, b', n, key k b' x, y⟩), fun a h => he.kd a (ko a h), fun a h => he.nw a (ko a h), fun j k b b' a h h' => he.nd j k b b' a (key j b h) (key k b' h'), fun H' m => he.fr H' (m.mono he.kdo fun a _ z => ko a z), he.ne, fun H' m => he.gr H' (m.mono he.kdo fun a _ z => ko a z)⟩
/-- slot i holds what is new -/
theorem EnvOk.set {α : Type} [PyR α] {i : Nat} {d : α} {v : V} {H1 : Hp} (he : EnvOk H0 F e σ H) (g : Gr H H1) (hi : i < e.length) (r : PyR.fr H d v H1) : EnvOk H0 F (e.set i (some (bN d v))) (σ.set i (some v)) H1 := by
  have hd := he.drop (i := i)
  have kn : ∀ a, OwnA e a → H a ≠ none := fun a h => (he.kd a h).1
  have key : ∀ (j : Nat) (b : Bnd), (e.set i (some (bN d v)))[j]? = some (some b) → (j = i ∧ b = (bN d v)) ∨ (j ≠ i ∧ e[j]? = some (some b)) := fun j b h => by
    rw [List.getElem?_set] at h
    split at h
    · rename_i e1
      have h2 : some (some (bN d v)) = some (some b) := by simpa [hi] using h
      cases h2
      exact .inl ⟨e1.symm, rfl⟩
    · rename_i e1
      exact .inr ⟨fun z => e1 z.symm, h⟩
  have ft := PyR.ffoot r
  have ko : ∀ a, OwnA (e.set i (some (bN d v))) a → a ∈ PyR.foot α v ∨ ∃ j b, j ≠ i ∧ e[j]? = some (some b) ∧ a ∈ b.foot := fun a ⟨j, b, h, m⟩ => by
    rcases key j b h with ⟨_, e1⟩ | ⟨n, h⟩
    · subst e1; exact .inl m
    · exact .inr ⟨j, b, n, h, m⟩
  refine ⟨by rw [List.length_set, List.length_set]; exact he.len, fun j b h => ?_, fun j b h => ?_, fun a h => ?_, fun a h => ?_, fun j k b b' a h h' m m' => ?_, ?_, g.neat he.ne, ?_⟩
  · rcases key j b h with ⟨e1, e2⟩ | ⟨n, h⟩
    · subst e1 e2; rw [List.getElem?_set_self (by rw [he.len]; exact hi)]
    · rw [List.getElem?_set_ne (fun z => n z.symm)]; exact he.sl j b h
  · rcases key j b h with ⟨e1, e2⟩ | ⟨n, h⟩
    · subst e1 e2
      intro H' m
      refine PyR.frpre (fun a => Gr.back (he.gr0)) (PyR.frob r (S := OthA (e.set j (some (bN d v))) j) (fun a ⟨k, b', nk, hk, mm⟩ => ?_) m)
      rcases key k b' hk with ⟨z, _⟩ | ⟨_, hk⟩
      · exact absurd z nk
      · exact kn a ⟨k, b', hk, mm⟩
    · refine (he.rb j b h).gr (he.kdi j) g fun a ha ⟨k, b', nk, hk, mm⟩ => ?_
      rcases key k b' hk with ⟨e1, e2⟩ | ⟨_, hk⟩
      · subst e2
        exact absurd (ft a mm).1 ha
      · exact ⟨k, b', nk, hk, mm⟩
  · rcases ko a h with m | ⟨j, b, n, h, m⟩
    · exact (ft a m).2
    · have := he.kd a ⟨j, b, h, m⟩
      exact ⟨fun z => this.1 (g.back z), this.2.gr g this.1⟩
  · rcases ko a h with m | ⟨j, b, n, h, m⟩
    · exact he.gr0.back (ft a m).1
    · exact he.nw a ⟨j, b, h, m⟩
  · rcases key j b h with ⟨e1, e2⟩ | ⟨n, h⟩ <;> rcases key k b' h' with ⟨e1', e2'⟩ | ⟨n', h'⟩
    · rw [e1, e1']
    · subst e2; exact absurd (ft a m).1 (kn a ⟨k, b', h', m'⟩)
    · subst e2'; exact absurd (ft a m').1 (kn a ⟨j, b, h, m⟩)
    · exact he.nd j k b b' a h h' m m'
  · refine he.fr.gr he.kdo g fun a ha h => ?_
    rcases ko a h with m | ⟨j, b, n, h, m⟩
    · exact absurd (ft a m).1 ha
    · exact ⟨j, b, h, m⟩
  · refine he.gr.gr he.kdo g fun a ha h => ?_
    rcases ko a h with m | ⟨j, b, n, h, m⟩
    · exact absurd (ft a m).1 ha
    · exact ⟨j, b, h, m⟩
/-- what is one's own changes in place -/
theorem EnvOk.put {α β : Type} [PyR α] [PyFlat β] {i : Nat} {d : α} {d' : β} {a : Addr} {o u : HO} {H1 : Hp} (he : EnvOk H0 F e σ H) (hb : e[i]? = some (some (bN d (.ref a)))) (hf : PyR.foot α (.ref a) = [a]) (g : Gr H H1) (h1 : H1 a = some u) (mo : MutO o) (r : PyR.fr H0 d' (.ref a) (upd H1 a o)) :
    EnvOk H0 F (e.set i (some (bN d' (.ref a)))) σ (upd H1 a o) := by
  have he := he.mono g
  have hi : i < e.length := (List.getElem?_eq_some_iff.mp hb).1
  have fa : a ∈ (bN d (.ref a)).foot := by show a ∈ PyR.foot α (.ref a); rw [hf]; exact List.mem_cons_self
  have fb : (bN d' (.ref a)).foot = [a] := by show PyR.foot β (.ref a) = [a]; rw [PyFlat.footE]; rfl
  have oa : OwnA e a := ⟨i, _, hb, fa⟩
  have key : ∀ (j : Nat) (b : Bnd), (e.set i (some (bN d' (.ref a))))[j]? = some (some b) → (j = i ∧ b = bN d' (.ref a)) ∨ (j ≠ i ∧ e[j]? = some (some b)) := fun j b h => by
    rw [List.getElem?_set] at h
    split at h
    · rename_i e1
      have h2 : some (some (bN d' (.ref a))) = some (some b) := by simpa [hi] using h
      cases h2
      exact .inl ⟨e1.symm, rfl⟩
    · rename_i e1
      exact .inr ⟨fun z => e1 z.symm, h⟩
  have ko : ∀ c, OwnA (e.set i (some (bN d' (.ref a)))) c → OwnA e c := fun c ⟨j, b, h, m⟩ => by
    rcases key j b h with ⟨_, e2⟩ | ⟨_, h⟩
    · subst e2; rw [fb] at m; rw [List.mem_singleton.mp m]; exact oa
    · exact ⟨j, b, h, m⟩
  have mx : Mx (OwnA e) H1 (upd H1 a o) := Mx.put he.kdo oa h1 mo
  refine ⟨by rw [List.length_set]; exact he.len, fun j b h => ?_, fun j b h => ?_, fun c h => ?_, fun c h => he.nw c (ko c h), fun j k b b' c h h' m m' => ?_, he.fr.mx mx fun c _ h => ko c h, mx.neat he.ne, he.gr.mx mx fun c _ h => ko c h⟩
  · rcases key j b h with ⟨e1, e2⟩ | ⟨n, h⟩
    · subst e1 e2; have q := he.sl j _ hb; exact q
    · exact he.sl j b h
  · rcases key j b h with ⟨e1, e2⟩ | ⟨n, h⟩
    · subst e1 e2
      refine fun H' m => PyFlat.frobA r (fun c ec ⟨k, b', nk, hk, mm⟩ => ?_) m
      cases ec
      rcases key k b' hk with ⟨z, _⟩ | ⟨_, hk⟩
      · exact nk z
      · exact nk (he.nd k j b' _ a hk hb mm fa)
    · have mxj : Mx (OthA e j) H1 (upd H1 a o) := Mx.put (he.kdi j) ⟨i, _, fun z => n z.symm, hb, fa⟩ h1 mo
      refine (he.rb j b h).mx mxj fun c _ ⟨k, b', nk, hk, mm⟩ => ?_
      rcases key k b' hk with ⟨e1, e2⟩ | ⟨_, hk⟩
      · subst e1 e2; rw [fb] at mm; rw [List.mem_singleton.mp mm]; exact ⟨k, _, nk, hb, fa⟩
      · exact ⟨k, b', nk, hk, mm⟩
  · have := he.kd c (ko c h)
    exact ⟨mx.there this.1, this.2.mx mx this.1⟩
  · rcases key j b h with ⟨e1, e2⟩ | ⟨n, h⟩ <;> rcases key k b' h' with ⟨e1', e2'⟩ | ⟨n', h'⟩
    · rw [e1, e1']
    · subst e2; rw [fb] at m; rw [List.mem_singleton.mp m] at m'; rw [e1]; exact he.nd i k _ b' a hb h' fa m'
    · subst e2'; rw [fb] at m'; rw [List.mem_singleton.mp m'] at m; rw [e1']; exact he.nd j i b _ a h hb m fa
    · exact he.nd j k b b' c h h' m m'
end
end Zw
/-! Y2: what a def comes to, as a wish on its answer; expressions. -/
namespace Zw
open PySem L2 RZ PySem.Spec PyProof.Rows SrtO

abbrev Wm (α : Type) : Type := (α → Prop) → Prop
def Wm.ret {α : Type} (a : α) : Wm α := fun P => P a
def Wm.bind {α β : Type} (m : Wm α) (f : α → Wm β) : Wm β := fun P => m fun a => f a P
def Wm.fail {α : Type} : Wm α := fun _ => False
def Wm.grd {α : Type} (p : Prop) (a : α) : Wm α := fun P => p ∧ P a
def Wm.opt {α : Type} (o : Option α) : Wm α := fun P => ∃ d, o = some d ∧ P d
/-- any number below -/
def Wm.draw (many : Int) : Wm Int := fun P => (1 ≤ many ∧ many < 1073741824) ∧ ∀ d, 0 ≤ d ∧ d < many → P d
def Wm.any {α : Type} (p : α → Prop) : Wm α := fun P => ∀ d, p d → P d
theorem Wm.ret_bind {α β : Type} (a : α) (f : α → Wm β) : Wm.bind (Wm.ret a) f = f a := rfl
theorem Wm.bind_ret {α : Type} (m : Wm α) : Wm.bind m Wm.ret = m := rfl
theorem Wm.bind_assoc {α β γ : Type} (m : Wm α) (f : α → Wm β) (g : β → Wm γ) : Wm.bind (Wm.bind m f) g = Wm.bind m fun a => Wm.bind (f a) g := rfl
theorem Wm.grd_t {α : Type} {p : Prop} (h : p) (a : α) : Wm.grd p a = Wm.ret a := funext fun P => propext ⟨fun z => z.2, fun z => ⟨h, z⟩⟩
theorem Wm.opt_some {α : Type} {o : Option α} {d : α} (h : o = some d) : Wm.opt o = Wm.ret d := funext fun P => propext ⟨fun ⟨d', e, p⟩ => by rw [h] at e; cases e; exact p, fun p => ⟨d, h, p⟩⟩

/-- the slots, as an expression reads them -/
structure EnvR (e : EnvT) (σ : L2.St) (H : Hp) : Prop where
  len : σ.length = e.length
  sl : ∀ (i : Nat) (b : Bnd), e[i]? = some (some b) → σ[i]? = some (some b.v)
  rp : ∀ (i : Nat) (b : Bnd), e[i]? = some (some b) → b.py.rep b.d b.v H
  ne : Neat H
section
variable {K : PySem.W.Frag} {H0 H H1 H' : Hp} {F : Hp → Prop} {e : EnvT} {σ : L2.St} {ta tb tc td te tl : TE} {t u tt : TT} {α β γ δ : Type} {E : XK}
theorem EnvOk.r (he : EnvOk H0 F e σ H) : EnvR e σ H := ⟨he.len, he.sl, fun i b h => he.rep h, he.ne⟩
theorem EnvR.mono (he : EnvR e σ H) (g : Gr H H') : EnvR e σ H' := ⟨he.len, he.sl, fun i b h => b.py.arob g (he.rp i b h), g.neat he.ne⟩
theorem EnvR.set [PyR α] (he : EnvR e σ H) {i : Nat} {d : α} {v : V} {o : Bool} (hi : i < e.length) (r : Py.rep d v H) : EnvR (e.set i (some ⟨α, inferInstance, d, v, o⟩)) (σ.set i (some v)) H := by
  have key : ∀ (j : Nat) (b : Bnd), (e.set i (some ⟨α, inferInstance, d, v, o⟩))[j]? = some (some b) → (j = i ∧ b = ⟨α, inferInstance, d, v, o⟩) ∨ (j ≠ i ∧ e[j]? = some (some b)) := fun j b h => by
    rw [List.getElem?_set] at h
    split at h
    · rename_i e1
      have h2 : some (some (⟨α, inferInstance, d, v, o⟩ : Bnd)) = some (some b) := by simpa [hi] using h
      cases h2
      exact .inl ⟨e1.symm, rfl⟩
    · rename_i e1
      exact .inr ⟨fun z => e1 z.symm, h⟩
  refine ⟨by rw [List.length_set, List.length_set]; exact he.len, fun j b h => ?_, fun j b h => ?_, he.ne⟩
  · rcases key j b h with ⟨e1, e2⟩ | ⟨n, h⟩
    · subst e1 e2; rw [List.getElem?_set_self (by rw [he.len]; exact hi)]
    · rw [List.getElem?_set_ne (fun z => n z.symm)]; exact he.sl j b h
  · rcases key j b h with ⟨e1, e2⟩ | ⟨n, h⟩
    · subst e1 e2; exact r
    · exact he.rp j b h
def wipeE : EnvT → List Nat → EnvT
  | e, [] => e
  | e, i :: vs => (wipeE e vs).set i none
theorem EnvR.drop (he : EnvR e σ H) {i : Nat} {x : Option V} : EnvR (e.set i none) (σ.set i x) H := by
  have key : ∀ (j : Nat) (b : Bnd), (e.set i none)[j]? = some (some b) → j ≠ i ∧ e[j]? = some (some b) := fun j b h => by
    rw [List.getElem?_set] at h
    split at h
    · split at h <;> cases h
    · rename_i n; exact ⟨fun z => n z.symm, h⟩
  refine ⟨by rw [List.length_set, List.length_set]; exact he.len, fun j b h => ?_, fun j b h => he.rp j b (key j b h).2, he.ne⟩
  rw [List.getElem?_set_ne (fun z => (key j b h).1 z.symm)]
  exact he.sl j b (key j b h).2
theorem EnvR.wipe : ∀ {e : EnvT} {σ : L2.St} (vs : List Nat), EnvR e σ H → EnvR (wipeE e vs) (L2.wipe σ vs) H
  | _, _, [], he => he
  | _, _, i :: vs, he => (EnvR.wipe vs he).drop
theorem ev_get [PyR α] {i : Nat} {d : α} {v : V} {o : Bool} (he : EnvR e σ H) (h : e[i]? = some (some ⟨α, inferInstance, d, v, o⟩)) : Ev (tVar i) σ H d := ev_var (he.sl i _ h) (he.rp i _ h)

/-! ### expressions -/
def Ew [Py α] (te : TE) (σ : L2.St) (H : Hp) (m : Wm α) : Prop := ∀ P, m P → Ed te σ H P
def EwF [PyR α] (te : TE) (σ : L2.St) (H : Hp) (m : Wm α) : Prop := ∀ P, m P → ∀ H1, Gr H H1 → ∀ Q : VK, (∀ d v H2, P d → Gr H1 H2 → PyR.fr H1 d v H2 → Q v H2) → te σ H1 Q
def EwT (tt : TT) (σ : L2.St) (H : Hp) (m : Wm Bool) : Prop := ∀ P, m P → EdT tt σ H P
theorem ew_ret [Py α] {d : α} (h : Ev te σ H d) : Ew te σ H (Wm.ret d) := fun P p => h.imp fun d' e => by rw [e]; exact p
theorem ewF_I [PyI α] {m : Wm α} (h : Ew te σ H m) : EwF te σ H m := fun P p H1 g Q q => h P p H1 g Q fun d v H2 pd g2 r => q d v H2 pd g2 r
theorem ewF_Hs {C : Addr} {m : Wm (Hs C)} (h : Ew te σ H m) : EwF te σ H m := fun P p H1 g Q q => h P p H1 g Q fun d v H2 pd g2 r => q d v H2 pd g2 r
theorem ew_F [PyR α] {m : Wm α} (h : EwF te σ H m) : Ew te σ H m := fun P p H1 g Q q => h P p H1 g Q fun d v H2 pd g2 r => q d v H2 pd g2 (PyR.frep r)
theorem ew_r [PyI α] {d : α} (h : Ev te σ H d) : EwF te σ H (Wm.ret d) := ewF_I (ew_ret h)
theorem ewt_ret {b : Bool} (h : EvT t σ H b) : EwT t σ H (Wm.ret b) := fun P p => h.imp fun d' e => by rw [e]; exact p
/-- an expression that evaluates the part first -/
def Th1 (C : TE → TE) : Prop := ∀ (ta : TE) (σ : L2.St) (H : Hp) (Q : VK), (ta σ H fun v H' => C (tC v) σ H' Q) → C ta σ H Q
def Th2 (C : TE → TE → TE) : Prop := ∀ (ta tb : TE) (σ : L2.St) (H : Hp) (Q : VK), (ta σ H fun v H' => tb σ H' fun w H'' => C (tC v) (tC w) σ H'' Q) → C ta tb σ H Q
def Th3 (C : TE → TE → TE → TE) : Prop := ∀ (ta tb tc : TE) (σ : L2.St) (H : Hp) (Q : VK), (ta σ H fun v H' => tb σ H' fun w H'' => tc σ H'' fun z H3 => C (tC v) (tC w) (tC z) σ H3 Q) → C ta tb tc σ H Q
def Th4 (C : TE → TE → TE → TE → TE) : Prop := ∀ (ta tb tc td : TE) (σ : L2.St) (H : Hp) (Q : VK), (ta σ H fun v H' => tb σ H' fun w H'' => tc σ H'' fun z H3 => td σ H3 fun y H4 => C (tC v) (tC w) (tC z) (tC y) σ H4 Q) → C ta tb tc td σ H Q
theorem ew_l1 {C : TE → TE} (hC : Th1 C) [Py α] [Py β] {m : Wm α} {f : α → Wm β} (ha : Ew ta σ H m) (k : ∀ a v H', Gr H H' → Py.rep a v H' → Ew (C (tC v)) σ H' (f a)) : Ew (C ta) σ H (Wm.bind m f) := fun P p H1 g Q q =>
  hC _ _ _ _ (ha _ p H1 g _ fun a v H2 pa g2 r => k a v H2 (g.trans g2) r P pa H2 (Gr.refl _) Q fun d v H3 pd g3 r => q d v H3 pd (g2.trans g3) r)
theorem ewF_l1 {C : TE → TE} (hC : Th1 C) [Py α] [PyR β] {m : Wm α} {f : α → Wm β} (ha : Ew ta σ H m) (k : ∀ a v H', Gr H H' → Py.rep a v H' → EwF (C (tC v)) σ H' (f a)) : EwF (C ta) σ H (Wm.bind m f) := fun P p H1 g Q q =>
  hC _ _ _ _ (ha _ p H1 g _ fun a v H2 pa g2 r => k a v H2 (g.trans g2) r P pa H2 (Gr.refl _) Q fun d v H3 pd g3 r => q d v H3 pd (g2.trans g3) (PyR.frpre (fun a => g2.back) r))
theorem ew_l2 {C : TE → TE → TE} (hC : Th2 C) [Py α] [Py β] [Py γ] {m : Wm α} {m' : Wm β} {f : α → β → Wm γ} (ha : Ew ta σ H m) (hb : Ew tb σ H m') (k : ∀ a b v w H', Gr H H' → Py.rep a v H' → Py.rep b w H' → Ew (C (tC v) (tC w)) σ H' (f a b)) : Ew (C ta tb) σ H (Wm.bind m fun a => Wm.bind m' fun b => f a b) := fun P p H1 g Q q =>
  hC _ _ _ _ _ (ha _ p H1 g _ fun a v H2 pa g2 r => hb _ pa H2 (g.trans g2) _ fun b w H3 pb g3 r' => k a b v w H3 ((g.trans g2).trans g3) (Py.mono g3 r) r' P pb H3 (Gr.refl _) Q fun d v H4 pd g4 r => q d v H4 pd ((g2.trans g3).trans g4) r)
theorem ewF_l2 {C : TE → TE → TE} (hC : Th2 C) [Py α] [Py β] [PyR γ] {m : Wm α} {m' : Wm β} {f : α → β → Wm γ} (ha : Ew ta σ H m) (hb : Ew tb σ H m') (k : ∀ a b v w H', Gr H H' → Py.rep a v H' → Py.rep b w H' → EwF (C (tC v) (tC w)) σ H' (f a b)) : EwF (C ta tb) σ H (Wm.bind m fun a => Wm.bind m' fun b => f a b) := fun P p H1 g Q q =>
  hC _ _ _ _ _ (ha _ p H1 g _ fun a v H2 pa g2 r => hb _ pa H2 (g.trans g2) _ fun b w H3 pb g3 r' => k a b v w H3 ((g.trans g2).trans g3) (Py.mono g3 r) r' P pb H3 (Gr.refl _) Q fun d v H4 pd g4 r => q d v H4 pd ((g2.trans g3).trans g4) (PyR.frpre (fun a => (g2.trans g3).back) r))
theorem ewF_l3 {C : TE → TE → TE → TE} (hC : Th3 C) [Py α] [Py β] [Py γ] [PyR δ] {m : Wm α} {m' : Wm β} {m2 : Wm γ} {f : α → β → γ → Wm δ} (ha : Ew ta σ H m) (hb : Ew tb σ H m') (hc : Ew tc σ H m2)
    (k : ∀ a b c v w z H', Gr H H' → Py.rep a v H' → Py.rep b w H' → Py.rep c z H' → EwF (C (tC v) (tC w) (tC z)) σ H' (f a b c)) : EwF (C ta tb tc) σ H (Wm.bind m fun a => Wm.bind m' fun b => Wm.bind m2 fun c => f a b c) := fun P p H1 g Q q =>
  hC _ _ _ _ _ _ (ha _ p H1 g _ fun a v H2 pa g2 r => hb _ pa H2 (g.trans g2) _ fun b w H3 pb g3 r' => hc _ pb H3 ((g.trans g2).trans g3) _ fun c z H4 pc g4 r'' => k a b c v w z H4 (((g.trans g2).trans g3).trans g4) (Py.mono (g3.trans g4) r) (Py.mono g4 r') r'' P pc H4 (Gr.refl _) Q fun d v H5 pd g5 r => q d v H5 pd (((g2.trans g3).trans g4).trans g5) (PyR.frpre (fun a => ((g2.trans g3).trans g4).back) r))
theorem th1_un {r : V → Hp → VK → Prop} : Th1 (tUn r) := fun _ _ _ _ h => h
theorem th1_cb {r : List V → Hp → VK → Prop} : Th1 (fun t => tCB r (tCons t tNil)) := fun _ _ _ _ h => h
theorem th1_cb1 {r : List V → Hp → VK → Prop} {x : V} : Th1 (fun t => tCB r (tCons t (tCons (tC x) tNil))) := fun _ _ _ _ h => h
theorem th1_fld {f : Str} : Th1 (fun t => tFld K t f) := fun _ _ _ _ h => h
theorem th1_not : Th1 tNotV := fun _ _ _ _ h => h
theorem th2_op {r : R2} : Th2 (tOp r) := fun _ _ _ _ _ h => h
theorem th2_cb {r : List V → Hp → VK → Prop} : Th2 (fun t u => tCB r (tCons t (tCons u tNil))) := fun _ _ _ _ _ h => h
theorem th1_call {sp : Sp} {vs : List V} : Th1 (fun t => tCall sp vs E (tCons t tNil)) := fun _ _ _ _ h => h
theorem th2_call {sp : Sp} {vs : List V} : Th2 (fun t u => tCall sp vs E (tCons t (tCons u tNil))) := fun _ _ _ _ _ h => h
theorem th3_call {sp : Sp} {vs : List V} : Th3 (fun t u w => tCall sp vs E (tCons t (tCons u (tCons w tNil)))) := fun _ _ _ _ _ _ h => h
theorem th4_call {sp : Sp} {vs : List V} : Th4 (fun t u w z => tCall sp vs E (tCons t (tCons u (tCons w (tCons z tNil))))) := fun _ _ _ _ _ _ _ h => h
theorem th1_tup : Th1 (fun t => tTup (tCons t tNil)) := fun _ _ _ _ h => h
theorem th2_tup : Th2 (fun t u => tTup (tCons t (tCons u tNil))) := fun _ _ _ _ _ h => h
theorem th3_tup : Th3 (fun t u w => tTup (tCons t (tCons u (tCons w tNil)))) := fun _ _ _ _ _ _ h => h
theorem th1_lst : Th1 (fun t => tLst (tCons t tNil)) := fun _ _ _ _ h => h
theorem th2_lst : Th2 (fun t u => tLst (tCons t (tCons u tNil))) := fun _ _ _ _ _ h => h
theorem th3_lst : Th3 (fun t u w => tLst (tCons t (tCons u (tCons w tNil)))) := fun _ _ _ _ _ _ h => h
theorem th1_sl {r : V → Option Int → Option Int → Hp → VK → Prop} {to tp : TO} : Th1 (fun t => tSl r t to tp) := fun _ _ _ _ h => h
theorem th2_dget : Th2 tDGet := fun _ _ _ _ _ h => h
theorem th1_fst : Th1 (fun t => tOp (rIxT K) t (tC (.int 0))) := fun _ _ _ _ h => h
theorem th1_snd : Th1 (fun t => tOp (rIxT K) t (tC (.int 1))) := fun _ _ _ _ h => h
theorem th2_make {C : Addr} {sp : Sp} {vs : List V} : Th2 (fun t u => tMake C sp vs E (tCons t (tCons u tNil))) := fun _ _ _ _ _ h => h
theorem th1_id : Th1 (fun t => t) := fun _ _ _ _ h => h
theorem th2_din : Th2 tDIn := fun _ _ _ _ _ h => h
theorem th2_dnotin : Th2 tDNotIn := fun _ _ _ _ _ h => h
theorem ew_c [Py α] {a : α} {v : V} (r : Py.rep a v H) : Ew (tC v) σ H (Wm.ret a) := ew_ret (ev_c r)
theorem rep_of [Py α] {a : α} {v : V} (h : Py.rep a v H) (g : Gr H H') : Py.rep a v H' := Py.mono g h

/-! ### tests -/
theorem ewt_test {m : Wm Bool} (h : Ew te σ H m) : EwT (tTest te) σ H m := fun P p => edt_test (h P p)
theorem ewt_B {m : Wm Bool} (h : Ew te σ H m) : EwT (tB te) σ H m := fun P p => edt_B (h P p)
theorem ewt_not {m : Wm Bool} (h : EwT t σ H m) : EwT (tNot t) σ H (Wm.bind m fun b => Wm.ret (!b)) := fun P p H1 g Q q => h _ p H1 g _ fun b H2 pb g2 => q (!b) H2 pb g2
theorem ewt_and {m m' : Wm Bool} (h : EwT t σ H m) (h' : EwT u σ H m') : EwT (tAnd t u) σ H (Wm.bind m fun b => cond b m' (Wm.ret false)) := fun P p H1 g Q q => h _ p H1 g _ fun b H2 pb g2 => by
  cases b with
  | true => exact h' P pb H2 (g.trans g2) Q fun b H3 pb g3 => q b H3 pb (g2.trans g3)
  | false => exact q false H2 pb g2
theorem ewt_or {m m' : Wm Bool} (h : EwT t σ H m) (h' : EwT u σ H m') : EwT (tOr t u) σ H (Wm.bind m fun b => cond b (Wm.ret true) m') := fun P p H1 g Q q => h _ p H1 g _ fun b H2 pb g2 => by
  cases b with
  | true => exact q true H2 pb g2
  | false => exact h' P pb H2 (g.trans g2) Q fun b H3 pb g3 => q b H3 pb (g2.trans g3)
theorem ew_andV {m m' : Wm Bool} (h : Ew ta σ H m) (h' : Ew tb σ H m') : Ew (tAndV ta tb) σ H (Wm.bind m fun b => cond b m' (Wm.ret false)) := fun P p H1 g Q q => h _ p H1 g _ fun b v H2 pb g2 r => by
  refine ⟨b, r, ?_⟩
  cases b with
  | true => exact h' P pb H2 (g.trans g2) Q fun b v H3 pb g3 r => q b v H3 pb (g2.trans g3) r
  | false => exact q false _ H2 pb g2 rfl
theorem ew_orV {m m' : Wm Bool} (h : Ew ta σ H m) (h' : Ew tb σ H m') : Ew (tOrV ta tb) σ H (Wm.bind m fun b => cond b (Wm.ret true) m') := fun P p H1 g Q q => h _ p H1 g _ fun b v H2 pb g2 r => by
  refine ⟨b, r, ?_⟩
  cases b with
  | true => exact q true _ H2 pb g2 rfl
  | false => exact h' P pb H2 (g.trans g2) Q fun b v H3 pb g3 r => q b v H3 pb (g2.trans g3) r
theorem ew_notV {m : Wm Bool} (h : Ew ta σ H m) : Ew (tNotV ta) σ H (Wm.bind m fun b => Wm.ret (!b)) := ew_l1 th1_not h fun a v H' g r => ew_ret (ev_not (ev_c r))
theorem ew_if [Py α] {m : Wm Bool} {m1 m2 : Wm α} (h : EwT t σ H m) (h1 : Ew ta σ H m1) (h2 : Ew tb σ H m2) : Ew (tIf t ta tb) σ H (Wm.bind m fun b => cond b m1 m2) := fun P p H1 g Q q => h _ p H1 g _ fun b H2 pb g2 => by
  cases b with
  | true => exact h1 P pb H2 (g.trans g2) Q fun d v H3 pd g3 r => q d v H3 pd (g2.trans g3) r
  | false => exact h2 P pb H2 (g.trans g2) Q fun d v H3 pd g3 r => q d v H3 pd (g2.trans g3) r
theorem ewF_if [PyR α] {m : Wm Bool} {m1 m2 : Wm α} (h : EwT t σ H m) (h1 : EwF ta σ H m1) (h2 : EwF tb σ H m2) : EwF (tIf t ta tb) σ H (Wm.bind m fun b => cond b m1 m2) := fun P p H1 g Q q => h _ p H1 g _ fun b H2 pb g2 => by
  cases b with
  | true => exact h1 P pb H2 (g.trans g2) Q fun d v H3 pd g3 r => q d v H3 pd (g2.trans g3) (PyR.frpre (fun a => g2.back) r)
  | false => exact h2 P pb H2 (g.trans g2) Q fun d v H3 pd g3 r => q d v H3 pd (g2.trans g3) (PyR.frpre (fun a => g2.back) r)

theorem ew_chain {r r' : R2} {m1 m2 m3 : Wm Int} {g g' : Int → Int → Bool} (ha : Ew ta σ H m1) (hb : Ew tb σ H m2) (hc : Ew tc σ H m3) (h1 : ∀ {i j : Int}, RO r i j (· = g i j)) (h2 : ∀ {i j : Int}, RO r' i j (· = g' i j)) :
    Ew (tChain r r' ta tb tc) σ H (Wm.bind m1 fun a => Wm.bind m2 fun b => cond (g a b) (Wm.bind m3 fun c => Wm.ret (g' b c)) (Wm.ret false)) := by
  intro P p H1 gg Q q
  refine ha _ p H1 gg _ fun a x H2 pa g2 rx => ?_
  refine hb _ pa H2 (gg.trans g2) _ fun b y H3 pb g3 ry => ?_
  refine h1 x y H3 (Py.mono g3 rx) ry _ fun d z H4 ek g4 rz => ?_
  subst ek
  refine ⟨_, rz, ?_⟩
  have pb : (cond (g a b) (Wm.bind m3 fun c => Wm.ret (g' b c)) (Wm.ret false) : Wm Bool) P := pb
  cases hk : g a b with
  | true =>
    rw [hk] at pb
    refine hc _ pb H4 (((gg.trans g2).trans g3).trans g4) _ fun c w H5 pc g5 rw' => ?_
    refine h2 y w H5 (Py.mono (g4.trans g5) ry) rw' Q fun d2 z2 H6 e6 g6 r6 => ?_
    subst e6
    exact q _ z2 H6 pc ((((g2.trans g3).trans g4).trans g5).trans g6) r6
  | false =>
    rw [hk] at pb rz
    exact q _ _ H4 pb ((g2.trans g3).trans g4) rfl

/-! ### calls -/
def SpW0 {γ : Type} [PyR γ] (M : Wm γ) : Sp := fun vs H Q _ => Neat H ∧ vs = [] ∧ ∃ P, M P ∧ ∀ d w H', P d → Gr H H' → PyR.fr H d w H' → Q w H'
def SpW1 {α γ : Type} [Py α] [PyR γ] (M : α → Wm γ) : Sp := fun vs H Q _ => Neat H ∧ ∃ v a, vs = [v] ∧ Py.rep a v H ∧ ∃ P, M a P ∧ ∀ d w H', P d → Gr H H' → PyR.fr H d w H' → Q w H'
def SpW2 {α β γ : Type} [Py α] [Py β] [PyR γ] (M : α → β → Wm γ) : Sp := fun vs H Q _ => Neat H ∧ ∃ v v' a b, vs = [v, v'] ∧ Py.rep a v H ∧ Py.rep b v' H ∧ ∃ P, M a b P ∧ ∀ d w H', P d → Gr H H' → PyR.fr H d w H' → Q w H'
def SpW3 {α β δ γ : Type} [Py α] [Py β] [Py δ] [PyR γ] (M : α → β → δ → Wm γ) : Sp := fun vs H Q _ => Neat H ∧ ∃ v v' v'' a b c, vs = [v, v', v''] ∧ Py.rep a v H ∧ Py.rep b v' H ∧ Py.rep c v'' H ∧ ∃ P, M a b c P ∧ ∀ d w H', P d → Gr H H' → PyR.fr H d w H' → Q w H'
def SpW4 {α β δ δ' γ : Type} [Py α] [Py β] [Py δ] [Py δ'] [PyR γ] (M : α → β → δ → δ' → Wm γ) : Sp := fun vs H Q _ => Neat H ∧ ∃ v v' v'' v3 a b c d0, vs = [v, v', v'', v3] ∧ Py.rep a v H ∧ Py.rep b v' H ∧ Py.rep c v'' H ∧ Py.rep d0 v3 H ∧ ∃ P, M a b c d0 P ∧ ∀ d w H', P d → Gr H H' → PyR.fr H d w H' → Q w H'
def SpW5 {α β δ δ' δ'' γ : Type} [Py α] [Py β] [Py δ] [Py δ'] [Py δ''] [PyR γ] (M : α → β → δ → δ' → δ'' → Wm γ) : Sp := fun vs H Q _ => Neat H ∧ ∃ v v' v'' v3 v4 a b c d0 d1, vs = [v, v', v'', v3, v4] ∧ Py.rep a v H ∧ Py.rep b v' H ∧ Py.rep c v'' H ∧ Py.rep d0 v3 H ∧ Py.rep d1 v4 H ∧ ∃ P, M a b c d0 d1 P ∧ ∀ d w H', P d → Gr H H' → PyR.fr H d w H' → Q w H'
theorem SpW5.len {δ' δ'' : Type} [Py α] [Py β] [Py δ] [Py δ'] [Py δ''] [PyR γ] {M : α → β → δ → δ' → δ'' → Wm γ} {vs : List V} {Q : VK} (h : SpW5 M vs H Q E) : vs.length = 5 := by obtain ⟨_, _, _, _, _, _, _, _, _, _, _, rfl, _⟩ := h; rfl
theorem SpW0.len [PyR γ] {M : Wm γ} {vs : List V} {Q : VK} (h : SpW0 M vs H Q E) : vs.length = 0 := by obtain ⟨_, rfl, _⟩ := h; rfl
theorem SpW1.len [Py α] [PyR γ] {M : α → Wm γ} {vs : List V} {Q : VK} (h : SpW1 M vs H Q E) : vs.length = 1 := by obtain ⟨_, _, _, rfl, _⟩ := h; rfl
theorem SpW2.len [Py α] [Py β] [PyR γ] {M : α → β → Wm γ} {vs : List V} {Q : VK} (h : SpW2 M vs H Q E) : vs.length = 2 := by obtain ⟨_, _, _, _, _, rfl, _⟩ := h; rfl
theorem SpW3.len [Py α] [Py β] [Py δ] [PyR γ] {M : α → β → δ → Wm γ} {vs : List V} {Q : VK} (h : SpW3 M vs H Q E) : vs.length = 3 := by obtain ⟨_, _, _, _, _, _, _, rfl, _⟩ := h; rfl
theorem SpW4.len {δ' : Type} [Py α] [Py β] [Py δ] [Py δ'] [PyR γ] {M : α → β → δ → δ' → Wm γ} {vs : List V} {Q : VK} (h : SpW4 M vs H Q E) : vs.length = 4 := by obtain ⟨_, _, _, _, _, _, _, _, _, rfl, _⟩ := h; rfl
theorem ew_call0 [PyR γ] {M : Wm γ} (n : Neat H) : EwF (tCall (SpW0 M) [] E tNil) σ H M := fun P p H1 g Q q => ⟨g.neat n, rfl, P, p, q⟩
theorem ew_call1 [Py α] [PyR γ] {M : α → Wm γ} {a : α} (n : Neat H) (h : Ev ta σ H a) : EwF (tCall (SpW1 M) [] E (tCons ta tNil)) σ H (M a) := fun P p H1 g Q q =>
  h H1 g _ fun d v H2 e g2 r => by subst e; exact ⟨(g.trans g2).neat n, v, d, rfl, r, P, p, fun x w H3 px g3 r3 => q x w H3 px (g2.trans g3) (PyR.frpre (fun a => g2.back) r3)⟩
theorem ew_call2 [Py α] [Py β] [PyR γ] {M : α → β → Wm γ} {a : α} {b : β} (n : Neat H) (h : Ev ta σ H a) (h' : Ev tb σ H b) : EwF (tCall (SpW2 M) [] E (tCons ta (tCons tb tNil))) σ H (M a b) := fun P p H1 g Q q =>
  h H1 g _ fun d v H2 e g2 r => h' H2 (g.trans g2) _ fun d' v' H3 e' g3 r' => by subst e e'; exact ⟨((g.trans g2).trans g3).neat n, v, v', d, d', rfl, Py.mono g3 r, r', P, p, fun x w H4 px g4 r4 => q x w H4 px ((g2.trans g3).trans g4) (PyR.frpre (fun a => (g2.trans g3).back) r4)⟩
theorem ew_call3 [Py α] [Py β] [Py δ] [PyR γ] {M : α → β → δ → Wm γ} {a : α} {b : β} {c : δ} (n : Neat H) (h : Ev ta σ H a) (h' : Ev tb σ H b) (h'' : Ev tc σ H c) : EwF (tCall (SpW3 M) [] E (tCons ta (tCons tb (tCons tc tNil)))) σ H (M a b c) := fun P p H1 g Q q =>
  h H1 g _ fun d v H2 e g2 r => h' H2 (g.trans g2) _ fun d' v' H3 e' g3 r' => h'' H3 ((g.trans g2).trans g3) _ fun d2 v2 H4 e2 g4 r2 => by
    subst e e' e2
    exact ⟨(((g.trans g2).trans g3).trans g4).neat n, v, v', v2, d, d', d2, rfl, Py.mono (g3.trans g4) r, Py.mono g4 r', r2, P, p, fun x w H5 px g5 r5 => q x w H5 px (((g2.trans g3).trans g4).trans g5) (PyR.frpre (fun a => ((g2.trans g3).trans g4).back) r5)⟩
theorem ew_call4 {δ' : Type} [Py α] [Py β] [Py δ] [Py δ'] [PyR γ] {M : α → β → δ → δ' → Wm γ} {a : α} {b : β} {c : δ} {z : δ'} (n : Neat H) (h : Ev ta σ H a) (h' : Ev tb σ H b) (h'' : Ev tc σ H c) (h3 : Ev td σ H z) : EwF (tCall (SpW4 M) [] E (tCons ta (tCons tb (tCons tc (tCons td tNil))))) σ H (M a b c z) := fun P p H1 g Q q =>
  h H1 g _ fun d v H2 e g2 r => h' H2 (g.trans g2) _ fun d' v' H3 e' g3 r' => h'' H3 ((g.trans g2).trans g3) _ fun d2 v2 H4 e2 g4 r2 => h3 H4 (((g.trans g2).trans g3).trans g4) _ fun d3 v3 H5 e3 g5 r3 => by
    subst e e' e2 e3
    exact ⟨((((g.trans g2).trans g3).trans g4).trans g5).neat n, v, v', v2, v3, d, d', d2, d3, rfl, Py.mono ((g3.trans g4).trans g5) r, Py.mono (g4.trans g5) r', Py.mono g5 r2, r3, P, p, fun x w H6 px g6 r6 => q x w H6 px ((((g2.trans g3).trans g4).trans g5).trans g6) (PyR.frpre (fun a => (((g2.trans g3).trans g4).trans g5).back) r6)⟩
theorem ew_call5 {δ' δ'' : Type} {tf : TE} [Py α] [Py β] [Py δ] [Py δ'] [Py δ''] [PyR γ] {M : α → β → δ → δ' → δ'' → Wm γ} {a : α} {b : β} {c : δ} {z : δ'} {y : δ''} (n : Neat H) (h : Ev ta σ H a) (h' : Ev tb σ H b) (h'' : Ev tc σ H c) (h3 : Ev td σ H z) (h4 : Ev tf σ H y) : EwF (tCall (SpW5 M) [] E (tCons ta (tCons tb (tCons tc (tCons td (tCons tf tNil)))))) σ H (M a b c z y) := fun P p H1 g Q q =>
  h H1 g _ fun d v H2 e g2 r => h' H2 (g.trans g2) _ fun d' v' H3 e' g3 r' => h'' H3 ((g.trans g2).trans g3) _ fun d2 v2 H4 e2 g4 r2 => h3 H4 (((g.trans g2).trans g3).trans g4) _ fun d3 v3 H5 e3 g5 r3 => h4 H5 ((((g.trans g2).trans g3).trans g4).trans g5) _ fun d4 v4 H6 e4 g6 r4 => by
    subst e e' e2 e3 e4
    exact ⟨(((((g.trans g2).trans g3).trans g4).trans g5).trans g6).neat n, v, v', v2, v3, v4, d, d', d2, d3, d4, rfl, Py.mono (((g3.trans g4).trans g5).trans g6) r, Py.mono ((g4.trans g5).trans g6) r', Py.mono (g5.trans g6) r2, Py.mono g6 r3, r4, P, p, fun x w H7 px g7 r7 => q x w H7 px (((((g2.trans g3).trans g4).trans g5).trans g6).trans g7) (PyR.frpre (fun a => ((((g2.trans g3).trans g4).trans g5).trans g6).back) r7)⟩
end
end Zw
/-! Y3: what is walked; comprehensions; built-ins. -/
namespace Zw
open PySem L2 RZ PySem.Spec PyProof.Rows SrtO
theorem wipe_get (σ : L2.St) (i : Nat) : ∀ vs : List Nat, (wipe σ vs)[i]? = if i ∈ vs ∧ i < σ.length then some none else σ[i]?
  | [] => by simp [wipe]
  | v :: vs => by
    have ih := wipe_get σ i vs
    unfold wipe
    rw [List.getElem?_set, wipe_length]
    by_cases h : v = i
    · subst h
      rw [if_pos rfl]
      by_cases hl : v < σ.length
      · rw [if_pos hl, if_pos ⟨List.mem_cons_self, hl⟩]
      · rw [if_neg hl, if_neg (fun z => hl z.2), List.getElem?_eq_none (by omega)]
    · rw [if_neg h, ih]
      have : i ∈ v :: vs ↔ i ∈ vs := by simp [Ne.symm h]
      simp [this]
theorem wipe_set {σ : L2.St} {vs : List Nat} {j : Nat} (hj : j ∈ vs) (x : Option V) : wipe ((wipe σ vs).set j x) vs = wipe σ vs := by
  refine List.ext_getElem? fun i => ?_
  rw [wipe_get, wipe_get, List.length_set, wipe_length, List.getElem?_set, wipe_length, wipe_get]
  by_cases h : i ∈ vs ∧ i < σ.length
  · rw [if_pos h, if_pos h]
  · rw [if_neg h, if_neg h]
    by_cases e : j = i
    · subst e
      rw [if_pos rfl, if_neg (fun z => h ⟨hj, z⟩), List.getElem?_eq_none (Nat.le_of_not_lt fun z => h ⟨hj, z⟩)]
    · rw [if_neg e]
theorem wipe_set2 {σ : L2.St} {vs : List Nat} {i j : Nat} (hi : i ∈ vs) (hj : j ∈ vs) (x y : Option V) : wipe (((wipe σ vs).set i x).set j y) vs = wipe σ vs := by
  have e : ((wipe σ vs).set i x).set j y = (wipe ((wipe σ vs).set i x) vs).set j y ∨ True := .inr trivial
  refine List.ext_getElem? fun k => ?_
  rw [wipe_get, wipe_get, List.length_set, List.length_set, wipe_length, List.getElem?_set, List.length_set, wipe_length, List.getElem?_set, wipe_length, wipe_get]
  by_cases h : k ∈ vs ∧ k < σ.length
  · rw [if_pos h, if_pos h]
  · rw [if_neg h, if_neg h]
    by_cases e : j = k
    · subst e
      rw [if_pos rfl, if_neg (fun z => h ⟨hj, z⟩), List.getElem?_eq_none (Nat.le_of_not_lt fun z => h ⟨hj, z⟩)]
    · rw [if_neg e]
      by_cases e : i = k
      · subst e
        rw [if_pos rfl, if_neg (fun z => h ⟨hi, z⟩), List.getElem?_eq_none (Nat.le_of_not_lt fun z => h ⟨hi, z⟩)]
      · rw [if_neg e]
theorem wipeE_length (e : EnvT) : ∀ vs, (wipeE e vs).length = e.length
  | [] => rfl
  | v :: vs => by unfold wipeE; rw [List.length_set, wipeE_length e vs]

/-! ### what is walked -/
def SrcW {α : Type} [Py α] (wi : TI) (σ : L2.St) (H : Hp) (m : Wm (List α)) : Prop := ∀ P, m P → ∀ H1, Gr H H1 → ∀ R : It → Hp → Prop,
  (∀ ds J H2 (S : Hp → Prop), P ds → Gr H1 H2 → S H2 → (∀ T, (∀ a, T a → H1 a ≠ none) → ∀ H3 H4, Mx T H3 H4 → S H3 → S H4) → Wk J ds S → R J H2) → wi σ H1 R
/-- while the heap grows only -/
def SrcC {α : Type} [Py α] (wi : TI) (σ : L2.St) (H : Hp) (m : Wm (List α)) : Prop := ∀ P, m P → ∀ H1, Gr H H1 → ∀ R : It → Hp → Prop, (∀ ds J H2, P ds → Gr H1 H2 → Wk J ds (Gr H2) → R J H2) → wi σ H1 R
section
variable {K : PySem.W.Frag} {H0 H H1 H' : Hp} {F : Hp → Prop} {e : EnvT} {σ : L2.St} {ta tb tc td te tl : TE} {t u tt : TT} {α β γ δ : Type} {E : XK}
theorem SrcW.c [Py α] {wi : TI} {m : Wm (List α)} (h : SrcW wi σ H m) : SrcC wi σ H m := fun P p H1 g R q => h P p H1 g R fun ds J H2 S pd g2 s rb w => q ds J H2 pd g2 (w.imp fun H3 g3 => rb (fun _ => False) (fun _ z => z.elim) H2 H3 (Mx.of_gr (fun _ z => z.elim) g3) s)
theorem srcC_ret [Py α] {wi : TI} {ds : List α} (h : Src wi σ H ds) : SrcC wi σ H (Wm.ret ds) := fun P p H1 g R q => h H1 g R fun J H2 g2 w => q ds J H2 p g2 w
theorem srcW_ret [Py α] {wi : TI} {ds : List α} (h : SrcT wi σ H ds) : SrcW wi σ H (Wm.ret ds) := fun P p H1 g R q => h H1 g R fun J H2 g2 w => q ds J H2 (TupK H2) p g2 (TupK.refl _) (fun T _ H3 H4 m k => k.trans m.tup) w
theorem wk_tup [PyI α] {p : Addr} {ds : List α} {xs : List V} {H2 : Hp} (hp : H2 p = some (.tup xs)) (rl : RL (fun a x => PyI.rep a x H2) ds xs) : Wk (α := α) (Itl K p) ds (TupK H2) ∨ True := .inr trivial
theorem srcW_tup [PyI α] {m : Wm (List α)} (h : Ew tl σ H m) : SrcW (iTup K tl) σ H m := fun P p H1 g R q => h P p H1 g _ fun d v H2 pd g2 r => by
  refine src_tup (K := K) (tl := tC v) (σ := σ) (H := H2) (ds := d) (ev_c r) H2 (Gr.refl _) R fun J H3 g3 w => q d J H3 (TupK H3) pd (g2.trans g3) (TupK.refl _) (fun T _ _ _ m k => k.trans m.tup) w
theorem wk_fr [PyR α] {H1 H2 : Hp} {d : Ls α} {v : V} (r : PyR.fr H1 d v H2) : ∃ a xs, v = .ref a ∧ SqL K H2 a xs ∧ Wk (Itl K a) d.l (fun H3 => PyR.fr H1 d v H3) ∨ True := ⟨0, [], .inr trivial⟩
theorem srcW_lst [PyR α] {m : Wm (Ls α)} (h : EwF tl σ H m) : SrcW (iList K tl) σ H (Wm.bind m fun l => Wm.ret l.l) := fun P p H1 g R q => h _ p H1 g _ fun d v H2 pd g2 r => by
  have r0 := r
  obtain ⟨a, xs, ev, hn, ha, no, rl⟩ := r
  refine ⟨a, ev, ⟨xs, .of ha⟩, q d.l _ H2 (fun H3 => PyR.fr H1 d v H3) pd g2 r0 (fun T hT H3 H4 m k => PyR.frob k hT m) ⟨fun H3 k => ?_, fun H3 k i d' hd => ?_⟩⟩
  · obtain ⟨a', xs', ev', hn', ha', no', rl'⟩ := k
    rw [ev] at ev'; cases ev'
    exact ⟨xs', .of ha', by rw [rl'.1]; exact Nat.le_refl _⟩
  · obtain ⟨a', xs', ev', hn', ha', no', rl'⟩ := k
    rw [ev] at ev'; cases ev'
    obtain ⟨x, hx, rx⟩ := rl'.get hd
    refine ⟨⟨xs', x, .of ha', hx⟩, fun y H4 hy => ?_⟩
    obtain ⟨e4, hy⟩ := hy
    subst e4
    have e5 := hy xs' (.of ha')
    rw [hx] at e5
    cases e5
    exact ⟨Gr.refl _, PyR.frep rx⟩
theorem srcW_rng1 {m : Wm Int} (h : Ew te σ H m) : SrcW (iRng1 (tCons te tNil)) σ H (Wm.bind m fun n => Wm.grd (-100000 ≤ n ∧ n ≤ 100000) (rngI 0 n.toNat)) := fun P p H1 g R q => h _ p H1 g _ fun d v H2 pd g2 r => by
  have ev : v = .int d := r
  subst ev
  obtain ⟨hn, pd⟩ := pd
  exact ⟨d, rfl, by omega, by omega, q _ _ H2 (fun _ => True) pd g2 trivial (fun _ _ _ _ _ _ => trivial) wk_rng⟩
theorem srcW_rng2 {m m' : Wm Int} (h0 : Ew ta σ H m) (h : Ew te σ H m') : SrcW (iRng2 (tCons ta (tCons te tNil))) σ H (Wm.bind m fun lo => Wm.bind m' fun n => Wm.grd (-100000 ≤ lo ∧ lo ≤ 100000 ∧ -100000 ≤ n ∧ n ≤ 100000) (rngI lo (n - lo).toNat)) := fun P p H1 g R q => h0 _ p H1 g _ fun d v H2 pd g2 r => h _ pd H2 (g.trans g2) _ fun d' v' H3 pd g3 r' => by
  have ev : v = .int d := r
  have ev' : v' = .int d' := r'
  subst ev ev'
  obtain ⟨hn, pd⟩ := pd
  exact ⟨d, d', rfl, ⟨by omega, by omega, by omega, by omega⟩, q _ _ H3 (fun _ => True) pd (g2.trans g3) trivial (fun _ _ _ _ _ _ => trivial) wk_rng⟩
theorem srcW_enumT [PyI α] {m : Wm (List α)} (h : Ew ta σ H m) : SrcW (iEnumT K (tCons ta tNil)) σ H (Wm.bind m fun l => Wm.ret (numL l)) := fun P p H1 g R q => h _ p H1 g _ fun d v H2 pd g2 r =>
  src_enumT (K := K) (ta := tC v) (σ := σ) (H := H2) (ds := d) (ev_c r) H2 (Gr.refl _) R fun J H3 g3 w => q _ J H3 (TupK H3) pd (g2.trans g3) (TupK.refl _) (fun T _ _ _ m k => k.trans m.tup) w
theorem srcW_zipT [PyI α] [PyI β] {m : Wm (List α)} {m' : Wm (List β)} (h : Ew ta σ H m) (h' : Ew tb σ H m') : SrcW (iZipA K (tCons ta (tCons tb tNil))) σ H (Wm.bind m fun x => Wm.bind m' fun y => Wm.ret (x.zip y)) := fun P p H1 g R q => h _ p H1 g _ fun d v H2 pd g2 r => h' _ pd H2 (g.trans g2) _ fun d' v' H3 pd g3 r' =>
  src_zipT (K := K) (ta := tC v) (tb := tC v') (σ := σ) (H := H3) (ds := d) (es := d') (ev_c (Py.mono g3 r)) (ev_c r') H3 (Gr.refl _) R fun J H4 g4 w => q _ J H4 (TupK H4) pd ((g2.trans g3).trans g4) (TupK.refl _) (fun T _ _ _ m k => k.trans m.tup) w
theorem srcW_str {m : Wm Str} (h : Ew te σ H m) : SrcW (iStr te) σ H (Wm.bind m fun s => Wm.ret (signsL s)) := fun P p H1 g R q => h _ p H1 g _ fun d v H2 pd g2 r =>
  src_str (te := tC v) (σ := σ) (H := H2) (x := d) (ev_c r) H2 (Gr.refl _) R fun J H3 g3 w => q _ J H3 (TupK H3) pd (g2.trans g3) (TupK.refl _) (fun T _ _ _ m k => k.trans m.tup) w
/-- a list, whatever it is: for comprehensions -/
theorem srcC_lst [Py α] {m : Wm (Ls α)} (h : Ew tl σ H m) : SrcC (iList K tl) σ H (Wm.bind m fun l => Wm.ret l.l) := fun P p H1 g R q => h _ p H1 g _ fun d v H2 pd g2 r =>
  src_lstG (K := K) (tl := tC v) (σ := σ) (H := H2) (ds := d.l) (ev_c r) H2 (Gr.refl _) R fun J H3 g3 w => q _ J H3 pd (g2.trans g3) w
theorem srcC_enumL [PyI α] {m : Wm (Ls α)} (h : Ew ta σ H m) : SrcC (iEnum K (tCons ta tNil)) σ H (Wm.bind m fun l => Wm.ret (numL l.l)) := fun P p H1 g R q => h _ p H1 g _ fun d v H2 pd g2 r =>
  (src_enumL (K := K) (ta := tC v) (σ := σ) (H := H2) (ds := d.l) (ev_c r)).src H2 (Gr.refl _) R fun J H3 g3 w => q _ J H3 pd (g2.trans g3) w
theorem srcC_zipL [PyI α] [PyI β] {m : Wm (Ls α)} {m' : Wm (Ls β)} (h : Ew ta σ H m) (h' : Ew tb σ H m') : SrcC (iZipA K (tCons ta (tCons tb tNil))) σ H (Wm.bind m fun x => Wm.bind m' fun y => Wm.ret (x.l.zip y.l)) := fun P p H1 g R q => h _ p H1 g _ fun d v H2 pd g2 r => h' _ pd H2 (g.trans g2) _ fun d' v' H3 pd g3 r' =>
  src_zipL (K := K) (ta := tC v) (tb := tC v') (σ := σ) (H := H3) (ds := d.l) (es := d'.l) (ev_c (Py.mono g3 r)) (ev_c r') H3 (Gr.refl _) R fun J H4 g4 w => q _ J H4 pd ((g2.trans g3).trans g4) w

/-! ### comprehensions -/
def lcA {α β : Type} (t : α → Wm Bool) (v : α → Wm β) : List α → List β → Wm (List β)
  | [], acc => Wm.ret acc
  | d :: ds, acc => Wm.bind (t d) fun b => cond b (Wm.bind (v d) fun x => lcA t v ds (acc ++ [x])) (lcA t v ds acc)
def lcW {α β : Type} (t : α → Wm Bool) (v : α → Wm β) (ds : List α) : Wm (Ls β) := fun P => ds.length ≤ 100000 ∧ lcA t v ds [] fun l => P (Ls.mk l)
theorem ewF_lc [Py α] [PyR β] {wi : TI} {g : TG} {vs : List Nat} {ms : Wm (List α)} {t : α → Wm Bool} {v : α → Wm β} (S : α → L2.St → Hp → Prop) (n : Neat H) (hs : SrcC wi σ H ms)
    (hg : ∀ d x H', Gr H H' → Py.rep d x H' → ∀ Q : L2.St → Hp → Prop, (∀ σ2, wipe σ2 vs = wipe σ vs → S d σ2 H' → Q σ2 H') → g x (wipe σ vs) H' Q)
    (ht : ∀ d σ2 H', S d σ2 H' → EwT tt σ2 H' (t d)) (he : ∀ d σ2 H', S d σ2 H' → EwF te σ2 H' (v d)) :
    EwF (tLc wi g tt te vs) σ H (Wm.bind ms fun ds => lcW t v ds) := by
  intro P p H1 g1 Q q
  refine hs _ p H1 g1 _ fun ds J H2 pd g2 w D hD => ?_
  obtain ⟨hz, pd⟩ := pd
  have gD : Gr H2 (upd H2 D (.lst [])) := Gr.new hD
  have n2 : Neat H2 := (g1.trans g2).neat n
  have noD : ¬ Owned (upd H2 D (.lst [])) D := fun ⟨q, C, dx, r, t, e⟩ => n2.noOwn hD ⟨q, C, dx, r, t, by
    rw [upd_ne (fun z => by rw [z, upd_same] at e; cases e)] at e; exact e⟩
  have hDn : (upd H2 D (.lst [])) D ≠ none := by rw [upd_same]; exact fun z => nomatch z
  refine ⟨fun i m H' => m = ds.length - i ∧ i ≤ ds.length ∧ Gr H2 H' ∧ ∃ l xs, l.length ≤ i ∧ lcA t v (ds.drop i) l (fun l => P (Ls.mk l)) ∧ H' D = some (.lst xs) ∧ ¬ Owned H' D ∧ RL (fun a x => PyR.fr (upd H2 D (.lst [])) a x H') l xs, ⟨ds.length, by simp, Nat.zero_le _, gD, [], [], Nat.zero_le _, by simpa using pd, upd_same, noD, RL.nil⟩, ?_⟩
  rintro i m H3 ⟨rfl, hi, g3, l, xs, hl, pk, hx, no, rx⟩
  by_cases hlt : i < ds.length
  · have hd : ds[i]? = some ds[i] := by simp [hlt]
    obtain ⟨hgo, hy⟩ := w.go H3 g3 i _ hd
    have hdr : ds.drop i = ds[i] :: ds.drop (i + 1) := List.drop_eq_getElem_cons hlt
    rw [hdr] at pk
    refine .inr ⟨hgo, fun H' => i + 1 ≤ ds.length ∧ Gr H2 H' ∧ ∃ l xs, l.length ≤ i + 1 ∧ lcA t v (ds.drop (i + 1)) l (fun l => P (Ls.mk l)) ∧ H' D = some (.lst xs) ∧ ¬ Owned H' D ∧ RL (fun a x => PyR.fr (upd H2 D (.lst [])) a x H') l xs, fun H' h => ⟨ds.length - (i + 1), by omega, rfl, h.1, h.2⟩, fun x H4 hyl => ?_⟩
    obtain ⟨g4, r4⟩ := hy x H4 hyl
    have gH4 : Gr H H4 := ((g1.trans g2).trans g3).trans g4
    refine hg _ x H4 gH4 r4 _ fun σ2 hw hS => ⟨hw, ?_⟩
    refine ht _ σ2 H4 hS _ pk H4 (Gr.refl _) _ fun b H5 pb g5 => ?_
    have back : ∀ {H' : Hp}, Gr H3 H' → ∀ a, H' a = none → (upd H2 D (.lst [])) a = none := fun {H'} g a h => by
      have h3 := g.back h
      have h2 := g3.back h3
      have : a ≠ D := fun z => by rw [z, hx] at h3; cases h3
      rw [upd_ne this]; exact h2
    cases b with
    | true =>
      refine he _ σ2 H4 hS _ pb H5 g5 _ fun z y H6 pz g6 r6 => ?_
      have g36 : Gr H3 H6 := (g4.trans g5).trans g6
      have h6 := g36.lst hx
      have no6 : ¬ Owned H6 D := fun od => no (g36.owned (by rw [hx]; exact fun z => nomatch z) od)
      have mD : Mx (fun a => a = D) H6 (upd H6 D (.lst (xs ++ [y]))) := Mx.put (fun a ea o ho => by subst ea; rw [h6] at ho; cases ho; exact ⟨trivial, no6⟩) rfl h6 trivial
      have kD : ∀ a, a = D → (upd H2 D (.lst [])) a ≠ none := fun a ea => by subst ea; exact hDn
      refine ⟨xs, h6, by rw [← rx.1]; exact Nat.lt_of_le_of_lt (show l.length ≤ 100000 by omega) (by decide), hlt, (g3.trans g36).mut hD h6 (fun _ z => nomatch z), l ++ [z], xs ++ [y], by rw [List.length_append]; simp; omega, pz, upd_same, fun od => no6 (mD.owned (by rw [h6]; exact fun z => nomatch z) od), ?_⟩
      exact (rx.mono fun _ _ z => PyR.frob (PyR.frmono g36 z) kD mD).snoc (PyR.frob (PyR.frpre (back (g4.trans g5)) r6) kD mD)
    | false =>
      have g35 : Gr H3 H5 := g4.trans g5
      exact ⟨hlt, g3.trans g35, l, xs, by omega, pb, g35.lst hx, fun od => no (g35.owned (by rw [hx]; exact fun z => nomatch z) od), rx.mono fun _ _ z => PyR.frmono g35 z⟩
  · have e : i = ds.length := by omega
    subst e
    rw [List.drop_length] at pk
    refine .inl ⟨w.stop H3 g3, q (Ls.mk l) _ H3 pk (g2.trans g3) ⟨D, xs, rfl, g2.back hD, hx, no, rx.mono fun _ _ z => PyR.frpre (fun a h => ?_) z⟩⟩
    by_cases e : a = D
    · subst e; exact g2.back hD
    · rw [upd_ne e] at h; exact g2.back h
theorem ewF_lcN [PyR α] [PyR β] {wi : TI} {j : Nat} {vs : List Nat} {ms : Wm (List α)} {t : α → Wm Bool} {v : α → Wm β} (hE : EnvR e σ H) (hs : SrcC wi σ H ms) (hj : j < e.length) (hw : j ∈ vs)
    (ht : ∀ d x σ' H', EnvR ((wipeE e vs).set j (some (bG d x))) σ' H' → EwT tt σ' H' (t d)) (he : ∀ d x σ' H', EnvR ((wipeE e vs).set j (some (bG d x))) σ' H' → EwF te σ' H' (v d)) :
    EwF (tLc wi (gName j) tt te vs) σ H (Wm.bind ms fun ds => lcW t v ds) :=
  ewF_lc (fun d σ' H' => ∃ x, EnvR ((wipeE e vs).set j (some (bG d x))) σ' H') hE.ne hs (fun d x H' g r Q q => q _ (wipe_set hw _) ⟨x, ((hE.mono g).wipe vs).set (by rw [wipeE_length]; exact hj) r⟩) (fun d σ' H' ⟨x, h⟩ => ht d x σ' H' h) (fun d σ' H' ⟨x, h⟩ => he d x σ' H' h)
theorem ewF_lcP [PyI α] [PyI γ] [PyR β] {wi : TI} {i j : Nat} {vs : List Nat} {ms : Wm (List (α × γ))} {t : α → γ → Wm Bool} {v : α → γ → Wm β} (hE : EnvR e σ H) (hs : SrcC wi σ H ms) (hi : i < e.length) (hj : j < e.length) (hwi : i ∈ vs) (hwj : j ∈ vs)
    (ht : ∀ a b x y σ' H', EnvR (((wipeE e vs).set i (some (bG a x))).set j (some (bG b y))) σ' H' → EwT tt σ' H' (t a b)) (he : ∀ a b x y σ' H', EnvR (((wipeE e vs).set i (some (bG a x))).set j (some (bG b y))) σ' H' → EwF te σ' H' (v a b)) :
    EwF (tLc wi (gTup K 2 (gCons (gName i) (gCons (gName j) gNil))) tt te vs) σ H (Wm.bind ms fun ds => lcW (fun d => t d.1 d.2) (fun d => v d.1 d.2) ds) :=
  ewF_lc (fun d σ' H' => ∃ x y, EnvR (((wipeE e vs).set i (some (bG d.1 x))).set j (some (bG d.2 y))) σ' H') hE.ne hs (fun d x H' g r Q q => gTup2 r fun y z r1 r2 => q _ (wipe_set2 hwi hwj _ _) ⟨y, z, (((hE.mono g).wipe vs).set (by rw [wipeE_length]; exact hi) r1).set (by rw [List.length_set, wipeE_length]; exact hj) r2⟩) (fun d σ' H' ⟨x, y, h⟩ => ht d.1 d.2 x y σ' H' h) (fun d σ' H' ⟨x, y, h⟩ => he d.1 d.2 x y σ' H' h)
theorem ewt_yes : EwT tYes σ H (Wm.ret true) := ewt_ret et_yes

/-! ### built-ins -/
theorem ew_ixT [PyI α] {ds : List α} {i : Int} (h : Ev ta σ H ds) (hi : Ev tb σ H i) : Ew (tOp (rIxT K) ta tb) σ H (Wm.opt (L2.atI ds i)) := fun P ⟨d, ed, pd⟩ => ed_ixT h hi fun i' e => ⟨d, by rw [e]; exact ed, pd⟩
theorem ew_ixL [Py α] {ds : List α} {i : Int} (h : Ev ta σ H (Ls.mk ds)) (hi : Ev tb σ H i) : Ew (tOp (rIxL K) ta tb) σ H (Wm.opt (L2.atI ds i)) := fun P ⟨d, ed, pd⟩ => ed_ixL h hi fun i' e => ⟨d, by rw [e]; exact ed, pd⟩
def maxL : List Int → Int
  | [] => 0
  | a :: l => l.foldl max a
def minL : List Int → Int
  | [] => 0
  | a :: l => l.foldl min a
theorem foldl_max (l : List Int) : ∀ a : Int, (l.foldl max a = a ∨ l.foldl max a ∈ l) ∧ a ≤ l.foldl max a ∧ ∀ y ∈ l, y ≤ l.foldl max a := by
  induction l with
  | nil => intro a; simp
  | cons b l ih =>
    intro a
    obtain ⟨h1, h2, h3⟩ := ih (max a b)
    rw [List.foldl_cons]
    refine ⟨?_, by omega, fun y m => ?_⟩
    · rcases h1 with h | h
      · rw [h]
        by_cases hab : a ≤ b
        · rw [Int.max_eq_right hab]; exact .inr List.mem_cons_self
        · rw [Int.max_eq_left (by omega)]; exact .inl rfl
      · exact .inr (List.mem_cons_of_mem _ h)
    · rcases List.mem_cons.mp m with e | m
      · subst e; omega
      · exact h3 y m
theorem foldl_min (l : List Int) : ∀ a : Int, (l.foldl min a = a ∨ l.foldl min a ∈ l) ∧ l.foldl min a ≤ a ∧ ∀ y ∈ l, l.foldl min a ≤ y := by
  induction l with
  | nil => intro a; simp
  | cons b l ih =>
    intro a
    obtain ⟨h1, h2, h3⟩ := ih (min a b)
    rw [List.foldl_cons]
    refine ⟨?_, by omega, fun y m => ?_⟩
    · rcases h1 with h | h
      · rw [h]
        by_cases hab : a ≤ b
        · rw [Int.min_eq_left hab]; exact .inl rfl
        · rw [Int.min_eq_right (by omega)]; exact .inr List.mem_cons_self
      · exact .inr (List.mem_cons_of_mem _ h)
    · rcases List.mem_cons.mp m with e | m
      · subst e; omega
      · exact h3 y m
theorem maxL_spec {l : List Int} (h : 0 < l.length) : maxL l ∈ l ∧ ∀ y ∈ l, y ≤ maxL l := by
  cases l with
  | nil => simp at h
  | cons a l =>
    obtain ⟨h1, h2, h3⟩ := foldl_max l a
    refine ⟨?_, fun y m => ?_⟩
    · show l.foldl max a ∈ a :: l
      rcases h1 with h | h
      · rw [h]; exact List.mem_cons_self
      · exact List.mem_cons_of_mem _ h
    · rcases List.mem_cons.mp m with e | m
      · subst e; exact h2
      · exact h3 y m
theorem minL_spec {l : List Int} (h : 0 < l.length) : minL l ∈ l ∧ ∀ y ∈ l, minL l ≤ y := by
  cases l with
  | nil => simp at h
  | cons a l =>
    obtain ⟨h1, h2, h3⟩ := foldl_min l a
    refine ⟨?_, fun y m => ?_⟩
    · show l.foldl min a ∈ a :: l
      rcases h1 with h | h
      · rw [h]; exact List.mem_cons_self
      · exact List.mem_cons_of_mem _ h
    · rcases List.mem_cons.mp m with e | m
      · subst e; exact h2
      · exact h3 y m
theorem ew_maxL {l : List Int} (h : Ev te σ H (Ls.mk l)) : Ew (tCB (rMax K) (tCons te tNil)) σ H (Wm.grd (0 < l.length) (maxL l)) := fun P ⟨hl, p⟩ => (ed_maxL h hl).imp fun m hm => by rw [max_uniq hm (maxL_spec hl)]; exact p
theorem min_uniq {l : List Int} {m m' : Int} (h : m ∈ l ∧ ∀ y ∈ l, m ≤ y) (h' : m' ∈ l ∧ ∀ y ∈ l, m' ≤ y) : m = m' := by
  have a := h.2 _ h'.1
  have b := h'.2 _ h.1
  omega
theorem ew_minL {l : List Int} (h : Ev te σ H (Ls.mk l)) : Ew (tCB (rMin K) (tCons te tNil)) σ H (Wm.grd (0 < l.length) (minL l)) := fun P ⟨hl, pp⟩ H1 g Q q => h H1 g _ fun d v H2 e g2 ⟨p, xs, ev, hp, rl⟩ => by
  subst e
  have es := RL.eq_map (f := V.int) rl
  subst es
  exact ⟨p, l, by rw [ev], .inl (.inl hp), hl, fun m hm hy => q m _ H2 (by rw [min_uniq ⟨hm, hy⟩ (minL_spec hl)]; exact pp) g2 rfl⟩
theorem no_owned_new {H2 : Hp} {D : Addr} {o : HO} (n : Neat H2) (h : H2 D = none) (no : NotH o) : ¬ Owned (upd H2 D o) D := fun ⟨q, C, dx, r, t, e⟩ => n.noOwn h ⟨q, C, dx, r, t, by
    by_cases z : q = D
    · rw [z, upd_same] at e; cases e; exact absurd rfl (no C dx r t D)
    · rw [upd_ne z] at e; exact e⟩
theorem ewF_sortedC [PyO α] [PySrt α] {γ : Type} [Py γ] {d : γ} {ds : List α} (n : Neat H) (h : Ev te σ H d) (hc : ∀ v H', Py.rep d v H' → ∃ a, v = .ref a ∧ Coll H' a (fun xs => RL (fun d x => PyI.rep d x H') ds xs)) : EwF (tCB rSortedG (tCons te tNil)) σ H (Wm.grd (∀ d ∈ ds, PySrt.ok d) (Ls.mk (sortO ds))) := fun P ⟨hok, pp⟩ H1 g Q q => h H1 g _ fun d' v H2 e g2 r => by
  subst e
  obtain ⟨a, ea, c⟩ := hc v H2 r
  refine ⟨α, inferInstance, inferInstance, ds, a, by rw [ea], c, hok, fun p ys ds' hp hs hn hr => q _ _ _ (by rw [sortO_eq hs hp] at *; exact pp) (g2.trans (Gr.new hn)) ⟨p, ys, rfl, g2.back hn, upd_same, no_owned_new ((g.trans g2).neat n) hn (by intro _ _ _ _ _ z; cases z), ?_⟩⟩
  rw [← sortO_eq hs hp]
  exact hr.mono fun _ _ z => PyI.keep (TupK.new hn) z
theorem ewF_sortedL [PyO α] [PySrt α] {ds : List α} (n : Neat H) (h : Ev te σ H (Ls.mk ds)) : EwF (tCB rSortedG (tCons te tNil)) σ H (Wm.grd (∀ d ∈ ds, PySrt.ok d) (Ls.mk (sortO ds))) := ewF_sortedC n h fun v H' ⟨p, xs, e, hp, r⟩ => ⟨p, e, .lst hp r⟩
theorem ewF_sortedT [PyO α] [PySrt α] {ds : List α} (n : Neat H) (h : Ev te σ H ds) : EwF (tCB rSortedG (tCons te tNil)) σ H (Wm.grd (∀ d ∈ ds, PySrt.ok d) (Ls.mk (sortO ds))) := ewF_sortedC n h fun v H' ⟨p, xs, e, hp, r⟩ => ⟨p, e, .tup hp r⟩
theorem ewF_sortedDT [PyI β] {d : DT β} (n : Neat H) (h : Ev te σ H d) : EwF (tCB rSortedG (tCons te tNil)) σ H (Wm.grd (∀ k ∈ keysD d.kv, PySrt.ok k) (Ls.mk (sortO (keysD d.kv)))) := ewF_sortedC (α := List Int) (γ := DT β) (ds := keysD d.kv) n h (fun v H' r0 => by obtain ⟨p, kvs, e, hp, r⟩ := r0; exact ⟨p, e, Coll.dT hp fun bs hb => isKeys_RL r hb⟩)
theorem ewF_sortedDI [PyI β] {d : DI β} (n : Neat H) (h : Ev te σ H d) : EwF (tCB rSortedG (tCons te tNil)) σ H (Wm.grd (∀ k ∈ keysD d.kv, PySrt.ok k) (Ls.mk (sortO (keysD d.kv)))) := ewF_sortedC (α := Int) (γ := DI β) (ds := keysD d.kv) n h (fun v H' r0 => by obtain ⟨p, kvs, e, hp, no, r⟩ := r0; exact ⟨p, e, Coll.dK hp (keysI_RL r)⟩)
theorem ewF_new {l : List V} {d : Ls α} [PyR α] (n : Neat H) (r : ∀ H', Gr H H' → RL (fun a x => PyR.fr H a x H') d.l l) {p : Addr} (hp : H p = none) : PyR.fr H d (.ref p) (upd H p (.lst l)) := ⟨p, l, rfl, hp, upd_same, no_owned_new n hp (by intro _ _ _ _ _ z; cases z), r _ (Gr.new hp)⟩
theorem ewF_listL [PyI α] {a : List α} (n : Neat H) (h : Ev te σ H (Ls.mk a)) : EwF (tCB (rLstOf K) (tCons te tNil)) σ H (Wm.ret (Ls.mk a)) := fun P pp H1 g Q q => h H1 g _ fun d v H2 e g2 ⟨p, xs, ev, hp, r⟩ => by
  subst e
  exact ⟨p, xs, by rw [ev], .inl (.of hp), fun l hl => q _ _ _ pp (g2.trans (Gr.new hl)) (PyR.frpre (fun a => g2.back) (ewF_new (d := Ls.mk a) ((g.trans g2).neat n) (fun H' g' => r.mono fun _ _ z => PyI.keep g'.tup z) hl))⟩
theorem ewF_listT [PyI α] {a : List α} (n : Neat H) (h : Ev te σ H a) : EwF (tCB (rLstOf K) (tCons te tNil)) σ H (Wm.ret (Ls.mk a)) := fun P pp H1 g Q q => h H1 g _ fun d v H2 e g2 ⟨p, xs, ev, hp, r⟩ => by
  subst e
  exact ⟨p, xs, by rw [ev], .inr (.of hp), fun l hl => q _ _ _ pp (g2.trans (Gr.new hl)) (PyR.frpre (fun a => g2.back) (ewF_new (d := Ls.mk d) ((g.trans g2).neat n) (fun H' g' => r.mono fun _ _ z => PyI.keep g'.tup z) hl))⟩
theorem ewF_lst [PyI α] {ds : List α} {tr : TA} (n : Neat H) (h : EvA tr σ H (AllI ds)) : EwF (tLst tr) σ H (Wm.grd (ds.length ≤ 100000) (Ls.mk ds)) := fun P ⟨hl, pp⟩ H1 g Q q => h H1 g _ fun vs H2 g2 r =>
  ⟨by rw [← r.1]; exact Nat.le_trans hl (by decide), fun p hp => q _ _ _ pp (g2.trans (Gr.new hp)) (PyR.frpre (fun a => g2.back) (ewF_new (d := Ls.mk ds) ((g.trans g2).neat n) (fun H' g' => r.mono fun _ _ z => Py.mono g' z) hp))⟩
theorem ewF_nil [PyR α] (n : Neat H) : EwF (tLst tNil) σ H (Wm.ret (Ls.mk ([] : List α))) := fun P pp H1 g Q q =>
  ⟨Nat.zero_le _, fun p hp => q _ _ _ pp (Gr.new hp) (ewF_new (d := Ls.mk []) (g.neat n) (fun H' g' => RL.nil) hp)⟩
theorem ewF_catL [PyI α] {a b : List α} (n : Neat H) (ha : Ev ta σ H (Ls.mk a)) (hb : Ev tb σ H (Ls.mk b)) : EwF (tOp rCat ta tb) σ H (Wm.grd (a.length + b.length ≤ 100000) (Ls.mk (a ++ b))) := fun P ⟨hz, pp⟩ H1 g Q q => ha H1 g _ fun d v H2 e g2 r1 => hb H2 (g.trans g2) _ fun d' v' H3 e' g3 r2 => by
  subst e e'
  obtain ⟨p, xs, ev, hp, r⟩ := Py.mono g3 r1
  obtain ⟨p', xs', ev', hp', r'⟩ := r2
  exact ⟨p, p', xs, xs', ev, ev', hp, hp', by rw [← r.1, ← r'.1]; exact Nat.le_trans hz (by decide), fun p0 hp0 => q _ _ _ pp ((g2.trans g3).trans (Gr.new hp0)) (PyR.frpre (fun a => (g2.trans g3).back) (ewF_new (d := Ls.mk (a ++ b)) (((g.trans g2).trans g3).neat n) (fun H' g' => (r.append r').mono fun _ _ z => PyI.keep g'.tup z) hp0))⟩
theorem ewF_slL [PyI α] {ds : List α} {lo hi : Option Int} {to th : TO} (n : Neat H) (h : Ev te σ H (Ls.mk ds)) (h1 : EvO to σ H lo) (h2 : EvO th σ H hi) : EwF (tSl (rSlL K) te to th) σ H (Wm.ret (Ls.mk (cutL ds lo hi))) := fun P pp H1 g Q q => h H1 g _ fun d v H2 e g2 ⟨a, xs, ev, ha, r⟩ => h1 H2 (g.trans g2) _ fun H3 g3 => h2 H3 ((g.trans g2).trans g3) _ fun H4 g4 => by
  subst e
  have e24 := g3.trans g4
  exact ⟨a, xs, ev, .of (e24.lst ha), fun p hp => q _ _ _ pp ((g2.trans e24).trans (Gr.new hp)) (PyR.frpre (fun a => (g2.trans e24).back) (ewF_new (d := Ls.mk (cutL ds lo hi)) ((g.trans (g2.trans e24)).neat n) (fun H' g' => (r.cut lo hi).mono fun _ _ z => PyI.keep (e24.tup.trans g'.tup) z) hp))⟩
theorem ewF_lstRg1 {m : Int} (n : Neat H) (h : Ev te σ H m) : EwF (tLstRg (tRg1 te)) σ H (Wm.grd (-100000 ≤ m ∧ m ≤ 100000) (Ls.mk (rngI 0 m.toNat))) := fun P ⟨hn, pp⟩ H1 g Q q => h H1 g _ fun d v H2 e g2 r => by
  subst e
  have ev : v = .int d := r
  subst ev
  refine ⟨d, rfl, ⟨by omega, by omega, by omega, by omega, by omega⟩, fun p hp => q _ _ _ pp (g2.trans (Gr.new hp)) (PyR.frpre (fun a => g2.back) (ewF_new (d := Ls.mk (rngI 0 d.toNat)) ((g.trans g2).neat n) (fun H' g' => ?_) hp))⟩
  have e : rgV 0 d = (rngI 0 d.toNat).map V.int := by unfold rgV rngI; rw [List.map_map, Int.sub_zero]; rfl
  rw [e]
  exact RL.map fun _ _ => rfl
theorem ewF_newDT [PyI β] (n : Neat H) : EwF tDNewT σ H (Wm.ret (DT.mk ([] : List (List Int × β)))) := fun P pp H1 g Q q p hp => q _ _ _ pp (Gr.new hp) ⟨p, [], rfl, hp, upd_same, no_owned_new (g.neat n) hp (by intro _ _ _ _ _ z; cases z), PL.nil⟩
theorem ewF_newDI [PyI β] (n : Neat H) : EwF tDNewK σ H (Wm.ret (DI.mk ([] : List (Int × β)))) := fun P pp H1 g Q q p hp => q _ _ _ pp (Gr.new hp) ⟨p, [], rfl, hp, upd_same, no_owned_new (g.neat n) hp (by intro _ _ _ _ _ z; cases z), PL.nil⟩
theorem ew_getDT [PyI β] {k : List Int} {d : DT β} (hd : Ev td σ H d) (hk : Ev ta σ H k) : Ew (tDGet td ta) σ H (Wm.opt (lkD d.kv k)) := fun P ⟨b, hl, p⟩ => (ev_getDT hd hk hl).imp fun x e => by rw [e]; exact p
theorem ew_getDI [PyI β] {k : Int} {d : DI β} (hd : Ev td σ H d) (hk : Ev ta σ H k) : Ew (tDGet td ta) σ H (Wm.opt (lkD d.kv k)) := fun P ⟨b, hl, p⟩ => (ev_getDI hd hk hl).imp fun x e => by rw [e]; exact p


end
end Zw
/-! Y4: statements and loops. -/
namespace Zw
open PySem L2 RZ PySem.Spec PyProof.Rows SrtO
inductive Ctl (S R : Type) where
  | nx (s : S)
  | bk (s : S)
  | rt (r : R)
def foldW {α S : Type} (body : α → S → Wm S) : List α → S → Wm S
  | [], s => Wm.ret s
  | d :: ds, s => Wm.bind (body d s) (foldW body ds)
def forK {S R : Type} (g : S → Wm (Ctl S R)) (c : Ctl S R) : Wm (Ctl S R) := match c with
  | .nx s => g s
  | .bk s => Wm.ret (.nx s)
  | .rt r => Wm.ret (.rt r)
def forW {α S R : Type} (body : α → S → Wm (Ctl S R)) : List α → S → Wm (Ctl S R)
  | [], s => Wm.ret (.nx s)
  | d :: ds, s => Wm.bind (body d s) (forK (forW body ds))
def whileN {S R : Type} (c : S → Wm Bool) (body : S → Wm (Ctl S R)) : Nat → S → Wm (Ctl S R)
  | 0, _ => Wm.fail
  | n + 1, s => Wm.bind (c s) fun b => cond b (Wm.bind (body s) (forK (whileN c body n))) (Wm.ret (.nx s))
def whileW {S R : Type} (c : S → Wm Bool) (body : S → Wm (Ctl S R)) (s : S) : Wm (Ctl S R) := fun P => ∃ n, whileN c body n s P
/-- behind a loop: at the def's own level -/
def Ctl.go {S R ρ : Type} (c : Ctl S R) (ret : R → Wm ρ) (rest : S → Wm ρ) : Wm ρ := match c with
  | .nx s => rest s
  | .bk s => rest s
  | .rt r => ret r
section
variable {K : PySem.W.Frag} {H0 H H1 H' : Hp} {F : Hp → Prop} {e : EnvT} {σ : L2.St} {ta tb tc td te tl : TE} {t u tt : TT} {tu tw tz : TS} {D : Ends} {g : TG} {α β γ δ ρ S R : Type} {E : XK}
theorem q_of {ts : TS} (h : ts { D with nx := tz D } σ H) : tSeq ts tz D σ H := h
theorem x_asg [PyR α] {i : Nat} {m : Wm α} {f : α → Wm ρ} {P : ρ → Prop} (he : EnvOk H0 F e σ H) (hi : i < e.length) (h : EwF te σ H m) (hm : Wm.bind m f P) (k : ∀ d v σ' H', EnvOk H0 F (e.set i (some (bN d v))) σ' H' → f d P → D.nx σ' H') : tAsg te (gName i) D σ H :=
  h _ hm H (Gr.refl H) _ fun d v H1 pd g r => k d v _ H1 (he.set g hi r) pd
theorem x_ret [PyR α] {m : Wm α} {P : α → Prop} (he : EnvOk H0 F e σ H) (h : EwF te σ H m) (hm : m P) (k : ∀ d v H', P d → Gr H0 H' → PyR.fr H0 d v H' → D.rt v H') : tRet te D σ H :=
  h _ hm H (Gr.refl H) _ fun d v H1 pd g r => k d v H1 pd (he.gr0.trans g) (PyR.frpre (fun a => he.gr0.back) r)
/-- return x, x one's own -/
theorem x_retV [PyR α] {i : Nat} {d : α} {v : V} {P : α → Prop} (he : EnvOk H0 F e σ H) (hb : e[i]? = some (some (bN d v))) (hm : P d) (k : ∀ d v H', P d → Gr H0 H' → PyR.fr H0 d v H' → D.rt v H') : tRet (tVar i) D σ H :=
  ⟨v, he.sl i _ hb, k d v H hm he.gr0 (he.now hb)⟩
theorem x_retN {P : Unit → Prop} (he : EnvOk H0 F e σ H) (hm : P ()) (k : ∀ (d : Unit) v H', P d → Gr H0 H' → PyR.fr H0 d v H' → D.rt v H') : tRetN D σ H := k () _ H hm he.gr0 rfl
theorem x_drop [Py α] {m : Wm α} {f : α → Wm ρ} {P : ρ → Prop} (he : EnvOk H0 F e σ H) (h : Ew te σ H m) (hm : Wm.bind m f P) (k : ∀ d H', EnvOk H0 F e σ H' → f d P → D.nx σ H') : tDrop te D σ H :=
  h _ hm H (Gr.refl H) _ fun d v H1 pd g r => k d H1 (he.mono g) pd
theorem x_if {m : Wm Bool} {f : Bool → Wm ρ} {P : ρ → Prop} (he : EnvOk H0 F e σ H) (h : EwT t σ H m) (hm : Wm.bind m f P) (h1 : ∀ H1, EnvOk H0 F e σ H1 → f true P → tu D σ H1) (h2 : ∀ H1, EnvOk H0 F e σ H1 → f false P → tw D σ H1) : tIfS t tu tw D σ H :=
  h _ hm H (Gr.refl H) _ fun b H1 pb g => by
    cases b with
    | true => exact h1 H1 (he.mono g) pb
    | false => exact h2 H1 (he.mono g) pb
/-- both ways go on -/
theorem x_join {ts : TS} {m : Wm S} {f : S → Wm ρ} {P : ρ → Prop} (I : S → L2.St → Hp → Prop) (hm : Wm.bind m f P) (h1 : ∀ (k : S → Prop) (N : L2.St → Hp → Prop), (∀ s σ' H', I s σ' H' → k s → N σ' H') → m k → ts { D with nx := N } σ H) (fin : ∀ s σ' H', I s σ' H' → f s P → tz D σ' H') : tSeq ts tz D σ H :=
  h1 (fun s => f s P) (tz D) (fun s σ' H' i p => fin s σ' H' i p) hm
/-- a, b = e -/
theorem x_unp [PyI α] [PyI β] {i j : Nat} {m : Wm (α × β)} {f : α × β → Wm ρ} {P : ρ → Prop} (he : EnvOk H0 F e σ H) (hi : i < e.length) (hj : j < e.length) (h : Ew te σ H m) (hm : Wm.bind m f P) (k : ∀ a b v w σ' H', EnvOk H0 F ((e.set i (some (bN a v))).set j (some (bN b w))) σ' H' → f (a, b) P → D.nx σ' H') :
    tAsg te (gTup K 2 (gCons (gName i) (gCons (gName j) gNil))) D σ H :=
  h _ hm H (Gr.refl H) _ fun d v H1 pd g r => gTup2 r fun y z r1 r2 => k d.1 d.2 y z _ H1 ((he.set g hi (show PyR.fr H d.1 y H1 from r1)).set (Gr.refl _) (by rw [List.length_set]; exact hj) (show PyR.fr H1 d.2 z H1 from r2)) pd
/-- a, b = (e, f) in one -/
theorem x_par [PyR α] [PyR β] {i j : Nat} {m : Wm α} {m' : Wm β} {f : α → β → Wm ρ} {P : ρ → Prop} (he : EnvOk H0 F e σ H) (hi : i < e.length) (hj : j < e.length) (h : EwF ta σ H m) (h' : EwF tb σ H m') (hm : Wm.bind m (fun a => Wm.bind m' fun b => f a b) P)
    (k : ∀ a b v w σ' H', EnvOk H0 F ((e.set i (some (bN a v))).set j (some (bN b w))) σ' H' → f a b P → D.nx σ' H') : tPar i j (tCons ta (tCons tb tNil)) D σ H :=
  h _ hm H (Gr.refl H) _ fun a v H1 pa g r => h' _ pa H1 g _ fun b w H2 pb g2 r2 => ⟨v, w, rfl, k a b v w _ H2 ((he.set g hi r).set g2 (by rw [List.length_set]; exact hj) r2) pb⟩
/-- .. through a tuple -/
theorem x_par2 [PyR α] [PyR β] {i j : Nat} {m : Wm α} {m' : Wm β} {f : α → β → Wm ρ} {P : ρ → Prop} (he : EnvOk H0 F e σ H) (hi : i < e.length) (hj : j < e.length) (h : EwF ta σ H m) (h' : EwF tb σ H m') (hm : Wm.bind m (fun a => Wm.bind m' fun b => f a b) P)
    (k : ∀ a b v w σ' H', EnvOk H0 F ((e.set i (some (bN a v))).set j (some (bN b w))) σ' H' → f a b P → D.nx σ' H') : tAsg (tTup (tCons ta (tCons tb tNil))) (gTup K 2 (gCons (gName i) (gCons (gName j) gNil))) D σ H :=
  h _ hm H (Gr.refl H) _ fun a v H1 pa g r => h' _ pa H1 g _ fun b w H2 pb g2 r2 => ⟨by show 2 ≤ sizeLine; decide, fun q hq => ⟨q, _, rfl, .of upd_same, rfl, v, _, rfl, w, _, rfl, rfl, k a b v w _ _ (((he.set g hi r).set g2 (by rw [List.length_set]; exact hj) r2).mono (Gr.new hq)) pb⟩⟩
/-- x = y, y given up -/
theorem x_move [PyR α] {i j : Nat} {d : α} {v : V} (he : EnvOk H0 F e σ H) (hi : i < e.length) (ne : i ≠ j) (hb : e[j]? = some (some (bN d v))) (k : ∀ σ' H', EnvOk H0 F ((e.set j none).set i (some (bN d v))) σ' H' → D.nx σ' H') : tAsg (tVar j) (gName i) D σ H := by
  refine ⟨v, he.sl j _ hb, k _ H ?_⟩
  have hj : j < e.length := (List.getElem?_eq_some_iff.mp hb).1
  have key : ∀ (n : Nat) (b : Bnd), ((e.set j none).set i (some (bN d v)))[n]? = some (some b) → (n = i ∧ b = bN d v) ∨ (n ≠ i ∧ n ≠ j ∧ e[n]? = some (some b)) := fun n b h => by
    rw [List.getElem?_set, List.length_set] at h
    split at h
    · rename_i e1
      have h2 : some (some (bN d v)) = some (some b) := by simpa [hi] using h
      cases h2
      exact .inl ⟨e1.symm, rfl⟩
    · rename_i e1
      rw [List.getElem?_set] at h
      split at h
      · simp at h
      · rename_i e2
        exact .inr ⟨fun z => e1 z.symm, fun z => e2 z.symm, h⟩
  have ko : ∀ a, OwnA ((e.set j none).set i (some (bN d v))) a → OwnA e a := fun a ⟨n, b, h, m⟩ => by
    rcases key n b h with ⟨_, e2⟩ | ⟨_, _, h⟩
    · subst e2; exact ⟨j, _, hb, m⟩
    · exact ⟨n, b, h, m⟩
  refine ⟨by rw [List.length_set, List.length_set, List.length_set]; exact he.len, fun n b h => ?_, fun n b h => ?_, fun a h => he.kd a (ko a h), fun a h => he.nw a (ko a h), fun n n' b b' a h h' m m' => ?_, fun H' m => he.fr H' (m.mono he.kdo fun a _ z => ko a z), he.ne, fun H' m => he.gr H' (m.mono he.kdo fun a _ z => ko a z)⟩
  · rcases key n b h with ⟨e1, e2⟩ | ⟨n1, n2, h⟩
    · subst e1 e2; rw [List.getElem?_set_self (by rw [he.len]; exact hi)]
    · rw [List.getElem?_set_ne (fun z => n1 z.symm)]; exact he.sl n b h
  · rcases key n b h with ⟨e1, e2⟩ | ⟨n1, n2, h⟩
    · subst e1 e2
      refine fun H' m => he.rb j _ hb H' (m.mono (he.kdi j) fun a _ ⟨n', b', nn, hh, mm⟩ => ?_)
      rcases key n' b' hh with ⟨z, _⟩ | ⟨_, z2, hh⟩
      · exact absurd z nn
      · exact ⟨n', b', z2, hh, mm⟩
    · refine fun H' m => he.rb n b h H' (m.mono (he.kdi n) fun a _ ⟨n', b', nn, hh, mm⟩ => ?_)
      rcases key n' b' hh with ⟨z, e2⟩ | ⟨_, z2, hh⟩
      · subst e2; exact ⟨j, _, fun z => n2 z.symm, hb, mm⟩
      · exact ⟨n', b', nn, hh, mm⟩
  · rcases key n b h with ⟨e1, e2⟩ | ⟨n1, n2, h⟩ <;> rcases key n' b' h' with ⟨e1', e2'⟩ | ⟨n1', n2', h'⟩
    · rw [e1, e1']
    · subst e2; exact absurd (he.nd _ _ _ _ a hb h' m m') (fun z => n2' z.symm)
    · subst e2'; exact absurd (he.nd _ _ _ _ a h hb m m') n2
    · exact he.nd _ _ _ _ a h h' m m'

/-! ### loops -/
theorem x_for [PyI α] {wi : TI} {ms : Wm (List α)} {body : α → S → Wm S} {s0 : S} {f : S → Wm ρ} {P : ρ → Prop} (he : EnvOk H0 F e σ H) (src : SrcW wi σ H ms) (hm : Wm.bind ms (fun ds => Wm.bind (foldW body ds s0) f) P)
    (I : (Hp → Prop) → S → L2.St → Hp → Prop) (h0 : ∀ F' H', EnvOk H0 F' e σ H' → I F' s0 σ H') (out : ∀ F' s σ' H', I F' s σ' H' → F' H') (mono : ∀ F' s σ' H' H'', Gr H' H'' → I F' s σ' H' → I F' s σ' H'') (weak : ∀ F' s σ' H', (∀ H, F' H → F H) → I F' s σ' H' → I F s σ' H')
    (step : ∀ F' d x s σ' H' (k : S → Prop) (N : L2.St → Hp → Prop), (∀ s' σ3 H4, I F' s' σ3 H4 → k s' → N σ3 H4) → I F' s σ' H' → Py.rep d x H' → body d s k → g x σ' H' fun σ2 H3 => tu { D with nx := N, ct := N, bk := D.nx } σ2 H3)
    (fin : ∀ s σ' H', I F s σ' H' → f s P → D.nx σ' H') : tFor wi g tu D σ H := by
  refine src _ hm H (Gr.refl H) _ fun ds J H2 S0 pd g2 s2 rb w => ?_
  have he2 := he.mono g2
  have heF : EnvOk H0 (fun H => F H ∧ S0 H) e σ H2 := he2.and (S := S0) (fun H' m => rb _ (fun a ha => (he.kd a ha).1) H2 H' m s2)
  have pd' : foldW body ds s0 (fun s => f s P) := pd
  refine ⟨fun i m σ' H' => m = ds.length - i ∧ i ≤ ds.length ∧ ∃ s, I (fun H => F H ∧ S0 H) s σ' H' ∧ foldW body (ds.drop i) s (fun s => f s P), ⟨ds.length, by simp, Nat.zero_le _, s0, h0 _ _ heF, by rw [List.drop_zero]; exact pd'⟩, ?_⟩
  rintro i m σ' H3 ⟨rfl, hi, s, hI, hf⟩
  have s3 : S0 H3 := (out _ _ _ _ hI).2
  by_cases hlt : i < ds.length
  · have hd : ds[i]? = some ds[i] := by simp [hlt]
    obtain ⟨hgo, hy⟩ := w.go H3 s3 i _ hd
    have hdr : ds.drop i = ds[i] :: ds.drop (i + 1) := List.drop_eq_getElem_cons hlt
    rw [hdr] at hf
    refine .inr ⟨hgo, fun σ4 H4 => ∃ s', I (fun H => F H ∧ S0 H) s' σ4 H4 ∧ foldW body (ds.drop (i + 1)) s' (fun s => f s P), fun σ4 H4 ⟨s', hI', hf'⟩ => ⟨ds.length - (i + 1), by omega, rfl, hlt, s', hI', hf'⟩, fun x H4 hyl => ?_⟩
    obtain ⟨g4, r4⟩ := hy x H4 hyl
    exact step _ ds[i] x s σ' H4 (fun s' => foldW body (ds.drop (i + 1)) s' (fun s => f s P)) _ (fun s' σ3 H4 a b => ⟨s', a, b⟩) (mono _ _ _ _ _ g4 hI) r4 hf
  · have e : i = ds.length := by omega
    subst e
    rw [List.drop_length] at hf
    exact .inl ⟨w.stop H3 s3, fin s σ' H3 (weak _ _ _ _ (fun _ z => z.1) hI) hf⟩
/-- .. that may be left -/
theorem x_forC [PyI α] [PyR R] {wi : TI} {ms : Wm (List α)} {body : α → S → Wm (Ctl S R)} {s0 : S} {f : Ctl S R → Wm ρ} {P : ρ → Prop} (he : EnvOk H0 F e σ H) (src : SrcW wi σ H ms) (hm : Wm.bind ms (fun ds => Wm.bind (forW body ds s0) f) P)
    (I : (Hp → Prop) → S → L2.St → Hp → Prop) (h0 : ∀ F' H', EnvOk H0 F' e σ H' → I F' s0 σ H') (out : ∀ F' s σ' H', I F' s σ' H' → F' H') (mono : ∀ F' s σ' H' H'', Gr H' H'' → I F' s σ' H' → I F' s σ' H'') (weak : ∀ F' s σ' H', (∀ H, F' H → F H) → I F' s σ' H' → I F s σ' H')
    (step : ∀ F' d x s σ' H' (k : Ctl S R → Prop) (N : L2.St → Hp → Prop), (∀ s' σ3 H4, I F' s' σ3 H4 → k (.nx s') → N σ3 H4) → (∀ s' σ3 H4, I F' s' σ3 H4 → k (.bk s') → D.nx σ3 H4) → (∀ r v H4, k (.rt r) → Gr H0 H4 → PyR.fr H0 r v H4 → D.rt v H4) → I F' s σ' H' → Py.rep d x H' → body d s k → g x σ' H' fun σ2 H3 => tu { D with nx := N, ct := N, bk := D.nx } σ2 H3)
    (fin : ∀ s σ' H', I F s σ' H' → f (.nx s) P → D.nx σ' H') (finR : ∀ r v H', f (.rt r) P → Gr H0 H' → PyR.fr H0 r v H' → D.rt v H') : tFor wi g tu D σ H := by
  refine src _ hm H (Gr.refl H) _ fun ds J H2 S0 pd g2 s2 rb w => ?_
  have he2 := he.mono g2
  have heF : EnvOk H0 (fun H => F H ∧ S0 H) e σ H2 := he2.and (S := S0) (fun H' m => rb _ (fun a ha => (he.kd a ha).1) H2 H' m s2)
  have pd' : forW body ds s0 (fun s => f s P) := pd
  refine ⟨fun i m σ' H' => m = ds.length - i ∧ i ≤ ds.length ∧ ∃ s, I (fun H => F H ∧ S0 H) s σ' H' ∧ forW body (ds.drop i) s (fun s => f s P), ⟨ds.length, by simp, Nat.zero_le _, s0, h0 _ _ heF, by rw [List.drop_zero]; exact pd'⟩, ?_⟩
  rintro i m σ' H3 ⟨rfl, hi, s, hI, hf⟩
  have s3 : S0 H3 := (out _ _ _ _ hI).2
  by_cases hlt : i < ds.length
  · have hd : ds[i]? = some ds[i] := by simp [hlt]
    obtain ⟨hgo, hy⟩ := w.go H3 s3 i _ hd
    have hdr : ds.drop i = ds[i] :: ds.drop (i + 1) := List.drop_eq_getElem_cons hlt
    rw [hdr] at hf
    refine .inr ⟨hgo, fun σ4 H4 => ∃ s', I (fun H => F H ∧ S0 H) s' σ4 H4 ∧ forW body (ds.drop (i + 1)) s' (fun s => f s P), fun σ4 H4 ⟨s', hI', hf'⟩ => ⟨ds.length - (i + 1), by omega, rfl, hlt, s', hI', hf'⟩, fun x H4 hyl => ?_⟩
    obtain ⟨g4, r4⟩ := hy x H4 hyl
    exact step _ ds[i] x s σ' H4 (fun c => forK (forW body (ds.drop (i + 1))) c (fun s => f s P)) _ (fun s' σ3 H4 a b => ⟨s', a, b⟩) (fun s' σ3 H4 a b => fin s' σ3 H4 (weak _ _ _ _ (fun _ z => z.1) a) b) (fun r v H4 b g0 r0 => finR r v H4 b g0 r0) (mono _ _ _ _ _ g4 hI) r4 hf
  · have e : i = ds.length := by omega
    subst e
    rw [List.drop_length] at hf
    exact .inl ⟨w.stop H3 s3, fin s σ' H3 (weak _ _ _ _ (fun _ z => z.1) hI) hf⟩
/-- over a list that a slot holds, and that stays -/
theorem x_forV [PyI α] [PyR R] {iv : Nat} {ds : List α} {v : V} {o : Bool} {body : α → S → Wm (Ctl S R)} {s0 : S} {f : Ctl S R → Wm ρ} {P : ρ → Prop} (he : EnvOk H0 F e σ H) (hb : e[iv]? = some (some ⟨Ls α, inferInstance, Ls.mk ds, v, o⟩)) (hm : Wm.bind (forW body ds s0) f P)
    (I : S → L2.St → Hp → Prop) (h0 : I s0 σ H) (get : ∀ s σ' H', I s σ' H' → Py.rep (Ls.mk ds) v H')
    (step : ∀ d x s σ' H' (k : Ctl S R → Prop) (N : L2.St → Hp → Prop), (∀ s' σ3 H4, I s' σ3 H4 → k (.nx s') → N σ3 H4) → (∀ s' σ3 H4, I s' σ3 H4 → k (.bk s') → D.nx σ3 H4) → (∀ r v H4, k (.rt r) → Gr H0 H4 → PyR.fr H0 r v H4 → D.rt v H4) → I s σ' H' → Py.rep d x H' → body d s k → g x σ' H' fun σ2 H3 => tu { D with nx := N, ct := N, bk := D.nx } σ2 H3)
    (fin : ∀ s σ' H', I s σ' H' → f (.nx s) P → D.nx σ' H') (finR : ∀ r v H', f (.rt r) P → Gr H0 H' → PyR.fr H0 r v H' → D.rt v H') : tFor (iList K (tVar iv)) g tu D σ H := by
  have rp : Py.rep (Ls.mk ds) v H := he.rep hb
  obtain ⟨a, xs, ev, ha, rl⟩ := rp
  have pd' : forW body ds s0 (fun s => f s P) := hm
  refine ⟨v, he.sl iv _ hb, a, ev, ⟨xs, .of ha⟩, fun i m σ' H' => m = ds.length - i ∧ i ≤ ds.length ∧ ∃ s, I s σ' H' ∧ forW body (ds.drop i) s (fun s => f s P), ⟨ds.length, by simp, Nat.zero_le _, s0, h0, by rw [List.drop_zero]; exact pd'⟩, ?_⟩
  rintro i m σ' H3 ⟨rfl, hi, s, hI, hf⟩
  obtain ⟨a', xs', ev', ha', rl'⟩ := get _ _ _ hI
  rw [ev] at ev'
  cases ev'
  by_cases hlt : i < ds.length
  · have hd : ds[i]? = some ds[i] := by simp [hlt]
    obtain ⟨x0, hx, rx⟩ := rl'.get hd
    have hdr : ds.drop i = ds[i] :: ds.drop (i + 1) := List.drop_eq_getElem_cons hlt
    rw [hdr] at hf
    refine .inr ⟨⟨xs', x0, .of ha', hx⟩, fun σ4 H4 => ∃ s', I s' σ4 H4 ∧ forW body (ds.drop (i + 1)) s' (fun s => f s P), fun σ4 H4 ⟨s', hI', hf'⟩ => ⟨ds.length - (i + 1), by omega, rfl, hlt, s', hI', hf'⟩, fun x H4 hyl => ?_⟩
    obtain ⟨e4, hy⟩ := hyl
    subst e4
    have e5 := hy xs' (.of ha')
    rw [hx] at e5
    cases e5
    exact step ds[i] _ s σ' _ (fun c => forK (forW body (ds.drop (i + 1))) c (fun s => f s P)) _ (fun s' σ3 H4 a b => ⟨s', a, b⟩) (fun s' σ3 H4 a b => fin s' σ3 H4 a b) (fun r v H4 b g0 r0 => finR r v H4 b g0 r0) hI rx hf
  · have e : i = ds.length := by omega
    subst e
    rw [List.drop_length] at hf
    exact .inl ⟨⟨xs', .of ha', by rw [rl'.1]; exact Nat.le_refl _⟩, fin s σ' H3 hI hf⟩
theorem x_while [PyR R] {c : S → Wm Bool} {body : S → Wm (Ctl S R)} {s0 : S} {f : Ctl S R → Wm ρ} {P : ρ → Prop} (hm : Wm.bind (whileW c body s0) f P)
    (I : S → L2.St → Hp → Prop) (h0 : I s0 σ H) (test : ∀ s σ' H', I s σ' H' → EwT t σ' H' (c s)) (mono : ∀ s σ' H' H'', Gr H' H'' → I s σ' H' → I s σ' H'')
    (step : ∀ s σ' H' (k : Ctl S R → Prop) (N : L2.St → Hp → Prop), (∀ s' σ3 H4, I s' σ3 H4 → k (.nx s') → N σ3 H4) → (∀ s' σ3 H4, I s' σ3 H4 → k (.bk s') → D.nx σ3 H4) → (∀ r v H4, k (.rt r) → Gr H0 H4 → PyR.fr H0 r v H4 → D.rt v H4) → I s σ' H' → body s k → tu { D with nx := N, ct := N, bk := D.nx } σ' H')
    (fin : ∀ s σ' H', I s σ' H' → f (.nx s) P → D.nx σ' H') (finR : ∀ r v H', f (.rt r) P → Gr H0 H' → PyR.fr H0 r v H' → D.rt v H') : tWhile t tu D σ H := by
  obtain ⟨n, hn⟩ := hm
  refine ⟨fun m σ' H' => ∃ s, I s σ' H' ∧ whileN c body m s (fun s => f s P), ⟨n, s0, h0, hn⟩, ?_⟩
  rintro m σ' H3 ⟨s, hI, hf⟩
  cases m with
  | zero => exact hf.elim
  | succ m =>
    refine test s σ' H3 hI _ hf H3 (Gr.refl _) _ fun b H4 pb g4 => ?_
    cases b with
    | true =>
      refine ⟨fun σ4 H4 => ∃ s', I s' σ4 H4 ∧ whileN c body m s' (fun s => f s P), fun σ4 H4 h => ⟨m, Nat.lt_succ_self m, h⟩, ?_⟩
      exact step s σ' H4 (fun z => forK (whileN c body m) z (fun s => f s P)) _ (fun s' σ3 H4 a b => ⟨s', a, b⟩) (fun s' σ3 H4 a b => fin s' σ3 H4 a b) (fun r v H4 b g0 r0 => finR r v H4 b g0 r0) (mono _ _ _ _ g4 hI) pb
    | false => exact fin s σ' H4 (mono _ _ _ _ g4 hI) pb
theorem tg_name [PyI α] {i : Nat} {d : α} {x : V} {Q : L2.St → Hp → Prop} (he : EnvOk H0 F e σ H) (hi : i < e.length) (r : Py.rep d x H) (k : ∀ σ2, EnvOk H0 F (e.set i (some (bN d x))) σ2 H → Q σ2 H) : gName i x σ H Q := k _ (he.set (Gr.refl H) hi r)
theorem tg_pair [PyI α] [PyI β] {i j : Nat} {d : α × β} {x : V} {Q : L2.St → Hp → Prop} (he : EnvOk H0 F e σ H) (hi : i < e.length) (hj : j < e.length) (r : Py.rep d x H) (k : ∀ v w σ2, EnvOk H0 F ((e.set i (some (bN d.1 v))).set j (some (bN d.2 w))) σ2 H → Q σ2 H) : gTup K 2 (gCons (gName i) (gCons (gName j) gNil)) x σ H Q :=
  gTup2 r fun y z r1 r2 => k y z _ ((he.set (Gr.refl H) hi (show PyR.fr H d.1 y H from r1)).set (Gr.refl H) (by rw [List.length_set]; exact hj) (show PyR.fr H d.2 z H from r2))

/-! ### what changes in place -/
theorem x_app [PyI α] {i : Nat} {ds : List α} {a : V} {m : Wm α} {f : List α → Wm ρ} {P : ρ → Prop} (he : EnvOk H0 F e σ H) (hb : e[i]? = some (some (bN (Ls.mk ds) a))) (h : Ew te σ H m) (hm : Wm.bind m (fun x => Wm.bind (Wm.grd (ds.length < 100000) (ds ++ [x])) f) P)
    (k : ∀ x H', EnvOk H0 F (e.set i (some (bN (Ls.mk (ds ++ [x])) a))) σ H' → f (ds ++ [x]) P → D.nx σ H') : tDrop (tBM K "list" rAppend (tVar i) (tCons te tNil)) D σ H := by
  obtain ⟨q, xs, ea, hn, hq, no, rr⟩ := he.now hb
  simp only at ea
  subst ea
  refine ⟨_, he.sl i _ hb, .inl ⟨rfl, xs, .of hq⟩, ?_⟩
  refine h _ hm H (Gr.refl H) _ fun d v H1 ⟨hz, p⟩ g r => ⟨q, xs, v, rfl, rfl, g.lst hq, by rw [← rr.1]; exact Nat.lt_of_lt_of_le hz (by decide), k d _ (he.put hb rfl g (g.lst hq) trivial ?_) p⟩
  have tk : TupK H1 (upd H1 q (.lst (xs ++ [v]))) := TupK.put (g.lst hq) (fun _ z => nomatch z)
  refine ⟨q, _, rfl, hn, upd_same, ?_, ?_⟩
  · intro od
    have := (he.mono g).kd q ⟨i, _, hb, List.mem_cons_self⟩
    obtain ⟨b, C, dx, r', t, e'⟩ := od
    refine (this.2 _ (g.lst hq)).2 ⟨b, C, dx, r', t, ?_⟩
    by_cases z : b = q
    · rw [z, upd_same] at e'; cases e'
    · rw [upd_ne z] at e'; exact e'
  · exact (rr.mono fun _ _ z => PyI.keep (g.tup.trans tk) z).snoc (PyI.keep tk r)
end
end Zw
/-! Y5: what changes in place; dicts walked. -/
namespace Zw
open PySem L2 RZ PySem.Spec PyProof.Rows SrtO
def popL {α : Type} (l : List α) : Option (List α × α) := match l.getLast? with
  | some d => some (l.dropLast, d)
  | none => none
def popAtL {α : Type} (l : List α) (k : Int) : Option (List α × α) := if 0 ≤ k ∧ l.length ≤ 100000 then (match l[k.toNat]? with
  | some d => some (l.eraseIdx k.toNat, d)
  | none => none) else none
def setL {α : Type} (l : List α) (j : Int) (v : α) : Option (List α) := (ixN l.length j).map fun k => l.set k v
def pairL (l : List Int) : Option (Int × Int) := match l with
  | [a, b] => some (a, b)
  | _ => none
theorem popL_some {α : Type} {l : List α} {z : List α × α} (h : popL l = some z) : l = z.1 ++ [z.2] := by
  unfold popL at h
  cases q : l.getLast? with
  | none => rw [q] at h; cases h
  | some d =>
    rw [q] at h
    cases h
    exact (List.getLast?_eq_some_iff.mp q).elim fun l' e => by rw [e]; simp
section
variable {K : PySem.W.Frag} {H0 H H1 H' : Hp} {F : Hp → Prop} {e : EnvT} {σ : L2.St} {ta tb tc td te tl ty tv tj : TE} {t u tt : TT} {tu tw tz : TS} {D : Ends} {g : TG} {α β γ δ ρ S R : Type} {E : XK}
theorem fr_ls [PyI α] {q : Addr} {xs ys : List V} {ds : List α} (hn : H0 q = none) (h1 : H1 q = some (.lst xs)) (no : ¬ Owned H1 q) (r : RL (fun a x => PyI.rep a x H1) ds ys) : PyR.fr H0 (Ls.mk ds) (.ref q) (upd H1 q (.lst ys)) :=
  ⟨q, _, rfl, hn, upd_same, fun ⟨b, C, dx, r', t, e'⟩ => no ⟨b, C, dx, r', t, by
    by_cases z : b = q
    · rw [z, upd_same] at e'; cases e'
    · rw [upd_ne z] at e'; exact e'⟩, r.mono fun _ _ z => PyI.keep (TupK.put h1 (fun _ z => nomatch z)) z⟩
theorem x_ext [PyI α] {i : Nat} {ds : List α} {a : V} {m : Wm (Ls α)} {f : List α → Wm ρ} {P : ρ → Prop} (he : EnvOk H0 F e σ H) (hb : e[i]? = some (some (bN (Ls.mk ds) a))) (h : Ew te σ H m) (hm : Wm.bind m (fun x => Wm.bind (Wm.grd (ds.length + x.l.length ≤ 100000) (ds ++ x.l)) f) P)
    (k : ∀ x H', EnvOk H0 F (e.set i (some (bN (Ls.mk (ds ++ x)) a))) σ H' → f (ds ++ x) P → D.nx σ H') : tDrop (tBM K "list" rExtend (tVar i) (tCons te tNil)) D σ H := by
  obtain ⟨q, xs, ea, hn, hq, no, rr⟩ := he.now hb
  simp only at ea
  subst ea
  refine ⟨_, he.sl i _ hb, .inl ⟨rfl, xs, .of hq⟩, ?_⟩
  refine h _ hm H (Gr.refl H) _ fun d v H1 ⟨hz, p⟩ g ⟨b, ys, ev, hb', rb⟩ => ⟨q, b, xs, ys, rfl, by rw [ev], g.lst hq, hb', by rw [← rr.1, ← rb.1]; exact Nat.le_trans hz (by decide), k d.l _ (he.put hb rfl g (g.lst hq) trivial (fr_ls hn (g.lst hq) (fun od => no (g.owned (by rw [hq]; exact fun z => nomatch z) od)) ((rr.mono fun _ _ z => PyI.keep g.tup z).append rb))) p⟩
theorem x_extT [PyI α] {i : Nat} {ds : List α} {a : V} {m : Wm (List α)} {f : List α → Wm ρ} {P : ρ → Prop} (he : EnvOk H0 F e σ H) (hb : e[i]? = some (some (bN (Ls.mk ds) a))) (h : Ew te σ H m) (hm : Wm.bind m (fun x => Wm.bind (Wm.grd (ds.length + x.length ≤ 100000) (ds ++ x)) f) P)
    (k : ∀ x H', EnvOk H0 F (e.set i (some (bN (Ls.mk (ds ++ x)) a))) σ H' → f (ds ++ x) P → D.nx σ H') : tDrop (tBM K "list" (rExtT K) (tVar i) (tCons te tNil)) D σ H := by
  obtain ⟨q, xs, ea, hn, hq, no, rr⟩ := he.now hb
  simp only at ea
  subst ea
  refine ⟨_, he.sl i _ hb, .inl ⟨rfl, xs, .of hq⟩, ?_⟩
  refine h _ hm H (Gr.refl H) _ fun d v H1 ⟨hz, p⟩ g ⟨b, ys, ev, hb', rb⟩ => ⟨q, b, xs, ys, rfl, by rw [ev], g.lst hq, .inl (.inl hb'), by rw [← rr.1, ← rb.1]; exact Nat.le_trans hz (by decide), k d _ (he.put hb rfl g (g.lst hq) trivial (fr_ls hn (g.lst hq) (fun od => no (g.owned (by rw [hq]; exact fun z => nomatch z) od)) ((rr.mono fun _ _ z => PyI.keep g.tup z).append rb))) p⟩
/-- y = x.pop() -/
theorem x_popAsg [PyI α] {i j : Nat} {ds : List α} {a : V} {f : List α × α → Wm ρ} {P : ρ → Prop} (he : EnvOk H0 F e σ H) (hb : e[i]? = some (some (bN (Ls.mk ds) a))) (hj : j < e.length) (hm : Wm.bind (Wm.opt (popL ds)) f P)
    (k : ∀ ds' d v σ' H', EnvOk H0 F ((e.set i (some (bN (Ls.mk ds') a))).set j (some (bN d v))) σ' H' → f (ds', d) P → D.nx σ' H') : tAsg (tBM0 K "list" rPop (tVar i)) (gName j) D σ H := by
  obtain ⟨q, xs, ea, hn, hq, no, rr⟩ := he.now hb
  simp only at ea
  subst ea
  obtain ⟨⟨ds', d⟩, hp, p⟩ := hm
  have e1 := popL_some hp
  simp only at e1
  subst e1
  have hd : (ds' ++ [d])[xs.length - 1]? = some d := by rw [← rr.1]; simp
  obtain ⟨v, hv, rv⟩ := rr.get hd
  refine ⟨_, he.sl i _ hb, .inl ⟨rfl, xs, .of hq⟩, q, xs, v, rfl, rfl, hq, hv, ?_⟩
  have r2 : RL (fun a x => PyI.rep a x H) ds' xs.dropLast := by
    have z : RL (fun a x => PyI.rep a x H) ((ds' ++ [d]).take ds'.length) (xs.take ds'.length) := rr.take ds'.length
    rw [List.take_left' rfl] at z
    rw [List.dropLast_eq_take, ← rr.1]
    have e2 : (ds' ++ [d]).length - 1 = ds'.length := by simp
    rw [e2]
    exact z
  have he2 := he.put hb rfl (Gr.refl H) hq (o := .lst xs.dropLast) trivial (fr_ls (ds := ds') hn hq no r2)
  have rv2 : PyI.rep d v (upd H q (.lst xs.dropLast)) := PyI.keep (TupK.put hq (fun _ z => nomatch z)) rv
  exact k ds' d v _ _ (he2.set (α := α) (d := d) (Gr.refl _) (by rw [List.length_set]; exact hj) rv2) p
/-- l.append(m.pop(e)) -/
theorem x_appPop [PyI α] {i j : Nat} {ds es : List α} {a b : V} {m : Wm Int} {f : List α × α → List α → Wm ρ} {P : ρ → Prop} (he : EnvOk H0 F e σ H) (hb : e[i]? = some (some (bN (Ls.mk ds) a))) (hb2 : e[j]? = some (some (bN (Ls.mk es) b))) (ne : i ≠ j) (h : Ew te σ H m)
    (hm : Wm.bind m (fun k => Wm.bind (Wm.opt (popAtL es k)) fun z => Wm.bind (Wm.grd (ds.length < 100000) (ds ++ [z.2])) (f z)) P)
    (k : ∀ z H', EnvOk H0 F ((e.set i (some (bN (Ls.mk (ds ++ [z.2])) a))).set j (some (bN (Ls.mk z.1) b))) σ H' → f z (ds ++ [z.2]) P → D.nx σ H') : tDrop (tBM K "list" rAppend (tVar i) (tCons (tBM K "list" rPopAt (tVar j) (tCons te tNil)) tNil)) D σ H := by
  obtain ⟨l, xs, ea, hn, hq, no, rx⟩ := he.now hb
  obtain ⟨l2, ys, eb, hn2, hq2, no2, ry⟩ := he.now hb2
  simp only at ea eb
  subst ea eb
  have nel : l ≠ l2 := fun z => ne (he.nd i j _ _ l hb hb2 List.mem_cons_self (by rw [z]; exact List.mem_cons_self))
  refine ⟨_, he.sl i _ hb, .inl ⟨rfl, xs, .of hq⟩, _, he.sl j _ hb2, .inl ⟨rfl, ys, .of hq2⟩, ?_⟩
  refine h _ hm H (Gr.refl H) _ fun c v H1 ⟨⟨es', d⟩, hp, hz, p⟩ g1 rc => ?_
  have ec : v = .int c := rc
  subst ec
  unfold popAtL at hp
  split at hp
  · rename_i hc
    cases hd : es[c.toNat]? with
    | none => rw [hd] at hp; cases hp
    | some d0 =>
      rw [hd] at hp
      cases hp
      obtain ⟨y, hy, rd⟩ := ry.get hd
      have hlt := (List.getElem?_eq_some_iff.mp hd).1
      have hix : ixN ys.length c = some c.toNat := by
        unfold ixN
        have hyl : es.length = ys.length := ry.1
        have hc1 := hc.1
        rw [if_pos hc.1, if_pos (by omega)]
      have g1m := g1.lst hq2
      have g1l := g1.lst hq
      have he1 := he.mono g1
      have he2 := he1.put hb2 rfl (Gr.refl _) g1m (o := .lst (ys.eraseIdx c.toNat)) trivial (fr_ls (ds := es.eraseIdx c.toNat) hn2 g1m (fun od => no2 (g1.owned (by rw [hq2]; exact fun z => nomatch z) od)) ((RL.erase _ ry).mono fun _ _ z => PyI.keep g1.tup z))
      have hb' : (e.set j (some (bN (Ls.mk (es.eraseIdx c.toNat)) (.ref l2))))[i]? = some (some (bN (Ls.mk ds) (.ref l))) := by rw [List.getElem?_set_ne (fun z => ne z.symm)]; exact hb
      obtain ⟨l', xs', ea', hn', hq', no', rx'⟩ := he2.now hb'
      cases ea'
      have t1 : TupK H1 (upd H1 l2 (.lst (ys.eraseIdx c.toNat))) := TupK.put g1m (fun _ z => nomatch z)
      have he3 := he2.put hb' rfl (Gr.refl _) hq' (o := .lst (xs' ++ [y])) trivial (fr_ls (ds := ds ++ [d]) hn' hq' no' (rx'.snoc (PyI.keep (g1.tup.trans t1) rd)))
      have hc1 := hc.1
      have hc2 := hc.2
      have hyl : es.length = ys.length := ry.1
      refine ⟨l2, ys, c, c.toNat, y, rfl, rfl, g1m, by omega, by omega, (ixN_seq hix).1, hy, l, xs', y, rfl, rfl, hq', by rw [← rx'.1]; exact Nat.lt_of_lt_of_le hz (by decide), ?_⟩
      refine k (es.eraseIdx c.toNat, d) _ ?_ p
      rw [List.set_comm _ _ ne]
      exact he3
  · cases hp
theorem x_setL [PyI α] {i : Nat} {ds : List α} {a : V} {m : Wm α} {mj : Wm Int} {f : List α → Wm ρ} {P : ρ → Prop} (he : EnvOk H0 F e σ H) (hb : e[i]? = some (some (bN (Ls.mk ds) a))) (h : Ew te σ H m) (h' : Ew tj σ H mj) (hm : Wm.bind m (fun x => Wm.bind mj fun j => Wm.bind (Wm.opt (setL ds j x)) f) P)
    (k : ∀ ds' H', EnvOk H0 F (e.set i (some (bN (Ls.mk ds') a))) σ H' → f ds' P → D.nx σ H') : tAsg te (gSub (tVar i) tj rSetL) D σ H := by
  obtain ⟨q, xs, ea, hn, hq, no, rr⟩ := he.now hb
  simp only at ea
  subst ea
  refine h _ hm H (Gr.refl H) _ fun x v H1 pm g1 rx => ⟨_, he.sl i _ hb, h' _ pm H1 g1 _ fun j w H2 pj g2 rj => ?_⟩
  have ew : w = .int j := rj
  subst ew
  obtain ⟨ds', hs, p⟩ := pj
  unfold setL at hs
  cases hx : ixN ds.length j with
  | none => rw [hx] at hs; cases hs
  | some n =>
    rw [hx] at hs
    cases hs
    have g := g1.trans g2
    refine ⟨q, xs, j, n, rfl, rfl, g.lst hq, by rw [← rr.1]; exact hx, k _ _ (he.put hb rfl g (g.lst hq) trivial (fr_ls hn (g.lst hq) (fun od => no (g.owned (by rw [hq]; exact fun z => nomatch z) od)) ?_)) p⟩
    have r2 := rr.mono (R' := fun a x => PyI.rep a x H2) fun _ _ z => PyI.keep g.tup z
    refine ⟨by rw [List.length_set, List.length_set]; exact r2.1, fun i' d' x' hd hx' => ?_⟩
    by_cases e1 : n = i'
    · subst e1
      have l1 : n < ds.length := by have := (List.getElem?_eq_some_iff.mp hd).1; simpa using this
      rw [List.getElem?_set_self l1] at hd
      rw [List.getElem?_set_self (by rw [← rr.1]; exact l1)] at hx'
      cases hd; cases hx'
      exact PyI.keep g2.tup rx
    · rw [List.getElem?_set_ne e1] at hd hx'
      exact r2.2 i' d' x' hd hx'
theorem x_putDT [PyI β] {i : Nat} {kv : List (List Int × β)} {a : V} {mv : Wm β} {mk : Wm (List Int)} {f : List (List Int × β) → Wm ρ} {P : ρ → Prop} (he : EnvOk H0 F e σ H) (hb : e[i]? = some (some (bN (DT.mk kv) a))) (hv : Ew tv σ H mv) (hk : Ew ty σ H mk) (hm : Wm.bind mv (fun v => Wm.bind mk fun k => Wm.bind (Wm.grd (kv.length < 100000) (putD kv k v)) f) P)
    (k : ∀ kv' H', EnvOk H0 F (e.set i (some (bN (DT.mk kv') a))) σ H' → f kv' P → D.nx σ H') : sDPut (tVar i) ty tv D σ H := by
  obtain ⟨q, kvs, ea, hn, hq, no, rr⟩ := he.now hb
  simp only at ea
  subst ea
  refine hv _ hm H (Gr.refl H) _ fun b y H1 pb g1 ry => ⟨_, he.sl i _ hb, hk _ pb H1 g1 _ fun kk z H2 pk g2 rz => ?_⟩
  obtain ⟨hz, p⟩ := pk
  have g := g1.trans g2
  have hp' := g.dT hq
  obtain ⟨bb, ez, hbb⟩ := tup_at rz
  subst ez
  have hzl : kvs.length < sizeLine := by rw [← rr.1]; exact Nat.lt_of_lt_of_le hz (by decide)
  refine ⟨q, _, rfl, DPut.t hp' hbb hzl, k _ _ (he.put hb rfl g hp' trivial ?_) p⟩
  have tk : TupK H2 (upd H2 q (.dT (putK kvs (keyT kk) y))) := TupK.put hp' (fun _ z => nomatch z)
  refine ⟨q, _, rfl, hn, upd_same, fun ⟨b, C, dx, r', t, e'⟩ => no (g.owned (by rw [hq]; exact fun z => nomatch z) ⟨b, C, dx, r', t, ?_⟩), (put_KR (Py.mono g2 ry) (rr.mono fun _ _ z => z.keep g.tup)).mono fun _ _ z => z.keep tk⟩
  by_cases z : b = q
  · rw [z, upd_same] at e'; cases e'
  · rw [upd_ne z] at e'; exact e'
theorem x_putDI [PyI β] {i : Nat} {kv : List (Int × β)} {a : V} {mv : Wm β} {mk : Wm Int} {f : List (Int × β) → Wm ρ} {P : ρ → Prop} (he : EnvOk H0 F e σ H) (hb : e[i]? = some (some (bN (DI.mk kv) a))) (hv : Ew tv σ H mv) (hk : Ew ty σ H mk) (hm : Wm.bind mv (fun v => Wm.bind mk fun k => Wm.bind (Wm.grd (kv.length < 100000) (putD kv k v)) f) P)
    (k : ∀ kv' H', EnvOk H0 F (e.set i (some (bN (DI.mk kv') a))) σ H' → f kv' P → D.nx σ H') : sDPut (tVar i) ty tv D σ H := by
  obtain ⟨q, kvs, ea, hn, hq, no, rr⟩ := he.now hb
  simp only at ea
  subst ea
  refine hv _ hm H (Gr.refl H) _ fun b y H1 pb g1 ry => ⟨_, he.sl i _ hb, hk _ pb H1 g1 _ fun kk z H2 pk g2 rz => ?_⟩
  obtain ⟨hz, p⟩ := pk
  have g := g1.trans g2
  have no2 : ¬ Owned H2 q := fun od => no (g.owned (by rw [hq]; exact fun z => nomatch z) od)
  have hp' : H2 q = some (.dK kvs) := by
    rcases g.old q _ hq with z | ⟨_, z, _⟩
    · exact z
    · exact absurd z no
  have ez : z = .int kk := rz
  subst ez
  have hzl : kvs.length < sizeLine := by rw [← rr.1]; exact Nat.lt_of_lt_of_le hz (by decide)
  refine ⟨q, _, rfl, DPut.k (k := Sum.inl kk) (v := y) hp' hzl, k _ _ (he.put hb rfl g hp' trivial ?_) p⟩
  have tk : TupK H2 (upd H2 q (.dK (putK kvs (Sum.inl kk) y))) := TupK.put hp' (fun _ z => nomatch z)
  refine ⟨q, _, rfl, hn, upd_same, fun ⟨b, C, dx, r', t, e'⟩ => no2 ⟨b, C, dx, r', t, ?_⟩, (put_KRI (Py.mono g2 ry) (rr.mono fun _ _ z => z.keep g.tup)).mono fun _ _ z => z.keep tk⟩
  by_cases z : b = q
  · rw [z, upd_same] at e'; cases e'
  · rw [upd_ne z] at e'; exact e'
/-- dicts walked by their keys -/
theorem lk_at [PyI β] {i : Nat} {kv : List (List Int × β)} {od : Obj} {kvs : List (List Key × V)} {p : Addr} (he : EnvOk H0 F e σ H) (hb : e[i]? = some (some (bN (LkT.mk kv od kvs) (.ref p)))) : H p = some (.frz od (.dT kvs)) := by
  obtain ⟨q, ea, hn, hq, _⟩ := he.now hb
  cases ea; exact hq
theorem lk_open [PyI β] {i : Nat} {kv : List (List Int × β)} {od : Obj} {kvs : List (List Key × V)} {p : Addr} (he : EnvOk H0 F e σ H) (hb : e[i]? = some (some (bN (LkT.mk kv od kvs) (.ref p)))) : EnvOk H0 F (e.set i (some (bN (DT.mk kv) (.ref p)))) σ (upd H p (.dT kvs)) := by
  obtain ⟨q, ea, hn, hq, no, r⟩ := he.now hb
  cases ea
  refine he.put hb rfl (Gr.refl _) hq trivial ⟨p, kvs, rfl, hn, upd_same, fun ⟨b, C, dx, r', t, e'⟩ => no ⟨b, C, dx, r', t, ?_⟩, r.mono fun _ _ z => z.keep (TupK.put hq (fun _ z => nomatch z))⟩
  by_cases z : b = p
  · rw [z, upd_same] at e'; cases e'
  · rw [upd_ne z] at e'; exact e'
theorem lkI_at [PyI β] {i : Nat} {kv : List (Int × β)} {od : Obj} {kvs : List (Key × V)} {p : Addr} (he : EnvOk H0 F e σ H) (hb : e[i]? = some (some (bN (LkI.mk kv od kvs) (.ref p)))) : H p = some (.frz od (.dK kvs)) := by
  obtain ⟨q, ea, hn, hq, _⟩ := he.now hb
  cases ea; exact hq
theorem lkI_open [PyI β] {i : Nat} {kv : List (Int × β)} {od : Obj} {kvs : List (Key × V)} {p : Addr} (he : EnvOk H0 F e σ H) (hb : e[i]? = some (some (bN (LkI.mk kv od kvs) (.ref p)))) : EnvOk H0 F (e.set i (some (bN (DI.mk kv) (.ref p)))) σ (upd H p (.dK kvs)) := by
  obtain ⟨q, ea, hn, hq, no, r⟩ := he.now hb
  cases ea
  refine he.put hb rfl (Gr.refl _) hq trivial ⟨p, kvs, rfl, hn, upd_same, fun ⟨b, C, dx, r', t, e'⟩ => no ⟨b, C, dx, r', t, ?_⟩, r.mono fun _ _ z => z.keep (TupK.put hq (fun _ z => nomatch z))⟩
  by_cases z : b = p
  · rw [z, upd_same] at e'; cases e'
  · rw [upd_ne z] at e'; exact e'
theorem x_forDT [PyI β] {i : Nat} {kv : List (List Int × β)} {a : V} {body : List Int → S → Wm S} {s0 : S} {f : S → Wm ρ} {P : ρ → Prop} (he : EnvOk H0 F e σ H) (hb : e[i]? = some (some (bN (DT.mk kv) a))) (hm : Wm.bind (foldW body (keysD kv) s0) f P)
    (I : Bnd → S → L2.St → Hp → Prop) (h0 : ∀ L H', EnvOk H0 F (e.set i (some L)) σ H' → I L s0 σ H')
    (unl : ∀ p od kvs s σ' H', a = .ref p → I (bN (LkT.mk kv od kvs) a) s σ' H' → H' p = some (.frz od (.dT kvs)) ∧ I (bN (DT.mk kv) a) s σ' (upd H' p (.dT kvs)))
    (step : ∀ (Rt : VK) (Bk : L2.St → Hp → Prop) L d x s σ' H' (k : S → Prop) (N : L2.St → Hp → Prop), (∀ s' σ3 H4, I L s' σ3 H4 → k s' → N σ3 H4) → I L s σ' H' → Py.rep d x H' → body d s k → g x σ' H' fun σ2 H3 => tu { nx := N, rt := Rt, bk := Bk, ct := N } σ2 H3)
    (fin : ∀ s σ' H', I (bN (DT.mk kv) a) s σ' H' → f s P → D.nx σ' H') : tLock (tFor (iKeys (tVar i)) g tu) D σ H := by
  obtain ⟨p, kvs, ea, hn, hq, no, r⟩ := he.now hb
  simp only at ea
  subst ea
  have r : PL (KR H) kv kvs := r
  refine ⟨p, .dT kvs, hq, trivial, fun od => ?_⟩
  have tk0 : TupK H (upd H p (.frz od (.dT kvs))) := TupK.put hq (fun _ z => nomatch z)
  have heL : EnvOk H0 F (e.set i (some (bN (LkT.mk kv od kvs) (.ref p)))) σ (upd H p (.frz od (.dT kvs))) := he.put hb rfl (Gr.refl _) hq trivial ⟨p, rfl, hn, upd_same, fun ⟨b, C, dx, r', t, e'⟩ => no ⟨b, C, dx, r', t, by
    by_cases z : b = p
    · rw [z, upd_same] at e'; cases e'
    · rw [upd_ne z] at e'; exact e'⟩, r.mono fun _ _ z => z.keep tk0⟩
  have hi0 := he.sl i _ hb
  have hlen : (keysD kv).length = kvs.length := by unfold keysD; rw [List.length_map]; exact r.1
  have pd' : foldW body (keysD kv) s0 (fun s => f s P) := hm
  refine ⟨.ref p, hi0, p, od, rfl, .inr ⟨kvs, upd_same, fun j m σ' H' => m = kvs.length - j ∧ j ≤ kvs.length ∧ ∃ s, I (bN (LkT.mk kv od kvs) (.ref p)) s σ' H' ∧ foldW body ((keysD kv).drop j) s (fun s => f s P), ⟨kvs.length, by simp, Nat.zero_le _, s0, h0 _ _ heL, by rw [List.drop_zero]; exact pd'⟩, ?_⟩⟩
  rintro j m σ' H3 ⟨rfl, hj, s, hI, hf⟩
  obtain ⟨hp3, hI2⟩ := unl p od kvs s σ' H3 rfl hI
  by_cases hlt : j < kvs.length
  · have hd : (keysD kv)[j]? = some (keysD kv)[j] := by simp [hlen, hlt]
    have hdr : (keysD kv).drop j = (keysD kv)[j] :: (keysD kv).drop (j + 1) := List.drop_eq_getElem_cons (by omega)
    rw [hdr] at hf
    refine .inr ⟨⟨hp3, hlt⟩, fun σ4 H4 => ∃ s', I (bN (LkT.mk kv od kvs) (.ref p)) s' σ4 H4 ∧ foldW body ((keysD kv).drop (j + 1)) s' (fun s => f s P), fun σ4 H4 ⟨s', hI', hf'⟩ => ⟨kvs.length - (j + 1), by omega, rfl, hlt, s', hI', hf'⟩, fun x H4 hyl => ?_⟩
    obtain ⟨e4, k, v, b, hk, ex, hb'⟩ := hyl
    subst e4 ex
    have hk2 : k = keyT (keysD kv)[j] := by
      have hd2 : kv[j]? = some (kv[j]'(by rw [r.1]; exact hlt)) := by simp [r.1, hlt]
      refine (r.2 j _ _ hd2 hk).1.trans ?_
      simp [keysD]
    rw [hk2] at hb'
    exact step _ _ _ _ _ s σ' H4 (fun s' => foldW body ((keysD kv).drop (j + 1)) s' (fun s => f s P)) _ (fun s' σ3 H4 a b => ⟨s', a, b⟩) hI (rep_key hb') hf
  · have e : j = kvs.length := by omega
    subst e
    rw [← hlen, List.drop_length] at hf
    exact .inl ⟨⟨hp3, Nat.le_refl _⟩, hp3, fin s σ' _ hI2 hf⟩
theorem x_forDI [PyI β] {i : Nat} {kv : List (Int × β)} {a : V} {body : Int → S → Wm S} {s0 : S} {f : S → Wm ρ} {P : ρ → Prop} (he : EnvOk H0 F e σ H) (hb : e[i]? = some (some (bN (DI.mk kv) a))) (hm : Wm.bind (foldW body (keysD kv) s0) f P)
    (I : Bnd → S → L2.St → Hp → Prop) (h0 : ∀ L H', EnvOk H0 F (e.set i (some L)) σ H' → I L s0 σ H')
    (unl : ∀ p od kvs s σ' H', a = .ref p → I (bN (LkI.mk kv od kvs) a) s σ' H' → H' p = some (.frz od (.dK kvs)) ∧ I (bN (DI.mk kv) a) s σ' (upd H' p (.dK kvs)))
    (step : ∀ (Rt : VK) (Bk : L2.St → Hp → Prop) L d x s σ' H' (k : S → Prop) (N : L2.St → Hp → Prop), (∀ s' σ3 H4, I L s' σ3 H4 → k s' → N σ3 H4) → I L s σ' H' → Py.rep d x H' → body d s k → g x σ' H' fun σ2 H3 => tu { nx := N, rt := Rt, bk := Bk, ct := N } σ2 H3)
    (fin : ∀ s σ' H', I (bN (DI.mk kv) a) s σ' H' → f s P → D.nx σ' H') : tLock (tFor (iKeys (tVar i)) g tu) D σ H := by
  obtain ⟨p, kvs, ea, hn, hq, no, r⟩ := he.now hb
  simp only at ea
  subst ea
  have r : PL (KRI H) kv kvs := r
  refine ⟨p, .dK kvs, hq, trivial, fun od => ?_⟩
  have tk0 : TupK H (upd H p (.frz od (.dK kvs))) := TupK.put hq (fun _ z => nomatch z)
  have heL : EnvOk H0 F (e.set i (some (bN (LkI.mk kv od kvs) (.ref p)))) σ (upd H p (.frz od (.dK kvs))) := he.put hb rfl (Gr.refl _) hq trivial ⟨p, rfl, hn, upd_same, fun ⟨b, C, dx, r', t, e'⟩ => no ⟨b, C, dx, r', t, by
    by_cases z : b = p
    · rw [z, upd_same] at e'; cases e'
    · rw [upd_ne z] at e'; exact e'⟩, r.mono fun _ _ z => z.keep tk0⟩
  have hi0 := he.sl i _ hb
  have hlen : (keysD kv).length = kvs.length := by unfold keysD; rw [List.length_map]; exact r.1
  have pd' : foldW body (keysD kv) s0 (fun s => f s P) := hm
  refine ⟨.ref p, hi0, p, od, rfl, .inl ⟨kvs, upd_same, fun j m σ' H' => m = kvs.length - j ∧ j ≤ kvs.length ∧ ∃ s, I (bN (LkI.mk kv od kvs) (.ref p)) s σ' H' ∧ foldW body ((keysD kv).drop j) s (fun s => f s P), ⟨kvs.length, by simp, Nat.zero_le _, s0, h0 _ _ heL, by rw [List.drop_zero]; exact pd'⟩, ?_⟩⟩
  rintro j m σ' H3 ⟨rfl, hj, s, hI, hf⟩
  obtain ⟨hp3, hI2⟩ := unl p od kvs s σ' H3 rfl hI
  by_cases hlt : j < kvs.length
  · have hd : (keysD kv)[j]? = some (keysD kv)[j] := by simp [hlen, hlt]
    have hdr : (keysD kv).drop j = (keysD kv)[j] :: (keysD kv).drop (j + 1) := List.drop_eq_getElem_cons (by omega)
    rw [hdr] at hf
    refine .inr ⟨⟨hp3, hlt⟩, fun σ4 H4 => ∃ s', I (bN (LkI.mk kv od kvs) (.ref p)) s' σ4 H4 ∧ foldW body ((keysD kv).drop (j + 1)) s' (fun s => f s P), fun σ4 H4 ⟨s', hI', hf'⟩ => ⟨kvs.length - (j + 1), by omega, rfl, hlt, s', hI', hf'⟩, fun x H4 hyl => ?_⟩
    obtain ⟨e4, k, w, hk, ex⟩ := hyl
    subst e4 ex
    have hd2 : kv[j]? = some (kv[j]'(by rw [r.1]; exact hlt)) := by simp [r.1, hlt]
    have hk2 : kV k = V.int (keysD kv)[j] := by
      have := (r.2 j _ _ hd2 hk).1
      rw [show k = Sum.inl (kv[j]'(by rw [r.1]; exact hlt)).1 from this]
      simp [keysD, kV]
    exact step _ _ _ _ _ s σ' H4 (fun s' => foldW body ((keysD kv).drop (j + 1)) s' (fun s => f s P)) _ (fun s' σ3 H4 a b => ⟨s', a, b⟩) hI hk2 hf
  · have e : j = kvs.length := by omega
    subst e
    rw [← hlen, List.drop_length] at hf
    exact .inl ⟨⟨hp3, Nat.le_refl _⟩, hp3, fin s σ' _ hI2 hf⟩
end
end Zw
/-! Y6: what the printer names. -/
namespace Zw
open PySem L2 RZ PySem.Spec PyProof.Rows SrtO
def Ini : EnvT → L2.St → Hp → Prop
  | [], [], _ => True
  | none :: e, _ :: σ, H => Ini e σ H
  | some b :: e, x :: σ, H => x = some b.v ∧ b.own = false ∧ b.py.rep b.d b.v H ∧ Ini e σ H
  | _, _, _ => False
theorem ini_at : ∀ {e : EnvT} {σ : L2.St} {H : Hp}, Ini e σ H → σ.length = e.length ∧ ∀ (i : Nat) (b : Bnd), e[i]? = some (some b) → σ[i]? = some (some b.v) ∧ b.own = false ∧ b.py.rep b.d b.v H
  | [], [], _, _ => ⟨rfl, fun i b h => by simp at h⟩
  | [], _ :: _, _, h => h.elim
  | none :: e, [], _, h => h.elim
  | some b :: e, [], _, h => h.elim
  | none :: e, x :: σ, H, h => by
    obtain ⟨h1, h2⟩ := ini_at (e := e) (σ := σ) h
    refine ⟨by simp [h1], fun i b hb => ?_⟩
    cases i with
    | zero => simp at hb
    | succ i => exact h2 i b (by simpa using hb)
  | some b0 :: e, x :: σ, H, h => by
    obtain ⟨a1, a2, a3, a4⟩ := h
    obtain ⟨h1, h2⟩ := ini_at (e := e) (σ := σ) a4
    refine ⟨by simp [h1], fun i b hb => ?_⟩
    cases i with
    | zero => simp at hb; subst hb; exact ⟨by rw [a1]; rfl, a2, a3⟩
    | succ i => exact h2 i b (by simpa using hb)
theorem env0 {e : EnvT} {σ : L2.St} {H : Hp} (h : Ini e σ H) (n : Neat H) : EnvOk H (fun _ => True) e σ H := by
  obtain ⟨h1, h2⟩ := ini_at h
  have no : ∀ (i : Nat) (b : Bnd), e[i]? = some (some b) → b.foot = [] := fun i b hb => by unfold Bnd.foot; rw [(h2 i b hb).2.1]
  have nown : ∀ a, ¬ OwnA e a := fun a ⟨j, b, hb, m⟩ => by rw [no j b hb] at m; simp at m
  refine ⟨h1, fun i b hb => (h2 i b hb).1, fun i b hb H' m => ?_, fun a h => absurd h (nown a), fun a h => absurd h (nown a), fun i j b b' a hb hb' m => by rw [no i b hb] at m; simp at m, fun _ _ => trivial, n, fun H' m => ?_⟩
  · have g : Gr H H' := Mx.gr (m.mono (fun _ z => z.elim) fun a _ z => nown a z.own)
    have := b.py.arob g (h2 i b hb).2.2
    unfold Bnd.ok
    rw [(h2 i b hb).2.1]
    exact this
  · exact Mx.gr (m.mono (fun _ z => z.elim) fun a _ z => nown a z)
section
variable {K : PySem.W.Frag} {H0 H H1 H' : Hp} {F : Hp → Prop} {e : EnvT} {σ : L2.St} {ta tb tc td te tl ty tv tj : TE} {t u tt : TT} {tu tw tz : TS} {D : Ends} {g : TG} {α β γ δ ρ S R : Type} {E : XK}
theorem n_of (h : tz D σ H) : tNext { D with nx := tz D } σ H := h
theorem ev_inI {i : Int} {l : List Int} (ha : Ev ta σ H i) (hb : Ev tb σ H l) : Ev (tOp (rIn K false) ta tb) σ H (decide (i ∈ l)) := ev_is (ev_inIT (neg := false) ha hb) (by simp)
theorem ev_ninI {i : Int} {l : List Int} (ha : Ev ta σ H i) (hb : Ev tb σ H l) : Ev (tOp (rIn K true) ta tb) σ H (!decide (i ∈ l)) := ev_is (ev_inIT (neg := true) ha hb) (by simp)
theorem ev_inLI {i : Int} {l : List Int} (ha : Ev ta σ H i) (hb : Ev tb σ H (Ls.mk l)) : Ev (tOp (rIn K false) ta tb) σ H (decide (i ∈ l)) := ev_is (ev_inIL (neg := false) ha hb) (by simp)
theorem ev_ninLI {i : Int} {l : List Int} (ha : Ev ta σ H i) (hb : Ev tb σ H (Ls.mk l)) : Ev (tOp (rIn K true) ta tb) σ H (!decide (i ∈ l)) := ev_is (ev_inIL (neg := true) ha hb) (by simp)
theorem ev_inTD [PyI α] [PyDI α] [DecidableEq α] {a : α} {l : List α} (ha : Ev ta σ H a) (hb : Ev tb σ H l) (hd : PyDI.dm α ≤ 63 := by decide) : Ev (tOp (rInDT K false) ta tb) σ H (decide (a ∈ l)) := ev_is (ev_inT (neg := false) ha hb hd) (by simp)
theorem ev_ninTD [PyI α] [PyDI α] [DecidableEq α] {a : α} {l : List α} (ha : Ev ta σ H a) (hb : Ev tb σ H l) (hd : PyDI.dm α ≤ 63 := by decide) : Ev (tOp (rInDT K true) ta tb) σ H (!decide (a ∈ l)) := ev_is (ev_inT (neg := true) ha hb hd) (by simp)
theorem ev_castPT [PyI α] {a : α × α} (h : Ev te σ H a) : Ev te σ H ([a.1, a.2] : List α) := ev_cast h fun v H' r => pair_list r
theorem ev_castTN [PyI α] {a : List α} (h : Ev te σ H a) : Ev te σ H (TupN.mk a.length) := ev_cast h fun v H' r => tupN_list r
theorem ev_castPN [PyI α] [PyI β] {a : α × β} (h : Ev te σ H a) : Ev te σ H (TupN.mk 2) := ev_cast h fun v H' r => tupN_pair r
theorem ew_pairL {l : List Int} (h : Ev te σ H l) : Ew te σ H (Wm.opt (pairL l)) := fun P ⟨z, hz, p⟩ => ed_cast h fun a v H' e r => by
  subst e
  unfold pairL at hz
  split at hz
  · cases hz
    exact ⟨_, p, list2_pair r⟩
  · cases hz
theorem ew_mul {i j : Int} (ha : Ev ta σ H i) (hb : Ev tb σ H j) : Ew (tOp (rI CMul fun i j => .int (i * j)) ta tb) σ H (Wm.grd (CMul i j) (i * j)) := fun P ⟨hc, p⟩ => (ev_mul ha hb hc).imp fun d e => by rw [e]; exact p
theorem ew_fdiv {i j : Int} (ha : Ev ta σ H i) (hb : Ev tb σ H j) : Ew (tOp (rI CDivN fun i j => .int (i.fdiv j)) ta tb) σ H (Wm.grd (CDivN i j) (i.fdiv j)) := fun P ⟨hc, p⟩ => (ev_fdiv ha hb hc).imp fun d e => by rw [e]; exact p
theorem ew_mod {i j : Int} (ha : Ev ta σ H i) (hb : Ev tb σ H j) : Ew (tOp (rI (fun _ j => j ≠ 0) fun i j => .int (i.fmod j)) ta tb) σ H (Wm.grd (j ≠ 0) (i.fmod j)) := fun P ⟨hc, p⟩ => (ev_mod ha hb hc).imp fun d e => by rw [e]; exact p
theorem ew_catT [PyI α] {a b : List α} (ha : Ev ta σ H a) (hb : Ev tb σ H b) : Ew (tOp (rCatA K) ta tb) σ H (Wm.grd (a.length + b.length ≤ 100000) (a ++ b)) := fun P ⟨hc, p⟩ => (ev_catT ha hb hc).imp fun d e => by rw [e]; exact p
theorem ew_tup [PyI α] {ds : List α} {tr : TA} (h : EvA tr σ H (AllI ds)) : Ew (tTup tr) σ H (Wm.grd (ds.length ≤ 100000) ds) := fun P ⟨hc, p⟩ => (ev_tup h hc).imp fun d e => by rw [e]; exact p
theorem ew_tupRg1 {n : Int} (h : Ev te σ H n) : Ew (tTupRg (tRg1 te)) σ H (Wm.grd (-100000 ≤ n ∧ n ≤ 100000) (rngI 0 n.toNat)) := fun P ⟨hc, p⟩ => (ev_tupRg1 h hc).imp fun d e => by rw [e]; exact p
theorem th1_lstRg1 : Th1 (fun t => tLstRg (tRg1 t)) := fun _ _ _ _ h => h
theorem th1_tupRg1 : Th1 (fun t => tTupRg (tRg1 t)) := fun _ _ _ _ h => h
theorem ev_pairc {K : PySem.W.Frag} [PyI α] [PyI β] {a : α} {b : β} (h : Ev ta σ H a) (h' : Ev tb σ H b) : Ev (tTup (tCons ta (tCons tb tNil))) σ H (a, b) := ev_pair h h'
/-- promises of a fixed value -/
theorem imp_w1 {P : Program} {w : World} {mg : Str → Option Value} {base : Heap} {k : Nat} {fa : Addr} {fd : FuncData} {ps : List Str} [Py α] [PyI γ] {pre : α → Prop} {m : α → γ} (G : FnOk P w K mg base CX0 k fa fd ps (Sp1 pre fun a d => d = m a)) : FnOk P w K mg base CX0 k fa fd ps (SpW1 fun a => Wm.grd (pre a) (m a)) :=
  G.imp fun vs H Q E ⟨_, v, a, ev, ra, P, ⟨hp, pm⟩, k⟩ => ⟨v, a, ev, ra, hp, fun d w H' e g r => k d w H' (by rw [e]; exact pm) g r⟩
theorem imp_w2 {P : Program} {w : World} {mg : Str → Option Value} {base : Heap} {k : Nat} {fa : Addr} {fd : FuncData} {ps : List Str} [Py α] [Py β] [PyI γ] {pre : α → β → Prop} {Po : α → β → γ → Prop} (G : FnOk P w K mg base CX0 k fa fd ps (Sp2 pre Po)) : FnOk P w K mg base CX0 k fa fd ps (SpW2 fun a b P => pre a b ∧ ∀ d, Po a b d → P d) :=
  G.imp fun vs H Q E ⟨_, v, v', a, b, ev, ra, rb, P, ⟨hp, pm⟩, k⟩ => ⟨v, v', a, b, ev, ra, rb, hp, fun d w H' e g r => k d w H' (pm d e) g r⟩
end
end Zw
/-! Y7: one of two kinds; None or not; pairs that are keys; a dict of one entry. -/
namespace Zw
open PySem L2 RZ PySem.Spec PyProof.Rows SrtO
instance instSumI {α β : Type} [PyI α] [PyI β] : PyI (α ⊕ β) := ⟨fun d v H => match d with | .inl a => PyI.rep a v H | .inr b => PyI.rep b v H,
  fun {d v H H'} k h => by cases d with | inl a => exact PyI.keep k h | inr b => exact PyI.keep k h⟩
instance {K : PySem.W.Frag} : PyR (Scr K) where
  fr := fun _ _ _ _ => False
  frep := fun h => h.elim
  frmono := fun _ h => h.elim
  frpre := fun _ h => h.elim
  frob := fun h _ _ => h.elim
  foot := fun _ => []
  ffoot := fun h => h.elim
  arob := fun g h => Py.mono g h
section
variable {K : PySem.W.Frag} {H0 H H1 H' : Hp} {F : Hp → Prop} {e : EnvT} {σ : L2.St} {ta tb tc td te tl ty tv tj : TE} {t u tt : TT} {tu tw tz : TS} {D : Ends} {g : TG} {α β γ δ ρ S R : Type} {E : XK}
theorem e_of {X B C : L2.St → Hp → Prop} {Rt : VK} (h : X σ H) : Ends.nx ⟨X, Rt, B, C⟩ σ H := h
theorem ev_inl [PyI α] [PyI β] {a : α} (h : Ev te σ H a) : Ev te σ H (Sum.inl a : α ⊕ β) := ev_cast h fun v H' r => r
theorem ev_inr [PyI α] [PyI β] {a : β} (h : Ev te σ H a) : Ev te σ H (Sum.inr a : α ⊕ β) := ev_cast h fun v H' r => r
theorem ew_getl [PyI α] [PyI β] {a : α ⊕ β} (h : Ev te σ H a) : Ew te σ H (Wm.opt a.getLeft?) := fun P ⟨z, hz, p⟩ => ed_cast h fun a' v H' e r => by
  subst e
  cases a' with
  | inl x => cases hz; exact ⟨_, p, r⟩
  | inr x => cases hz
theorem ew_getr [PyI α] [PyI β] {a : α ⊕ β} (h : Ev te σ H a) : Ew te σ H (Wm.opt a.getRight?) := fun P ⟨z, hz, p⟩ => ed_cast h fun a' v H' e r => by
  subst e
  cases a' with
  | inr x => cases hz; exact ⟨_, p, r⟩
  | inl x => cases hz
/-- None or a thing -/
theorem ev_noneO [PyI α] : Ev (tC .non) σ H (none : Option α) := ev_c rfl
theorem ev_someO [PyI α] [NN α] {a : α} (h : Ev te σ H a) : Ev te σ H (some a) := fun H1 g Q q => h H1 g Q fun d v H2 e g2 r => q (some a) v H2 rfl g2 (by subst e; exact ⟨NN.nn r, r⟩)
theorem ew_getO [PyI α] {a : Option α} (h : Ev te σ H a) : Ew te σ H (Wm.opt a) := fun P ⟨z, hz, p⟩ => ed_cast h fun a' v H' e r => by
  subst e
  subst hz
  exact ⟨_, p, r.2⟩
/-- for (a, b) in a dict of pairs -/
theorem tg_pairK {i j : Nat} {d : List Int} {x : V} {Q : L2.St → Hp → Prop} {f : Int × Int → Wm ρ} {P : ρ → Prop} (he : EnvOk H0 F e σ H) (hi : i < e.length) (hj : j < e.length) (r : Py.rep d x H) (hm : Wm.bind (Wm.opt (pairL d)) f P) (k : ∀ a b v w σ2, EnvOk H0 F ((e.set i (some (bN a v))).set j (some (bN b w))) σ2 H → f (a, b) P → Q σ2 H) : gTup K 2 (gCons (gName i) (gCons (gName j) gNil)) x σ H Q := by
  obtain ⟨z, hz, p⟩ := hm
  unfold pairL at hz
  split at hz
  · rename_i a b
    cases hz
    have r2 : Py.rep (a, b) x H := list2_pair r
    exact gTup2 r2 fun y z r1 r2 => k a b y z _ ((he.set (Gr.refl H) hi (show PyR.fr H a y H from r1)).set (Gr.refl H) (by rw [List.length_set]; exact hj) (show PyR.fr H b z H from r2)) p
  · cases hz
theorem ewF_dispT1 [PyI β] {k : List Int} {b : β} (n : Neat H) (hk : Ev ty σ H k) (hv : Ev tv σ H b) : EwF (tDispT1 ty tv) σ H (Wm.ret (DT.mk [(k, b)])) := fun P pp H1 g Q q p hp => by
  refine hk _ (g.trans (Gr.new hp)) _ fun k' y H2 ek g2 ry => hv H2 (g.trans ((Gr.new hp).trans g2)) _ fun b' z H3 eb g3 rz => ?_
  subst ek eb
  have g13 : Gr (upd H1 p (.dT [])) H3 := g2.trans g3
  obtain ⟨b0, ey, hb0⟩ := tup_at (Py.mono g3 ry)
  have hp3 : H3 p = some (.dT []) := g13.dT upd_same
  have no1 : ¬ Owned (upd H1 p (.dT [])) p := no_owned_new (g.neat n) hp (by intro _ _ _ _ _ z; cases z)
  refine ⟨keyT k', b0, ey, hb0, hp3, q _ _ _ pp ?_ ?_⟩
  · exact ((Gr.new hp).trans g13).mut hp hp3 (fun _ z => nomatch z)
  · refine ⟨p, _, rfl, hp, upd_same, fun ⟨a, C, dx, r', t, e'⟩ => no1 (g13.owned (by rw [upd_same]; exact fun z => nomatch z) ⟨a, C, dx, r', t, ?_⟩), PL.cons ⟨rfl, PyI.keep (TupK.put hp3 (fun _ z => nomatch z)) rz⟩ PL.nil⟩
    by_cases z : a = p
    · rw [z, upd_same] at e'; cases e'
    · rw [upd_ne z] at e'; exact e'
/-- n = [.. for k in d ..] -/
theorem x_lcDI [PyI β] [PyR γ] {i j n : Nat} {vs : List Nat} {kv : List (Int × β)} {a : V} {tt : TT} {t : Int → Wm Bool} {v : Int → Wm γ} {f : Ls γ → Wm ρ} {P : ρ → Prop} (he : EnvOk H0 F e σ H) (hb : e[i]? = some (some (bN (DI.mk kv) a))) (hj : j < e.length) (hn : n < e.length) (hin : i ≠ n) (hw : j ∈ vs)
    (ht : ∀ L d x σ' H', EnvR ((wipeE (e.set i (some L)) vs).set j (some (bG d x))) σ' H' → EwT tt σ' H' (t d)) (hv : ∀ L d x σ' H', EnvR ((wipeE (e.set i (some L)) vs).set j (some (bG d x))) σ' H' → EwF te σ' H' (v d))
    (hm : Wm.bind (lcW t v (keysD kv)) f P) (k : ∀ l w σ' H', EnvOk H0 F (e.set n (some (bN l w))) σ' H' → f l P → D.nx σ' H') : tLock (tAsg (tLc (iKeys (tVar i)) (gName j) tt te vs) (gName n)) D σ H := by
  obtain ⟨p, kvs, ea, hn0, hq, no, r⟩ := he.now hb
  simp only at ea
  subst ea
  have r : PL (KRI H) kv kvs := r
  refine ⟨p, .dK kvs, hq, trivial, fun od => ?_⟩
  have tk0 : TupK H (upd H p (.frz od (.dK kvs))) := TupK.put hq (fun _ z => nomatch z)
  have hi : i < e.length := (List.getElem?_eq_some_iff.mp hb).1
  have heL : EnvOk H0 F (e.set i (some (bN (LkI.mk kv od kvs) (.ref p)))) σ (upd H p (.frz od (.dK kvs))) := he.put hb rfl (Gr.refl _) hq trivial ⟨p, rfl, hn0, upd_same, fun ⟨b, C, dx, r', t, e'⟩ => no ⟨b, C, dx, r', t, by
    by_cases z : b = p
    · rw [z, upd_same] at e'; cases e'
    · rw [upd_ne z] at e'; exact e'⟩, r.mono fun _ _ z => z.keep tk0⟩
  have hi0 := he.sl i _ hb
  have hlen : (keysD kv).length = kvs.length := by unfold keysD; rw [List.length_map]; exact r.1
  have src : SrcC (α := Int) (iKeys (tVar i)) σ (upd H p (.frz od (.dK kvs))) (Wm.ret (keysD kv)) := fun P pp H1 g R q => by
    refine ⟨.ref p, hi0, p, od, rfl, .inl ⟨kvs, g.at upd_same (fun z => nomatch z), q _ _ H1 pp (Gr.refl _) ⟨fun H2 g2 => ⟨(g.trans g2).at upd_same (fun z => nomatch z), by rw [hlen]; exact Nat.le_refl _⟩, fun H2 g2 m d hd => ?_⟩⟩⟩
    have hm := (List.getElem?_eq_some_iff.mp hd).1
    rw [hlen] at hm
    refine ⟨⟨(g.trans g2).at upd_same (fun z => nomatch z), hm⟩, fun x H4 ⟨e4, k', w', hk, ex⟩ => ?_⟩
    subst e4 ex
    refine ⟨Gr.refl _, ?_⟩
    have hx : (kvs.map fun kv => kV kv.1)[m]? = some (kV k') := by rw [List.getElem?_map, hk]; rfl
    exact (keysI_RL (H' := H4) r).2 m d _ hd hx
  refine ewF_lcN (β := γ) heL.r src (by rw [List.length_set]; exact hj) hw (fun d x σ' H' h => ht _ d x σ' H' h) (fun d x σ' H' h => hv _ d x σ' H' h) (fun l => f l P) hm _ (Gr.refl _) _ fun l w H2 pl g2 fr => ?_
  have he3 := heL.set g2 (i := n) (by rw [List.length_set]; exact hn) fr
  have hb3 : ((e.set i (some (bN (LkI.mk kv od kvs) (.ref p)))).set n (some (bN l w)))[i]? = some (some (bN (LkI.mk kv od kvs) (.ref p))) := by
    rw [List.getElem?_set_ne (Ne.symm hin), List.getElem?_set_self hi]
  refine ⟨lkI_at he3 hb3, k l w _ _ ?_ pl⟩
  have h4 := lkI_open he3 hb3
  rw [List.set_comm _ _ (Ne.symm hin), List.set_set] at h4
  have e5 : e.set i (some (bN (DI.mk kv) (.ref p))) = e := by
    refine List.ext_getElem? fun m => ?_
    by_cases e1 : i = m
    · subst e1; rw [List.getElem?_set_self hi, hb]
    · rw [List.getElem?_set_ne e1]
  rw [e5] at h4
  exact h4
end
end Zw
/-! Z26: sorted(set(..)) as an expression. -/
namespace Zw
open PySem L2 RZ PySem.Spec PyProof.Rows SrtO PySem.SeqAt Ob
def rSetOfL (w : World) : List V → Hp → VK → Prop := fun vs H Q => ∃ (a : Addr) (ns : List Int), vs = [V.ref a] ∧ H a = some (.lst (ns.map V.int)) ∧ ns.length + 1 < scanBound ∧ ∀ p c, c ≤ ns.length → H p = none → Q (.ref p) (upd H p (SetO w p (fun j => decide (j ∈ ns)) c))
theorem cr_setOfL {X : Cx} (hc : X.calm = true) : CallR X (.type "set") (rSetOfL X.w) := by
  intro pins s σ H vs us Q I r q
  obtain ⟨a, ns, rfl, ha, hb, q⟩ := q
  rw [Vals.ref1 r]
  obtain ⟨_, its, n, rv, ho⟩ := I.hok a _ ha
  have hl : s.heap.IsList a its.toArray := ⟨_, ho, rfl, n, rfl⟩
  refine set_of_list (I.ok.hd hc) hl (by simpa using Vals.ints rv) hb fun s' ⟨h', tk, c, e, hS, hcn, k⟩ => ?_
  subst e
  exact ⟨.ref _, upd H s.heap.objs.size (SetO X.w s.heap.objs.size (fun j => decide (j ∈ ns)) c), I.laid (t' := tk) k (Nat.le_refl _) (setO_new hS), rfl, q _ c hcn (I.hok.fresh (Nat.le_refl _))⟩
/-- without what stands twice -/
def ddI : List Int → List Int
  | [] => []
  | x :: l => if x ∈ l then ddI l else x :: ddI l
theorem mem_ddI {x : Int} : ∀ {l : List Int}, x ∈ ddI l ↔ x ∈ l
  | [] => Iff.rfl
  | y :: l => by
    unfold ddI
    split
    · rename_i h
      rw [mem_ddI, List.mem_cons]
      exact ⟨.inr, fun z => z.elim (fun e => e ▸ h) id⟩
    · rw [List.mem_cons, List.mem_cons, mem_ddI]
theorem nodup_ddI : ∀ l : List Int, (ddI l).Nodup
  | [] => List.nodup_nil
  | y :: l => by
    unfold ddI
    split
    · exact nodup_ddI l
    · rename_i h
      exact List.nodup_cons.mpr ⟨fun m => h (mem_ddI.mp m), nodup_ddI l⟩
def sset (l : List Int) : List Int := sortO (ddI l)
theorem sset_uniq {l ns : List Int} (h : ns.Pairwise (· < ·)) (hm : ∀ x, x ∈ ns ↔ x ∈ l) : ns = sset l := by
  refine sortO_eq (h.imp fun {a b} z => by show decide (b < a) = false; exact decide_eq_false (by omega)) ?_
  exact (List.perm_ext_iff_of_nodup (h.imp fun {a b} z => by omega) (nodup_ddI l)).mpr fun x => by rw [hm, mem_ddI]
theorem mem_sset {l : List Int} {x : Int} : x ∈ sset l ↔ x ∈ l := by unfold sset; rw [(sortO_perm _).mem_iff, mem_ddI]
theorem sset_lt (l : List Int) : (sset l).Pairwise (· < ·) := by
  have h1 : (sset l).Nodup := (sortO_perm (ddI l)).nodup_iff.mpr (nodup_ddI l)
  have h2 : (sset l).Pairwise (· ≤ ·) := (sortO_srtd (ddI l)).imp fun {a b} z => by
    have : decide (b < a) = false := z
    have := of_decide_eq_false this
    omega
  exact L2.lt_of_le_nodup _ h2 h1
section
variable {H : Hp} {σ : L2.St} {te : TE} {w : World}
theorem ewF_sset {l : List Int} (n : Neat H) (h : Ev te σ H (Ls.mk l)) : EwF (tCB (rSortedSet w) (tCons (tCB (rSetOfL w) (tCons te tNil)) tNil)) σ H (Wm.grd (l.length < 63) (Ls.mk (sset l))) := fun P ⟨hl, pp⟩ H1 g Q q => h H1 g _ fun d v H2 e g2 ⟨a, xs, ev, ha, r⟩ => by
  subst e
  have es := RL.eq_map (f := V.int) r
  subst es
  refine ⟨a, l, by rw [ev], ha, by have : scanBound = scanBound := rfl; unfold scanBound; omega, fun p c hc hp => ⟨p, _, c, rfl, upd_same, by omega, fun ns p2 hs hm _ hp2 => ?_⟩⟩
  have gs : Gr H2 (upd H2 p (SetO w p (fun j => decide (j ∈ l)) c)) := Gr.new hp (by intro _ _ _ _ _ z; unfold SetO at z; cases z)
  have en : ns = sset l := sset_uniq hs fun x => by rw [hm]; simp
  subst en
  exact q (Ls.mk (sset l)) _ _ pp ((g2.trans gs).trans (Gr.new hp2)) ⟨p2, _, rfl, (g2.trans gs).back hp2, upd_same, no_owned_new ((g.trans (g2.trans gs)).neat n) hp2 (by intro _ _ _ _ _ z; cases z), RL.map fun _ _ => rfl⟩
end
end Zw
/-! Y8: lists of lists changed in place; three at a time; a dict display. -/
namespace Zw
open PySem L2 RZ PySem.Spec PyProof.Rows SrtO PySem.SeqAt Ob
section
variable {H0 H H' : Hp} {F F' : Hp → Prop} {e e' : EnvT} {σ : L2.St}
/-- what is one's own changes in place -/
theorem EnvOk.put2 {α β : Type} [PyR α] [PyR β] {i : Nat} {d : α} {d' : β} {a : Addr} {o u : HO} {H1 : Hp} (he : EnvOk H0 F e σ H) (hb : e[i]? = some (some (bN d (.ref a)))) (hf : PyR.foot α (.ref a) = [a]) (g : Gr H H1) (h1 : H1 a = some u) (mo : MutO o) (hf2 : PyR.foot β (.ref a) = [a]) (r : Rob (OthA e i) (fun H => PyR.fr H0 d' (.ref a) H) (upd H1 a o)) :
    EnvOk H0 F (e.set i (some (bN d' (.ref a)))) σ (upd H1 a o) := by
  have he := he.mono g
  have hi : i < e.length := (List.getElem?_eq_some_iff.mp hb).1
  have fa : a ∈ (bN d (.ref a)).foot := by show a ∈ PyR.foot α (.ref a); rw [hf]; exact List.mem_cons_self
  have fb : (bN d' (.ref a)).foot = [a] := hf2
  have oa : OwnA e a := ⟨i, _, hb, fa⟩
  have key : ∀ (j : Nat) (b : Bnd), (e.set i (some (bN d' (.ref a))))[j]? = some (some b) → (j = i ∧ b = bN d' (.ref a)) ∨ (j ≠ i ∧ e[j]? = some (some b)) := fun j b h => by
    rw [List.getElem?_set] at h
    split at h
    · rename_i e1
      have h2 : some (some (bN d' (.ref a))) = some (some b) := by simpa [hi] using h
      cases h2
      exact .inl ⟨e1.symm, rfl⟩
    · rename_i e1
      exact .inr ⟨fun z => e1 z.symm, h⟩
  have ko : ∀ c, OwnA (e.set i (some (bN d' (.ref a)))) c → OwnA e c := fun c ⟨j, b, h, m⟩ => by
    rcases key j b h with ⟨_, e2⟩ | ⟨_, h⟩
    · subst e2; rw [fb] at m; rw [List.mem_singleton.mp m]; exact oa
    · exact ⟨j, b, h, m⟩
  have mx : Mx (OwnA e) H1 (upd H1 a o) := Mx.put he.kdo oa h1 mo
  refine ⟨by rw [List.length_set]; exact he.len, fun j b h => ?_, fun j b h => ?_, fun c h => ?_, fun c h => he.nw c (ko c h), fun j k b b' c h h' m m' => ?_, he.fr.mx mx fun c _ h => ko c h, mx.neat he.ne, he.gr.mx mx fun c _ h => ko c h⟩
  · rcases key j b h with ⟨e1, e2⟩ | ⟨n, h⟩
    · subst e1 e2; have q := he.sl j _ hb; exact q
    · exact he.sl j b h
  · rcases key j b h with ⟨e1, e2⟩ | ⟨n, h⟩
    · subst e1 e2
      refine fun H' m => r H' (m.mono (fun c hc => MutA.mx mx (he.kd c hc.own).1 (he.kd c hc.own).2) fun c _ ⟨k, b', nk, hk, mm⟩ => ?_)
      rcases key k b' hk with ⟨z, _⟩ | ⟨_, hk⟩
      · exact absurd z nk
      · exact ⟨k, b', nk, hk, mm⟩
    · have mxj : Mx (OthA e j) H1 (upd H1 a o) := Mx.put (he.kdi j) ⟨i, _, fun z => n z.symm, hb, fa⟩ h1 mo
      refine (he.rb j b h).mx mxj fun c _ ⟨k, b', nk, hk, mm⟩ => ?_
      rcases key k b' hk with ⟨e1, e2⟩ | ⟨_, hk⟩
      · subst e1 e2; rw [fb] at mm; rw [List.mem_singleton.mp mm]; exact ⟨k, _, nk, hb, fa⟩
      · exact ⟨k, b', nk, hk, mm⟩
  · have := he.kd c (ko c h)
    exact ⟨mx.there this.1, this.2.mx mx this.1⟩
  · rcases key j b h with ⟨e1, e2⟩ | ⟨n, h⟩ <;> rcases key k b' h' with ⟨e1', e2'⟩ | ⟨n', h'⟩
    · rw [e1, e1']
    · subst e2; rw [fb] at m; rw [List.mem_singleton.mp m] at m'; rw [e1]; exact he.nd i k _ b' a hb h' fa m'
    · subst e2'; rw [fb] at m'; rw [List.mem_singleton.mp m'] at m; rw [e1']; exact he.nd j i b _ a h hb m fa
    · exact he.nd j k b b' c h h' m m'
end
section
variable {K : PySem.W.Frag} {H0 H H1 H' : Hp} {F : Hp → Prop} {e : EnvT} {σ : L2.St} {ta tb tc te tj ty tv : TE} {D : Ends} {α β γ δ ρ : Type} {E : XK}
/-- q[j] = x, q a list of lists of whole numbers -/
theorem x_setLL {i : Nat} {ds : List (Ls Int)} {a : V} {m : Wm (Ls Int)} {mj : Wm Int} {f : List (Ls Int) → Wm ρ} {P : ρ → Prop} (he : EnvOk H0 F e σ H) (hb : e[i]? = some (some (bN (Ls.mk ds) a))) (h : EwF te σ H m) (h' : Ew tj σ H mj) (hm : Wm.bind m (fun x => Wm.bind mj fun j => Wm.bind (Wm.opt (setL ds j x)) f) P)
    (k : ∀ ds' H', EnvOk H0 F (e.set i (some (bN (Ls.mk ds') a))) σ H' → f ds' P → D.nx σ H') : tAsg te (gSub (tVar i) tj rSetL) D σ H := by
  obtain ⟨q, xs, ea, hn, hq, no, rr⟩ := he.now hb
  simp only at ea
  subst ea
  have fq : q ∈ (bN (Ls.mk ds) (.ref q)).foot := List.mem_cons_self
  have nq : ∀ c, OthA e i c → c ≠ q := fun c ⟨j, b, nj, hj, mm⟩ z => nj (he.nd j i b _ q hj hb (z ▸ mm) fq)
  refine h _ hm H (Gr.refl H) _ fun x v H1 pm g1 rx => ⟨_, he.sl i _ hb, h' _ pm H1 g1 _ fun j w H2 pj g2 rj => ?_⟩
  have ew : w = .int j := rj
  subst ew
  obtain ⟨ds', hs, p⟩ := pj
  unfold setL at hs
  cases hx : ixN ds.length j with
  | none => rw [hx] at hs; cases hs
  | some n =>
    rw [hx] at hs
    cases hs
    have g := g1.trans g2
    have hq2 := g.lst hq
    have no2 : ¬ Owned H2 q := fun od => no (g.owned (by rw [hq]; exact fun z => nomatch z) od)
    refine ⟨q, xs, j, n, rfl, rfl, hq2, by rw [← rr.1]; exact hx, k _ _ (he.put2 (β := Ls (Ls Int)) hb rfl g hq2 trivial rfl fun K mK => ?_) p⟩
    have mq : Mx (fun c => c = q) H2 (upd H2 q (.lst (xs.set n v))) := Mx.put (fun c ec => by subst ec; intro o ho; rw [hq2] at ho; cases ho; exact ⟨trivial, no2⟩) rfl hq2 trivial
    have hqK : K q = some (.lst (xs.set n v)) := mK.at upd_same (fun s => nq q s rfl) (fun z => nomatch z)
    have noK : ¬ Owned K q := fun od => no2 (mq.owned (by rw [hq2]; exact fun z => nomatch z) (mK.owned (by rw [upd_same]; exact fun z => nomatch z) od))
    -- an element that stays
    have stay : ∀ (z : Ls Int) (y : V), PyR.fr H0 z y H2 → (∀ c, y = .ref c → ¬ OthA e i c) → (∀ c, y = .ref c → c ≠ q) → PyR.fr H0 z y K := fun z y r h1 h2 =>
      PyFlat.frobA (PyFlat.frobA r (S := fun c => c = q) (fun c ec => h2 c ec) mq) h1 mK
    refine ⟨q, _, rfl, hn, hqK, noK, ⟨by rw [List.length_set, List.length_set]; exact rr.1, fun i' d' x' hd hx' => ?_⟩⟩
    by_cases e1 : n = i'
    · subst e1
      have l1 : n < ds.length := by have := (List.getElem?_eq_some_iff.mp hd).1; simpa using this
      rw [List.getElem?_set_self l1] at hd
      rw [List.getElem?_set_self (by rw [← rr.1]; exact l1)] at hx'
      cases hd; cases hx'
      refine stay _ _ (PyR.frmono g2 (PyR.frpre (fun c => he.gr0.back) rx)) (fun c ec ho => ?_) (fun c ec z => ?_)
      · obtain ⟨p', _, e2, n2, _⟩ := rx
        rw [ec] at e2; cases e2
        exact (he.kd c ho.own).1 n2
      · obtain ⟨p', _, e2, n2, _⟩ := rx
        rw [ec] at e2; cases e2
        rw [z, hq] at n2; cases n2
    · rw [List.getElem?_set_ne e1] at hd hx'
      have r0 := rr.2 i' d' x' hd hx'
      refine stay _ _ (PyR.frmono g r0) (fun c ec ho => ?_) (fun c ec z => ?_)
      · have hc := he.kd c ho.own
        obtain ⟨o, hco⟩ := Option.ne_none_iff_exists'.mp hc.1
        have mx : Mx (OthA e i) H (upd H c (.lst [V.non])) := Mx.put (he.kdi i) ho hco trivial
        obtain ⟨q2, xs2, eq2, _, hq3, _, rr2⟩ := he.rb i _ hb _ mx
        cases eq2
        rw [upd_ne (fun z => nq c ho z.symm), hq] at hq3
        cases hq3
        obtain ⟨p', ys, e2, _, hp', _, ry⟩ := rr2.2 i' d' x' hd hx'
        rw [ec] at e2; cases e2
        rw [upd_same] at hp'
        cases hp'
        obtain ⟨a0, ha0, r00⟩ : ∃ a0, d'.l[0]? = some a0 ∧ PyR.fr H0 a0 V.non (upd H c (.lst [V.non])) := by
          have l0 : 0 < d'.l.length := by rw [ry.1]; decide
          exact ⟨_, List.getElem?_eq_getElem l0, ry.2 0 _ V.non (List.getElem?_eq_getElem l0) rfl⟩
        have : V.non = V.int a0 := r00
        cases this
      · obtain ⟨p', ys, e2, _, hp', _, ry⟩ := r0
        rw [ec] at e2; cases e2
        rw [z, hq] at hp'
        cases hp'
        have hi : i' < d'.l.length := by rw [ry.1]; exact (List.getElem?_eq_some_iff.mp hx').1
        have : x' = V.int _ := ry.2 i' _ x' (List.getElem?_eq_getElem hi) hx'
        rw [ec] at this; cases this
/-- a, b, c = (x, y, z) in one -/
theorem x_par3 [PyR α] [PyR β] [PyR γ] {i j l : Nat} {m : Wm α} {m' : Wm β} {m2 : Wm γ} {f : α → β → γ → Wm ρ} {P : ρ → Prop} (he : EnvOk H0 F e σ H) (hi : i < e.length) (hj : j < e.length) (hl : l < e.length) (h : EwF ta σ H m) (h' : EwF tb σ H m') (h2 : EwF tc σ H m2) (hm : Wm.bind m (fun a => Wm.bind m' fun b => Wm.bind m2 fun c => f a b c) P)
    (k : ∀ a b c v w z σ' H', EnvOk H0 F (((e.set i (some (bN a v))).set j (some (bN b w))).set l (some (bN c z))) σ' H' → f a b c P → D.nx σ' H') : tPar3 i j l (tCons ta (tCons tb (tCons tc tNil))) D σ H :=
  h _ hm H (Gr.refl H) _ fun a v H1 pa g r => h' _ pa H1 g _ fun b w H2 pb g2 r2 => h2 _ pb H2 (g.trans g2) _ fun c z H3 pc g3 r3 => ⟨v, w, z, rfl, k a b c v w z _ H3 (((he.set g hi r).set g2 (by rw [List.length_set]; exact hj) r2).set g3 (by rw [List.length_set, List.length_set]; exact hl) r3) pc⟩
theorem th1_sset {r r' : List V → Hp → VK → Prop} : Th1 (fun t => tCB r (tCons (tCB r' (tCons t tNil)) tNil)) := fun _ _ _ _ h => h
/-- {k: b} -/
theorem ewF_dispI1 [PyI β] {k : Int} {b : β} (n : Neat H) (hk : Ev ty σ H k) (hv : Ev tv σ H b) : EwF (tDisp [(ty, tv)]) σ H (Wm.ret (DI.mk [(k, b)])) := fun P pp H1 g Q q p hp => by
  refine hk _ (g.trans (Gr.new hp)) _ fun k' y H2 ek g2 ry => hv H2 (g.trans ((Gr.new hp).trans g2)) _ fun b' z H3 eb g3 rz => ?_
  subst ek eb
  have g13 : Gr (upd H1 p (.dK [])) H3 := g2.trans g3
  have no1 : ¬ Owned (upd H1 p (.dK [])) p := no_owned_new (g.neat n) hp (by intro _ _ _ _ _ z; cases z)
  have hp3 : H3 p = some (.dK []) := by
    rcases g13.old p _ upd_same with z | ⟨_, z, _⟩
    · exact z
    · exact absurd z no1
  have ey : y = .int k' := ry
  subst ey
  refine ⟨hp3, [(Sum.inl k', z)], rfl, by simp, q _ _ _ pp ?_ ?_⟩
  · exact ((Gr.new hp).trans g13).mut hp hp3 (fun _ z => nomatch z)
  · refine ⟨p, _, rfl, hp, upd_same, fun ⟨a, C, dx, r', t, e'⟩ => no1 (g13.owned (by rw [upd_same]; exact fun z => nomatch z) ⟨a, C, dx, r', t, ?_⟩), PL.cons ⟨rfl, PyI.keep (TupK.put hp3 (fun _ z => nomatch z)) rz⟩ PL.nil⟩
    by_cases z : a = p
    · rw [z, upd_same] at e'; cases e'
    · rw [upd_ne z] at e'; exact e'
end
end Zw
/-! Z27: min(a list of data with an order). -/
namespace Zw
open PySem L2 RZ PySem.Spec PyProof.Rows SrtO PySem.SeqAt Ob PySem.W
section
variable {prog : Program} {w : World} {A : Around} {R : Result → Shared → Prop} {I S : Addr} {fp wr : List Addr} {n : Nat} {P : Nat → Value → Prop} {St : Nat → Heap → Prop}
/-- < of what is walked, wherever the heap is good -/
def LtIn (prog : Program) (w : World) (A : Around) (good : Heap → Prop) (P : Nat → Value → Prop) (bt : Nat → Nat → Bool) : Prop :=
  ∀ i j vi vj (s : Shared) (Q E : Value → Shared → Prop), good s.heap → P i vi → P j vj → Q (.bool (bt i j)) s → wpAny (model prog w) A (richCompare .Lt vi vj) Q E s
/-- what the loop's own list and the iterator leave alone -/
abbrev But (wr : List Addr) (S : Addr) (h h' : Heap) : Prop := ∀ b o, b ∉ wr → b ≠ S → h.get? b = some o → h'.get? b = some o
theorem loopName : (toString "min" ++ toString ".loop" : String) = "min.loop" := by decide
/-- the loop, one item or more behind it: the best so far stands in the list at S -/
theorem minGo (W : Walks prog w A.in1 I fp wr n P St) (bt : Nat → Nat → Bool) {good : Heap → Prop} (gk : ∀ h h', But wr S h h' → good h → good h') (lt : LtIn prog w A.in1 good P bt) (hS : S ∉ fp) (m : Nat) :
    ∀ (j : Nat) (s : Shared) (v : Value) (c : Nat), n = j + 1 + m → good s.heap → St (j + 1) s.heap → P (argBest bt j) v → s.heap.get? S = some { cls := .type "list", dict := none, data := .seq #[v, v] c, slots := #[] } →
      (∀ u h' tk, P (argBest bt (n - 1)) u → But wr S s.heap h' → R (.ok (.ret u)) { s with heap := h', toks := tk }) → codeAny (model prog w) A (.builtin "min.loop" ⟨[.ref I, .none, .ref S], []⟩) R s := by
  have hw : S ∉ wr := fun z => hS (W.sub _ z)
  induction m with
  | zero =>
    intro j s v c e g st p at_ k
    refine codeAny_builtin F.entry_min_loop ?_
    rw [Around.under_plainId F.plain_min_loop _]
    show wpAny _ A.in1 (seqItems? (.ref S) >>= _) _ _ s
    refine wpAny_bind (wpAny_seqItems at_ rfl ?_)
    show wpAny _ A.in1 (tryCatch (pyNext (.ref I)) _ >>= _) _ _ s
    refine wpAny_bind (wpAny_tryCatch (W.done s _ _ (by rw [show n = j + 1 from e]; exact st) fun h' tk keep => ?_))
    show wpAny _ A.in1 (updateSeq S (fun _ => #[]) >>= _) _ _ _
    exact wpAny_bind (wpAny_updateSeq (keep S _ hw at_) rfl (wpAny_bind (wpAny_letGo (wpAny_pure (k v _ tk (by rw [show n - 1 = j by omega]; exact p) fun b o hb ne q => (Heap.get?_update_other _ _ (Ne.symm ne)).trans (keep b o hb q))))))
  | succ m ih =>
    intro j s v c e g st p at_ k
    refine codeAny_builtin F.entry_min_loop ?_
    rw [Around.under_plainId F.plain_min_loop _]
    show wpAny _ A.in1 (seqItems? (.ref S) >>= _) _ _ s
    refine wpAny_bind (wpAny_seqItems at_ rfl ?_)
    show wpAny _ A.in1 (tryCatch (pyNext (.ref I)) _ >>= _) _ _ s
    refine wpAny_bind (wpAny_tryCatch (W.item (j + 1) s _ _ (by omega) st fun u h' tk pu st' keep => ?_))
    have at' := keep S _ hw at_
    show wpAny _ A.in1 (tryCatch (holding [u, u] (richCompare .Lt u v >>= _)) _ >>= _) _ _ _
    refine wpAny_bind (wpAny_tryCatch (wpAny_holding (wpAny_bind (lt (j + 1) (argBest bt j) u v _ _ _ (gk _ _ (fun b o hb _ q => keep b o hb q) g) pu p ?_))))
    refine wpAny_bind (wpAny_holding (wpAny_truthy_bool (wpAny_bind (wpAny_letGo (wpAny_pure ?_)))))
    cases q : bt (j + 1) (argBest bt j) with
    | true =>
      simp only [if_true]
      refine wpAny_bind (wpAny_updateSeq at' rfl (wpAny_bind (wpAny_letGo ?_)))
      rw [loopName]
      have b2 : But wr S s.heap (h'.update S (Obj.mapSeq fun _ => #[u, u])) := fun b o hb ne z => (Heap.get?_update_other _ _ (Ne.symm ne)).trans (keep b o hb z)
      refine wpAny_pure ⟨plainId_quiet F.plain_min_loop _, ih (j + 1) _ u _ (by omega) (gk _ _ b2 g) (W.frame _ _ _ st' fun b hb o z => (Heap.get?_update_other _ _ (fun y : S = b => hS (y ▸ hb))).trans z) (by simp only [argBest, q, if_true]; exact pu) (Heap.get?_update_self _ at' rfl) fun x h2 tk2 px bx => ?_⟩
      exact k x h2 tk2 px fun b o hb ne z => bx b o hb ne (b2 b o hb ne z)
    | false =>
      simp only [Bool.false_eq_true, if_false]
      refine wpAny_bind (wpAny_letGo ?_)
      rw [loopName]
      refine wpAny_pure ⟨plainId_quiet F.plain_min_loop _, ih (j + 1) _ v c (by omega) (gk _ _ (fun b o hb _ z => keep b o hb z) g) st' (by simp only [argBest, q, Bool.false_eq_true, if_false]; exact p) at' fun x h2 tk2 px bx => ?_⟩
      exact k x h2 tk2 px fun b o hb ne z => bx b o hb ne (keep b o hb z)
theorem minBegin (W : Walks prog w A.in1 I fp wr n P St) (bt : Nat → Nat → Bool) {good : Heap → Prop} (gk : ∀ h h', But wr S h h' → good h → good h') (lt : LtIn prog w A.in1 good P bt) (hS : S ∉ fp) (hn : 0 < n) {s : Shared} {c : Nat} (g : good s.heap) (st : St 0 s.heap)
    (at_ : s.heap.get? S = some { cls := .type "list", dict := none, data := .seq #[] c, slots := #[] }) (k : ∀ u h' tk, P (argBest bt (n - 1)) u → But wr S s.heap h' → R (.ok (.ret u)) { s with heap := h', toks := tk }) : codeAny (model prog w) A (.builtin "min.loop" ⟨[.ref I, .none, .ref S], []⟩) R s := by
  have hw : S ∉ wr := fun z => hS (W.sub _ z)
  refine codeAny_builtin F.entry_min_loop ?_
  rw [Around.under_plainId F.plain_min_loop _]
  show wpAny _ A.in1 (seqItems? (.ref S) >>= _) _ _ s
  refine wpAny_bind (wpAny_seqItems at_ rfl ?_)
  show wpAny _ A.in1 (tryCatch (pyNext (.ref I)) _ >>= _) _ _ s
  refine wpAny_bind (wpAny_tryCatch (W.item 0 s _ _ hn st fun u h' tk pu st' keep => ?_))
  have at' := keep S _ hw at_
  show wpAny _ A.in1 (updateSeq S (fun _ => #[u, u]) >>= _) _ _ _
  refine wpAny_bind (wpAny_updateSeq at' rfl ?_)
  rw [loopName]
  have b2 : But wr S s.heap (h'.update S (Obj.mapSeq fun _ => #[u, u])) := fun b o hb ne z => (Heap.get?_update_other _ _ (Ne.symm ne)).trans (keep b o hb z)
  refine wpAny_pure ⟨plainId_quiet F.plain_min_loop _, minGo W bt gk lt hS (n - 1) 0 _ u _ (by omega) (gk _ _ b2 g) (W.frame _ _ _ st' fun b hb o z => (Heap.get?_update_other _ _ (fun y : S = b => hS (y ▸ hb))).trans z) pu (Heap.get?_update_self _ at' rfl) fun x h2 tk2 px bx => ?_⟩
  exact k x h2 tk2 px fun b o hb ne z => bx b o hb ne (b2 b o hb ne z)
end
section
variable {prog : Program} {w : World} {A : Around} {E : Value → Shared → Prop} {s : Shared}
/-- min(l) -/
theorem minList {l : Addr} {its : Array Value} {good : Heap → Prop} {bt : Nat → Nat → Bool} {Q : Value → Shared → Prop} (hh : A.handled = none) (hl : s.heap.IsList l its) (hn : 0 < its.size) (g : good s.heap) (gk : ∀ h h', (∀ b o, b < s.heap.objs.size → h.get? b = some o → h'.get? b = some o) → good h → good h')
    (lt : LtIn prog w A.in1 good (fun i v => its[i]? = some v) bt) (k : ∀ u h' tk, its[argBest bt (its.size - 1)]? = some u → (∀ b o, s.heap.get? b = some o → h'.get? b = some o) → Q u { s with heap := h', toks := tk }) : wpAny (model prog w) A (call (.builtin "min") [.ref l]) Q E s := by
  have hlt : l < s.heap.objs.size := by obtain ⟨_, e, _⟩ := hl; exact Heap.lt_size e
  refine call_function_tree F.kind_min F.plain_min F.entry_min (F.args_min1 _) ?_
  show wpAny _ A.in1 (Builtin.Builtins.bindParams "min" ["key", "default"] 0 ⟨[], []⟩ >>= _) _ _ s
  refine wpAny_bind (wpAny_of_eq (show Builtin.Builtins.bindParams "min" ["key", "default"] 0 ⟨[], []⟩ = pure [none, none] from rfl) (wpAny_bind (wpAny_pure (wpAny_bind (wpAny_pyIter_list hl (wpAny_bind (wpAny_newObj_type ?_)))))))
  rw [loopName]
  have z1 : (s.heap.push { cls := .type "list_iterator", data := .fields #[.ref l, .int 0 0] }).objs.size = s.heap.objs.size + 1 := Heap.size_push ..
  have nf : (s.heap.push { cls := .type "list_iterator", data := .fields #[.ref l, .int 0 0] }).objs.size ∉ [s.heap.objs.size, l] := by
    rw [z1]
    simp only [List.mem_cons, List.mem_singleton, List.not_mem_nil, or_false, not_or]
    exact ⟨Nat.ne_of_gt (Nat.lt_succ_self _), Nat.ne_of_gt (Nat.lt_succ_of_lt hlt)⟩
  have old : ∀ b o, b < s.heap.objs.size → s.heap.get? b = some o → ((s.heap.push { cls := .type "list_iterator", data := .fields #[.ref l, .int 0 0] }).push { cls := .type "list", data := .seq #[] }).get? b = some o := fun b o _ e => Heap.get?_push_of_some _ (Heap.get?_push_of_some _ e)
  have notnew : ∀ b, b < s.heap.objs.size → b ∉ [s.heap.objs.size] ∧ b ≠ (s.heap.push { cls := .type "list_iterator", data := .fields #[.ref l, .int 0 0] }).objs.size := fun b hb => by
    rw [z1]
    simp only [List.mem_singleton]
    exact ⟨Nat.ne_of_lt hb, Nat.ne_of_lt (Nat.lt_succ_of_lt hb)⟩
  refine wpAny_pure ⟨plainId_quiet F.plain_min_loop _, minBegin (Walks.list (A := A.in1) hh _ l (Nat.ne_of_lt hlt) its) bt (fun h h' bu gg => gk h h' (fun b o hb q => bu b o (notnew b hb).1 (notnew b hb).2 q) gg) lt nf hn (gk _ _ old g) ⟨⟨_, Heap.get?_push_of_some _ (Heap.get?_push_size _ rfl), rfl, rfl⟩, (hl.push _).push _⟩ (Heap.get?_push_size _ rfl) fun u h' tk pu bu => ?_⟩
  exact k u h' tk pu fun b o e => bu b o (notnew b (Heap.lt_size e)).1 (notnew b (Heap.lt_size e)).2 (old b o (Heap.lt_size e) e)
end
end Zw
/-! Z28: min(..) of data as an expression. -/
namespace Zw
open PySem L2 RZ PySem.Spec PyProof.Rows SrtO PySem.SeqAt Ob
def ltN {α : Type} [PyO α] (ds : List α) (i j : Nat) : Bool := match ds[i]?, ds[j]? with
  | some a, some b => PyO.lt a b
  | _, _ => false
theorem best_spec {α : Type} [PyO α] (ds : List α) : ∀ k, k < ds.length → argBest (ltN ds) k ≤ k ∧ ∀ j, j ≤ k → ltN ds j (argBest (ltN ds) k) = false
  | 0, h => ⟨Nat.le_refl _, fun j hj => by
    have e : j = 0 := by omega
    subst e
    show ltN ds 0 0 = false
    unfold ltN
    rw [List.getElem?_eq_getElem h]
    show PyO.lt ds[0] ds[0] = false
    cases q : PyO.lt ds[0] ds[0] with
    | false => rfl
    | true => have := PyO.asym _ _ q; rw [q] at this; cases this⟩
  | k + 1, h => by
    obtain ⟨h1, h2⟩ := best_spec ds k (by omega)
    have hb : argBest (ltN ds) k < ds.length := by omega
    have e1 : ∀ i j (hi : i < ds.length) (hj : j < ds.length), ltN ds i j = PyO.lt ds[i] ds[j] := fun i j hi hj => by
      unfold ltN
      rw [List.getElem?_eq_getElem hi, List.getElem?_eq_getElem hj]
    unfold argBest
    split
    · rename_i q
      refine ⟨Nat.le_refl _, fun j hj => ?_⟩
      rw [e1 _ _ h hb] at q
      by_cases e : j = k + 1
      · subst e
        rw [e1 _ _ h h]
        cases z : PyO.lt ds[k + 1] ds[k + 1] with
        | false => rfl
        | true => have := PyO.asym _ _ z; rw [z] at this; cases this
      · have h3 := h2 j (by omega)
        rw [e1 _ _ (by omega) hb] at h3
        rw [e1 _ _ (by omega) h]
        exact PyO.ntr _ _ _ (PyO.asym _ _ q) h3
    · rename_i q
      refine ⟨by omega, fun j hj => ?_⟩
      by_cases e : j = k + 1
      · subst e; simpa using q
      · exact h2 j (by omega)
def rMinG : List V → Hp → VK → Prop := fun vs H Q => ∃ (α : Type) (o : PyO α) (ds : List α) (a : Addr) (xs : List V), vs = [.ref a] ∧ H a = some (.lst xs) ∧ RL (fun d x => PyI.rep d x H) ds xs ∧ 0 < ds.length ∧ PyO.dep α ≤ 60 ∧
  ∀ d x, d ∈ ds → (∀ y ∈ ds, PyO.lt y d = false) → PyI.rep d x H → Q x H
theorem cr_minG {X : Cx} (hcalm : X.calm = true) (hu : X.A.units + 64 < cLine) : CallR X (.builtin "min") rMinG := by
  intro pins s σ H vs us Q I r q
  obtain ⟨α, o, ds, a, xs, rfl, ha, rl, hn, hd, q⟩ := q
  rw [Vals.ref1 r]
  obtain ⟨_, its, n, rv, ho⟩ := I.hok a _ ha
  have hl : s.heap.IsList a its.toArray := ⟨_, ho, rfl, n, rfl⟩
  have hvl : VL (fun d u => PyO.vr d u s.heap) ds its := vals_vl rl rv fun d x u r' rv' => PyO.of_rep I.hok r' rv'
  have sz : its.toArray.size = ds.length := by rw [List.size_toArray, hvl.1]
  refine minList (good := fun h => ∀ b o, s.heap.get? b = some o → h.get? b = some o) (bt := ltN ds) (I.ok.hd hcalm) hl (by rw [sz]; exact hn) (fun _ _ h => h) (fun h h' k g b o e => k b o (Heap.lt_size e) (g b o e)) (fun i j vi vj s' Q' E' g hi hj q' => ?_) fun u h' tk hu' keep => ?_
  · have hi : its[i]? = some vi := by simpa using hi
    have hj : its[j]? = some vj := by simpa using hj
    have li : i < ds.length := by rw [hvl.1]; exact (List.getElem?_eq_some_iff.mp hi).1
    have lj : j < ds.length := by rw [hvl.1]; exact (List.getElem?_eq_some_iff.mp hj).1
    have ri := PyO.vkeep (h' := s'.heap) (fun b o e _ => g b o e) (hvl.2 i _ vi (List.getElem?_eq_getElem li) hi)
    have rj := PyO.vkeep (h' := s'.heap) (fun b o e _ => g b o e) (hvl.2 j _ vj (List.getElem?_eq_getElem lj) hj)
    have eb : ltN ds i j = PyO.lt ds[i] ds[j] := by unfold ltN; rw [List.getElem?_eq_getElem li, List.getElem?_eq_getElem lj]
    rw [eb] at q'
    exact PyO.ltAt (s := s') (A := X.A.in1) (by rw [units_in1]; omega) ri rj _ _ _ _ q'
  · obtain ⟨h1, h2⟩ := best_spec ds (its.toArray.size - 1) (by rw [sz]; omega)
    generalize argBest (ltN ds) (its.toArray.size - 1) = m at h1 h2 hu'
    have lm : m < ds.length := by rw [sz] at h1; omega
    have hu' : its[m]? = some u := by simpa using hu'
    obtain ⟨x, hx, rx⟩ : ∃ x, xs[m]? = some x ∧ RelV x u := by
      have lx : m < xs.length := by rw [← rl.1]; exact lm
      obtain ⟨u', e1, e2⟩ := rv.get (List.getElem?_eq_getElem lx)
      rw [hu'] at e1; cases e1
      exact ⟨_, List.getElem?_eq_getElem lx, e2⟩
    refine ⟨x, H, I.kept keep, rx, q ds[m] x (List.getElem_mem lm) (fun y hy => ?_) (rl.2 m _ x (List.getElem?_eq_getElem lm) hx)⟩
    obtain ⟨j, hj⟩ := List.mem_iff_getElem?.mp hy
    have lj := (List.getElem?_eq_some_iff.mp hj).1
    have := h2 j (by rw [sz]; omega)
    unfold ltN at this
    rw [hj, List.getElem?_eq_getElem lm] at this
    exact this
theorem min_head {α : Type} [PyO α] {ds : List α} {d : α} (m : d ∈ ds) (h : ∀ y ∈ ds, PyO.lt y d = false) : (sortO ds).head? = some d := by
  cases e : sortO ds with
  | nil => have := (sortO_perm ds).mem_iff.mpr m; rw [e] at this; cases this
  | cons x l =>
    have hx : x ∈ ds := (sortO_perm ds).mem_iff.mp (by rw [e]; exact List.mem_cons_self)
    have hs := sortO_srtd ds
    rw [e] at hs
    have hd : PyO.lt d x = false := by
      have := (sortO_perm ds).mem_iff.mpr m
      rw [e] at this
      rcases List.mem_cons.mp this with q | q
      · subst q; exact h _ hx
      · exact (List.pairwise_cons.mp hs).1 d q
    rw [PyO.tri x d (h x hx) hd]; rfl
section
variable {H : Hp} {σ : L2.St} {te : TE}
theorem ew_minG {α : Type} [PyO α] {ds : List α} (h : Ev te σ H (Ls.mk ds)) (hd : PyO.dep α ≤ 60 := by decide) : Ew (tCB rMinG (tCons te tNil)) σ H (Wm.opt (sortO ds).head?) := fun P ⟨d0, e0, pp⟩ H1 g Q q => h H1 g _ fun l v H2 e g2 ⟨a, xs, ev, ha, r⟩ => by
  subst e
  have hn : 0 < ds.length := by
    have := (sortO_perm ds).length_eq
    cases q : sortO ds with
    | nil => rw [q] at e0; cases e0
    | cons x l => rw [q] at this; rw [← this]; simp
  refine ⟨α, inferInstance, ds, a, xs, by rw [ev], ha, r, hn, hd, fun d x hm hy hr => q d x H2 ?_ g2 hr⟩
  have := min_head hm hy
  rw [this] at e0
  cases e0
  exact pp
end
end Zw
/-! Y9: triples; data as what it shows; tuples of two seen as pairs. -/
namespace Zw
open PySem L2 RZ PySem.Spec PyProof.Rows SrtO PySem.SeqAt Ob
/-- a tuple of three -/
structure Tr (α β γ : Type) where
  a : α
  b : β
  c : γ
  deriving DecidableEq
instance instTr {α β γ : Type} [PyI α] [PyI β] [PyI γ] : PyI (Tr α β γ) := ⟨fun d v H => ∃ p x y z, v = .ref p ∧ H p = some (.tup [x, y, z]) ∧ PyI.rep d.a x H ∧ PyI.rep d.b y H ∧ PyI.rep d.c z H,
  fun k ⟨p, x, y, z, e, h, r1, r2, r3⟩ => ⟨p, x, y, z, e, k _ _ h, PyI.keep k r1, PyI.keep k r2, PyI.keep k r3⟩⟩
instance {α β γ : Type} [PyI α] [PyI β] [PyI γ] : NN (Tr α β γ) := ⟨fun ⟨p, x, y, z, e, _⟩ => by rw [e]; exact fun z => nomatch z⟩
instance {α β : Type} [PyI α] [PyI β] [NN α] [NN β] : NN (α ⊕ β) := ⟨fun {d v H} h => by cases d with | inl a => exact NN.nn (α := α) h | inr b => exact NN.nn (α := β) h⟩
/-- what a datum shows -/
class ToQ (α : Type) extends Py α where
  toQ : α → PyData
  dq : ∀ {K : PySem.W.Frag} {d : α} {v : V} {H : Hp}, rep d v H → Dp K H v (toQ d)
class ToQI (α : Type) [PyI α] where
  toQ : α → PyData
  dq : ∀ {K : PySem.W.Frag} {d : α} {v : V} {H : Hp}, PyI.rep d v H → Dp K H v (toQ d)
instance (priority := 5) instToQI {α : Type} [PyI α] [ToQI α] : ToQ α where
  toQ := ToQI.toQ
  dq := ToQI.dq
instance : ToQI Int := ⟨.int, fun h => by rw [show _ = _ from h]; exact .int _⟩
instance : ToQI Bool := ⟨.bool, fun h => by rw [show _ = _ from h]; exact .bl _⟩
instance : ToQI Str := ⟨.str, fun h => by rw [show _ = _ from h]; exact .str _⟩
instance {α β : Type} [PyI α] [PyI β] [ToQI α] [ToQI β] : ToQI (α × β) := ⟨fun d => .tuple [ToQI.toQ d.1, ToQI.toQ d.2], fun ⟨p, x, y, e, h, a, b⟩ => by rw [e]; exact .tup (.of h) (.cons (ToQI.dq a) (.cons (ToQI.dq b) .nil))⟩
instance {α β γ : Type} [PyI α] [PyI β] [PyI γ] [ToQI α] [ToQI β] [ToQI γ] : ToQI (Tr α β γ) := ⟨fun d => .tuple [ToQI.toQ d.a, ToQI.toQ d.b, ToQI.toQ d.c], fun ⟨p, x, y, z, e, h, a, b, c⟩ => by rw [e]; exact .tup (.of h) (.cons (ToQI.dq a) (.cons (ToQI.dq b) (.cons (ToQI.dq c) .nil)))⟩
instance {α β : Type} [PyI α] [PyI β] [ToQI α] [ToQI β] : ToQI (α ⊕ β) := ⟨fun d => match d with | .inl a => ToQI.toQ a | .inr b => ToQI.toQ b, fun {K d v H} h => by cases d with | inl a => exact ToQI.dq (α := α) h | inr b => exact ToQI.dq (α := β) h⟩
instance {α : Type} [PyI α] [ToQI α] : ToQI (Option α) := ⟨fun d => match d with | none => .none | some a => ToQI.toQ a, fun {K d v H} h => by cases d with | none => rw [show v = V.non from h]; exact .non | some a => exact ToQI.dq h.2⟩
instance {α : Type} [PyI α] [ToQI α] : ToQI (List α) := ⟨fun l => .tuple (l.map ToQI.toQ), fun ⟨p, xs, e, h, r⟩ => by rw [e]; exact .tup (.of h) (dpAll (fun _ _ z => ToQI.dq z) r)⟩
instance {α : Type} [ToQ α] : ToQ (Ls α) where
  toQ := fun l => .list (l.l.map ToQ.toQ)
  dq := fun ⟨p, xs, e, h, r⟩ => (by rw [e]; exact .lst (.of h) (dpAll (fun _ _ z => ToQ.dq z) r))
/-- tuples of two as pairs -/
def pairsL : List (List Int) → Option (List (Int × Int))
  | [] => some []
  | l :: ls => match pairL l, pairsL ls with
    | some p, some ps => some (p :: ps)
    | _, _ => none
theorem pairsL_map (l : List (Int × Int)) : pairsL (l.map fun d => [d.1, d.2]) = some l := by
  induction l with
  | nil => rfl
  | cons d l ih => rw [List.map_cons]; unfold pairsL; rw [ih]; rfl
theorem pairsL_rep {H : Hp} : ∀ {ls : List (List Int)} {ds : List (Int × Int)} {xs : List V}, pairsL ls = some ds → RL (fun (d : List Int) x => PyI.rep d x H) ls xs → RL (fun (d : Int × Int) x => PyI.rep d x H) ds xs
  | [], ds, xs, e, r => by
    cases e
    rw [r.nil_inv]; exact RL.nil
  | l :: ls, ds, xs, e, r => by
    obtain ⟨y, ys, rfl, r1, r2⟩ := r.uncons
    unfold pairsL at e
    cases h1 : pairL l with
    | none => rw [h1] at e; cases e
    | some p =>
      cases h2 : pairsL ls with
      | none => rw [h1, h2] at e; cases e
      | some ps =>
        rw [h1, h2] at e
        cases e
        have hl : l = [p.1, p.2] := by
          unfold pairL at h1
          split at h1
          · cases h1; rfl
          · cases h1
        subst hl
        exact (pairsL_rep h2 r2).cons (list2_pair r1)
section
variable {K : PySem.W.Frag} {H : Hp} {σ : L2.St} {te ta tb tc : TE} {α β γ : Type}
theorem ew_castD {l : List (List Int)} (h : Ev te σ H l) : Ew te σ H (Wm.opt (pairsL l)) := fun P ⟨ds, e, p⟩ H1 g Q q => h H1 g _ fun d v H2 ed g2 ⟨a, xs, ev, ha, r⟩ => by
  subst ed
  exact q ds v H2 p g2 ⟨a, xs, ev, ha, pairsL_rep e r⟩
theorem ev_toQ [ToQ α] {d : α} (h : Ev te σ H d) : Ev te σ H (Dq.mk (K := K) (ToQ.toQ d)) := ev_cast h fun v H' r => ToQ.dq r
theorem ev_tr [PyI α] [PyI β] [PyI γ] {a : α} {b : β} {c : γ} (h1 : Ev ta σ H a) (h2 : Ev tb σ H b) (h3 : Ev tc σ H c) : Ev (tTup (tCons ta (tCons tb (tCons tc tNil)))) σ H (Tr.mk a b c) := fun H1 g Q q =>
  h1 H1 g _ fun x v H2 e1 g1 r1 => h2 H2 (g.trans g1) _ fun y w H3 e2 g2 r2 => h3 H3 (g.trans (g1.trans g2)) _ fun z u H4 e3 g3 r3 => by
    subst e1 e2 e3
    exact ⟨by show 3 ≤ sizeLine; decide, fun p hp => q _ _ _ rfl (((g1.trans g2).trans g3).trans (Gr.new hp)) ⟨p, v, w, u, rfl, upd_same, Py.mono ((g2.trans g3).trans (Gr.new hp)) r1, Py.mono (g3.trans (Gr.new hp)) r2, Py.mono (Gr.new hp) r3⟩⟩
def rIsNone : R2 := fun x y H Q => y = .non ∧ Q (.bl (decide (x = .non))) H
def rNotNone : R2 := fun x y H Q => y = .non ∧ Q (.bl (!decide (x = .non))) H
theorem th2_isn {r : R2} {v : V} : Th1 (fun t => tOp r t (tC v)) := fun _ _ _ _ h => h
theorem ev_isN [PyI α] {a : Option α} (h : Ev ta σ H a) : Ev (tOp rIsNone ta (tC .non)) σ H a.isNone := ev_op h (ev_c (d := ()) (v := .non) rfl) fun x y H rx ry Q q => by
  refine (show y = V.non ∧ Q (.bl (decide (x = V.non))) H from ⟨ry, ?_⟩)
  cases a with
  | none => rw [show x = V.non from rx]; exact q true _ H rfl (Gr.refl H) rfl
  | some b => rw [decide_eq_false rx.1]; exact q false _ H rfl (Gr.refl H) rfl
theorem ev_notN [PyI α] {a : Option α} (h : Ev ta σ H a) : Ev (tOp rNotNone ta (tC .non)) σ H a.isSome := ev_op h (ev_c (d := ()) (v := .non) rfl) fun x y H rx ry Q q => by
  refine (show y = V.non ∧ Q (.bl (!decide (x = V.non))) H from ⟨ry, ?_⟩)
  cases a with
  | none => rw [show x = V.non from rx]; exact q false _ H rfl (Gr.refl H) rfl
  | some b => rw [decide_eq_false rx.1]; exact q true _ H rfl (Gr.refl H) rfl
theorem ew_eqQ [ToQ α] [ToQ β] {a : α} {b : β} (ha : Ev ta σ H a) (hb : Ev tb σ H b) : Ew (tOp (rEqD K) ta tb) σ H (Wm.grd (SeqAt.shaped (ToQ.toQ a) = true ∧ SeqAt.shaped (ToQ.toQ b) = true) (PyData.eqv (ToQ.toQ a) (ToQ.toQ b))) := fun P ⟨⟨s1, s2⟩, p⟩ =>
  (ev_op ha hb fun x y H rx ry Q q => ⟨_, _, ToQ.dq rx, ToQ.dq ry, s1, s2, q _ _ H rfl (Gr.refl H) rfl⟩ : Ev _ σ H (PyData.eqv (ToQ.toQ a) (ToQ.toQ b))).imp fun x e => by rw [e]; exact p
theorem ew_neQ [ToQ α] [ToQ β] {a : α} {b : β} (ha : Ev ta σ H a) (hb : Ev tb σ H b) : Ew (tOp (rNeD K) ta tb) σ H (Wm.grd (SeqAt.shaped (ToQ.toQ a) = true ∧ SeqAt.shaped (ToQ.toQ b) = true) (!PyData.eqv (ToQ.toQ a) (ToQ.toQ b))) := fun P ⟨⟨s1, s2⟩, p⟩ =>
  (ev_op ha hb fun x y H rx ry Q q => ⟨_, _, ToQ.dq rx, ToQ.dq ry, s1, s2, q _ _ H rfl (Gr.refl H) rfl⟩ : Ev _ σ H (!PyData.eqv (ToQ.toQ a) (ToQ.toQ b))).imp fun x e => by rw [e]; exact p
abbrev rIntOf : List V → Hp → VK → Prop := fun xs H Q => (∃ i, xs = [V.int i] ∧ Q (.int i) H) ∨ ∃ k, xs = [V.bl k] ∧ Q (.int (if k then 1 else 0)) H
theorem ev_intB {b : Bool} (h : Ev te σ H b) : Ev (tCB rIntOf (tCons te tNil)) σ H (if b = true then (1 : Int) else 0) := fun H1 g Q q => h H1 g _ fun d v H2 p g2 r => by
  have e : v = .bl d := r
  subst e p
  exact .inr ⟨d, rfl, q _ _ H2 rfl g2 rfl⟩
theorem ev_intI {i : Int} (h : Ev te σ H i) : Ev (tCB rIntOf (tCons te tNil)) σ H i := fun H1 g Q q => h H1 g _ fun d v H2 p g2 r => by
  have e : v = .int d := r
  subst e p
  exact .inl ⟨d, rfl, q _ _ H2 rfl g2 rfl⟩
end
section
variable {K : PySem.W.Frag} {H0 H H1 H' : Hp} {F : Hp → Prop} {e : EnvT} {σ : L2.St} {ta tb tc te tl : TE} {D : Ends} {g : TG} {tu : TS} {α β γ δ ρ S : Type} {E : XK}
/-- x in l, of data -/
def memD {α : Type} [DecidableEq α] (x : α) (l : List α) : Bool := decide (x ∈ l)
theorem memD_iff {α : Type} [DecidableEq α] {x : α} {l : List α} : memD x l = true ↔ x ∈ l := by unfold memD; exact decide_eq_true_iff
theorem ev_inTM [PyI α] [PyDI α] [DecidableEq α] {a : α} {l : List α} (ha : Ev ta σ H a) (hb : Ev tb σ H l) (hd : PyDI.dm α ≤ 63 := by decide) : Ev (tOp (rInDT K false) ta tb) σ H (memD a l) := ev_inTD ha hb hd
theorem ev_ninTM [PyI α] [PyDI α] [DecidableEq α] {a : α} {l : List α} (ha : Ev ta σ H a) (hb : Ev tb σ H l) (hd : PyDI.dm α ≤ 63 := by decide) : Ev (tOp (rInDT K true) ta tb) σ H (!memD a l) := ev_ninTD ha hb hd
/-- for .. in q[m.pop()]: first the pop, then the loop over the popped one's -/
theorem x_popForT [PyI α] {i j : Nat} {ds : List α} {a : V} {f : List α × α → Wm ρ} {P : ρ → Prop} (he : EnvOk H0 F e σ H) (hb : e[i]? = some (some (bN (Ls.mk ds) a))) (hm : Wm.bind (Wm.opt (popL ds)) f P)
    (k : ∀ ds' d v H', EnvOk H0 F (e.set i (some (bN (Ls.mk ds') a))) σ H' → Py.rep d v H' → f (ds', d) P → tFor (iTup K (tOp (rIxL K) (tVar j) (tC v))) g tu D σ H') (hj : ∃ x, σ[j]? = some (some x)) : tFor (iTup K (tOp (rIxL K) (tVar j) (tBM0 K "list" rPop (tVar i)))) g tu D σ H := by
  obtain ⟨x, hj⟩ := hj
  obtain ⟨q, xs, ea, hn, hq, no, rr⟩ := he.now hb
  simp only at ea
  subst ea
  obtain ⟨⟨ds', d⟩, hp, p⟩ := hm
  have e1 := popL_some hp
  simp only at e1
  subst e1
  have hd : (ds' ++ [d])[xs.length - 1]? = some d := by rw [← rr.1]; simp
  obtain ⟨v, hv, rv⟩ := rr.get hd
  have r2 : RL (fun a x => PyI.rep a x H) ds' xs.dropLast := by
    have z : RL (fun a x => PyI.rep a x H) ((ds' ++ [d]).take ds'.length) (xs.take ds'.length) := rr.take ds'.length
    rw [List.take_left' rfl] at z
    rw [List.dropLast_eq_take, ← rr.1]
    have e2 : (ds' ++ [d]).length - 1 = ds'.length := by simp
    rw [e2]
    exact z
  obtain ⟨x', hx', hr⟩ := k ds' d v _ (he.put hb rfl (Gr.refl H) hq (o := .lst xs.dropLast) trivial (fr_ls (ds := ds') hn hq no r2)) (PyI.keep (TupK.put hq (fun _ z => nomatch z)) rv) p
  rw [hj] at hx'
  cases hx'
  exact ⟨x, hj, _, he.sl i _ hb, .inl ⟨rfl, xs, .of hq⟩, q, xs, v, rfl, rfl, hq, hv, hr⟩
end
end Zw
namespace Cl
open PySem L2 Zw RZ
def DoorOk (rooms : Int) (t : Int × Int) : Prop := 0 ≤ t.1 ∧ t.1 < t.2 ∧ t.2 < rooms

def DoorsOk (rooms : Int) (ds : List (Int × Int)) : Prop := (∀ d ∈ ds, DoorOk rooms d) ∧ ds.Pairwise (fun a b => PyO.lt a b = true) ∧ ds.length ≤ 36

def spInit (C : Addr) : Sp := fun vs H Q _ => ∃ (H0 : Hp) (p dx : Addr) (v v' : V) (r : Int) (ds : List (Int × Int)), vs = [.ref p, v, v'] ∧ H0 p = none ∧ H0 dx = none ∧ Neat H0 ∧ Gr H0 H ∧ H p = some (.ins C dx []) ∧ Py.rep r v H ∧ Py.rep ds v' H ∧ 1 ≤ r ∧ r ≤ 9 ∧ DoorsOk r ds ∧
  ∀ H' : Hp, Gr H0 H' → Py.rep (Hs.mk (C := C) r ds) (.ref p) H' → Q .non H'
theorem spInit_len {C : Addr} {vs : List V} {H : Hp} {Q : VK} {E : XK} (h : spInit C vs H Q E) : vs.length = 3 := by obtain ⟨_, _, _, _, _, _, _, rfl, _⟩ := h; rfl

def HOk' (r : Int) (ds : List (Int × Int)) : Prop := 1 ≤ r ∧ r ≤ 9 ∧ DoorsOk r ds
abbrev HOk {C : Addr} (h : Hs C) : Prop := HOk' h.r h.ds

def nearsM (r : Int) (ds : List (Int × Int)) : List (List Int) := (numL (besM r ds)).map fun p => sortO (p.2 ++ [p.1])
theorem numL_mem {α : Type} {l : List α} {d : Int × α} (h : d ∈ numL l) : d.2 ∈ l := by
  obtain ⟨i, hi⟩ := List.mem_iff_getElem?.mp h
  exact List.mem_of_getElem? (numL_get hi).2
theorem besM_len {r : Int} {ds : List (Int × Int)} (ok : HOk' r ds) {l : List Int} (m : l ∈ besM r ds) : l.length ≤ 80000 := by
  unfold besM at m
  obtain ⟨a, _, rfl⟩ := List.mem_map.mp m
  unfold isortI
  rw [List.length_mergeSort]
  have := nbrs_length (a : Int) ds
  have := ok.2.2.2.2
  omega

def WOk (r : Int) (ws : List Int) : Prop := 1 ≤ ws.length ∧ ws.length ≤ 3 ∧ (∀ w ∈ ws, 0 ≤ w ∧ w < r) ∧ ws.Pairwise (· ≤ ·)

def SfOk (rows : List (List Int)) (ws : List Int) : Prop := 1 ≤ ws.length ∧ ws.length ≤ 3 ∧ (∀ w ∈ ws, 0 ≤ w ∧ w < rows.length) ∧ ∀ r ∈ rows, r.length ≤ 37

theorem nbrs_len1 (a : Int) : ∀ l : List (Int × Int), (∀ d ∈ l, d.1 < d.2) → (nbrs a l).length ≤ l.length
  | [], _ => Nat.zero_le _
  | (x, y) :: l, h => by
    have h1 := nbrs_len1 a l fun d m => h d (List.mem_cons_of_mem _ m)
    have h2 : x < y := h (x, y) List.mem_cons_self
    show ((if x = a then [y] else []) ++ (if y = a then [x] else []) ++ nbrs a l).length ≤ _
    rw [List.length_append, List.length_append, List.length_cons]
    by_cases hx : x = a
    · rw [if_pos hx, if_neg (by omega)]; simp; omega
    · rw [if_neg hx]
      have : (if y = a then [x] else ([] : List Int)).length ≤ 1 := by split <;> simp
      simp at this ⊢; omega
theorem nearsM_length (r : Int) (ds : List (Int × Int)) : (nearsM r ds).length = r.toNat := by
  unfold nearsM; rw [List.length_map, numL_length]; unfold besM; simp
theorem sf_ok {r : Int} {ds : List (Int × Int)} {ws : List Int} (ok : HOk' r ds) (wok : WOk r ws) : SfOk (nearsM r ds) ws := by
  refine ⟨wok.1, wok.2.1, fun w m => ⟨(wok.2.2.1 w m).1, by rw [nearsM_length]; have := wok.2.2.1 w m; omega⟩, fun z hr => ?_⟩
  unfold nearsM at hr
  obtain ⟨p, hp, rfl⟩ := List.mem_map.mp hr
  rw [sortO_len, List.length_append]
  have := numL_mem hp
  unfold besM at this
  obtain ⟨a, _, e⟩ := List.mem_map.mp this
  rw [← e]
  unfold isortI
  rw [List.length_mergeSort]
  have h1 := nbrs_len1 (a : Int) ds fun d m => (ok.2.2.1 d m).2.1
  have h2 := ok.2.2.2.2
  simp; omega

def spHand (K : PySem.W.Frag) : Sp := fun vs H Q _ => ∃ (v : V) (d : Scr K), vs = [v] ∧ Py.rep d v H ∧ d.l.length ≤ 63 ∧ ∀ t c (ns : List Int) m H2, Gr H H2 → H2 t = none → H2 c = some (.lst (ns.map V.int)) → Q (.ref t) (upd H2 t (.lst [.ref c, .int 0, .int 0, .int m, .int 0]))
theorem spHand_len {K : PySem.W.Frag} {vs : List V} {H : Hp} {Q : VK} {E : XK} (h : spHand K vs H Q E) : vs.length = 1 := by obtain ⟨_, _, rfl, _⟩ := h; rfl

def spDraw : Sp := fun vs H Q _ => ∃ (t c : Addr) (ns : List Int) (i l m n many : Int), vs = [.ref t, .int many] ∧ H t = some (.lst [.ref c, .int i, .int l, .int m, .int n]) ∧ H c = some (.lst (ns.map V.int)) ∧ 0 ≤ i ∧ 1 ≤ many ∧ many < 1073741824 ∧
  ∀ (d i' l' m' n' : Int) (H' : Hp), 0 ≤ d → d < many → 0 ≤ i' → Ms t H H' → H' t = some (.lst [.ref c, .int i', .int l', .int m', .int n']) → Q (.int d) H'
theorem spDraw_len {vs : List V} {H : Hp} {Q : VK} {E : XK} (h : spDraw vs H Q E) : vs.length = 2 := by obtain ⟨_, _, _, _, _, _, _, _, rfl, _⟩ := h; rfl

def spIs (K : PySem.W.Frag) (n : Nat) : Sp := Sp2 (fun (a b : Dq K) => a = b ∧ ∃ m, n = m + 1 ∧ Pln m a.d) (fun _ _ (r : Bool) => r = true)
theorem spIs_len {K : PySem.W.Frag} {n : Nat} {vs : List V} {H : Hp} {Q : VK} {E : XK} (h : spIs K n vs H Q E) : vs.length = 2 := Sp2.len h

def FOk (n : Nat) (fl : List (Int × Int)) : Prop := fl.Nodup ∧ (∀ d ∈ fl, 0 ≤ d.1 ∧ d.1 < d.2 ∧ d.2 < n) ∧ fl.length ≤ tri n
def SOk (n : Nat) (l : List Int) : Prop := l.Nodup ∧ (∀ x ∈ l, 0 ≤ x ∧ x < n) ∧ l.length ≤ n
theorem fok_step {n : Nat} {fl : List (Int × Int)} {sm : List Int} {b : Int} (f : FOk n fl) (s : SOk n sm) (e : b = n) : FOk (n + 1) (fl ++ sm.map fun a => (a, b)) := by
  subst e
  refine ⟨List.nodup_append.mpr ⟨f.1, List.Pairwise.map _ (fun a b h => ?_) s.1, fun d hd d' hd' e => ?_⟩, fun d hd => ?_, ?_⟩
  · intro z; exact h (congrArg Prod.fst z)
  · subst e
    obtain ⟨a, _, rfl⟩ := List.mem_map.mp hd'
    have := (f.2.1 _ hd).2.2
    simp at this
  · rcases List.mem_append.mp hd with hd | hd
    · have := f.2.1 d hd; omega
    · obtain ⟨a, ha, rfl⟩ := List.mem_map.mp hd
      have := s.2.1 a ha
      simp; omega
  · rw [List.length_append, List.length_map]
    have h1 := f.2.2
    have h2 := s.2.2
    show _ ≤ tri n + n
    omega
theorem fok_doors {r : Int} {fl : List (Int × Int)} (f : FOk r.toNat fl) (h : 0 ≤ r ∧ r ≤ 8) : DoorsOk r (sortO fl) := by
  refine ⟨fun d hd => ?_, sortO_strict f.1, ?_⟩
  · have := f.2.1 d (mem_sortO.mp hd)
    exact ⟨this.1, this.2.1, by omega⟩
  · rw [sortO_len]
    have h1 := f.2.2
    have h2 := tri_le r.toNat (by omega)
    omega

def LcOk (nv : List (List Int)) (ws : List Int) : Prop := 1 ≤ ws.length ∧ ws.length ≤ 3 ∧ (∀ w ∈ ws, 0 ≤ w ∧ w < nv.length) ∧ ∀ r ∈ nv, r.length ≤ 9

theorem rngI_at {n i : Nat} (h : i < n) : (rngI 0 n)[i]? = some (i : Int) := by
  unfold rngI
  rw [List.getElem?_map, List.getElem?_range h]
  simp
theorem numL_at {α : Type} {l : List α} {i : Nat} {x : α} (h : l[i]? = some x) : (numL l)[i]? = some ((i : Int), x) := by
  unfold numL
  exact List.getElem?_zip_eq_some.mpr ⟨rngI_at (List.getElem?_eq_some_iff.mp h).1, h⟩
theorem near_nearsM {r : Int} {ds : List (Int × Int)} (ok : HOk' r ds) {w o : Int} (w0 : 0 ≤ w) (w1 : w < r) : o ∈ (nearsM r ds).getD w.toNat [] ↔ Near r ds w o := by
  have hb : (besM r ds)[w.toNat]? = some (isortI (nbrs w ds)) := by
    unfold besM
    rw [List.getElem?_map, List.getElem?_range (by omega)]
    show some (isortI (nbrs ((w.toNat : Nat) : Int) ds)) = _
    rw [Int.toNat_of_nonneg w0]
  have hm : (nearsM r ds)[w.toNat]? = some (sortO (isortI (nbrs w ds) ++ [w])) := by
    unfold nearsM
    rw [List.getElem?_map, numL_at hb]
    show some (sortO (isortI (nbrs w ds) ++ [((w.toNat : Nat) : Int)])) = _
    rw [Int.toNat_of_nonneg w0]
  rw [List.getD_eq_getElem?_getD, hm]
  show o ∈ sortO (isortI (nbrs w ds) ++ [w]) ↔ _
  rw [mem_sortO, List.mem_append, ← isortI_eq, mem_sortO, mem_nbrs]
  have rng : ∀ d ∈ ds, 0 ≤ d.1 ∧ d.1 < d.2 ∧ d.2 < r := ok.2.2.1
  constructor
  · rintro ((m | m) | m)
    · have := rng _ m; simp only [] at this
      exact ⟨⟨w0, w1⟩, ⟨by omega, by omega⟩, .inr (.inl m)⟩
    · have := rng _ m; simp only [] at this
      exact ⟨⟨w0, w1⟩, ⟨by omega, by omega⟩, .inr (.inr m)⟩
    · simp at m; subst m; exact ⟨⟨w0, w1⟩, ⟨w0, w1⟩, .inl rfl⟩
  · rintro ⟨_, _, e | m | m⟩
    · subst e; exact .inr (by simp)
    · exact .inl (.inl m)
    · exact .inl (.inr m)
theorem near_law {r : Int} {ds : List (Int × Int)} (ok : ∀ d ∈ ds, DoorOk r d) {w o : Int} (w0 : 0 ≤ w) (w1 : w < r) : o ∈ (lawNears (r, ds)).getD w.toNat [] ↔ Near r ds w o := by
  have hm : (lawNears (r, ds))[w.toNat]? = some ((rngI 0 r.toNat).filter fun one => decide (one = w) || decide ((min one w, max one w) ∈ ds)) := by
    unfold lawNears
    rw [List.getElem?_map, rngI_at (show w.toNat < r.toNat by omega), Int.toNat_of_nonneg w0]
    rfl
  rw [List.getD_eq_getElem?_getD, hm]
  show o ∈ (rngI 0 r.toNat).filter _ ↔ _
  rw [List.mem_filter, mem_rngI, Bool.or_eq_true, decide_eq_true_eq, decide_eq_true_eq]
  constructor
  · rintro ⟨⟨h1, h2⟩, e | m⟩
    · exact ⟨⟨w0, w1⟩, ⟨h1, by omega⟩, .inl e⟩
    · have := ok _ m
      unfold DoorOk at this
      simp only [] at this
      refine ⟨⟨w0, w1⟩, ⟨h1, by omega⟩, ?_⟩
      by_cases hle : o ≤ w
      · rw [Int.min_eq_left hle, Int.max_eq_right hle] at m
        exact .inr (.inr m)
      · rw [Int.min_eq_right (by omega), Int.max_eq_left (by omega)] at m
        exact .inr (.inl m)
  · rintro ⟨_, ⟨h1, h2⟩, e | m | m⟩
    · exact ⟨⟨h1, by omega⟩, .inl e⟩
    · have := ok _ m
      unfold DoorOk at this
      simp only [] at this
      exact ⟨⟨h1, by omega⟩, .inr (by rw [Int.min_eq_right (by omega), Int.max_eq_left (by omega)]; exact m)⟩
    · have := ok _ m
      unfold DoorOk at this
      simp only [] at this
      exact ⟨⟨h1, by omega⟩, .inr (by rw [Int.min_eq_left (by omega), Int.max_eq_right (by omega)]; exact m)⟩
theorem mem_told {r : Int} {ds : List (Int × Int)} {ws : List Int} (ok : HOk' r ds) (wok : WOk r ws) {x : List Int} : x ∈ stepsM (nearsM r ds) ws ↔ ∃ os, Fw (Near r ds) ws os ∧ x = sortO os := by
  unfold stepsM
  rw [mem_sortO, mem_stepsKV]
  constructor
  · rintro ⟨os, f, e⟩
    exact ⟨os, f.impM fun a m b hb => (near_nearsM ok (wok.2.2.1 a m).1 (wok.2.2.1 a m).2).mp hb, e⟩
  · rintro ⟨os, f, e⟩
    exact ⟨os, f.impM fun a m b hb => (near_nearsM ok (wok.2.2.1 a m).1 (wok.2.2.1 a m).2).mpr hb, e⟩
theorem come_eq {r : Int} {ds : List (Int × Int)} {ws : List Int} (ok : HOk' r ds) (wok : WOk r ws) : stepsM (nearsM r ds) ws = lawCome (lawNears (r, ds)) ws := by
  unfold lawCome stepsM
  refine sortO_ext (nodup_stepsKV _ _) (nodup_foundM _ _ (by unfold keysD; exact List.nodup_nil)) fun x => ?_
  have h1 := mem_told ok wok (x := x)
  unfold stepsM at h1
  rw [mem_sortO] at h1
  unfold foundM
  rw [h1, mem_foundM]
  constructor
  · rintro ⟨os, f, e⟩
    exact .inr ⟨os, (mem_rowsM _).mpr (f.impM fun a m b hb => (near_law ok.2.2.1 (wok.2.2.1 a m).1 (wok.2.2.1 a m).2).mpr hb), e⟩
  · rintro (h | ⟨os, f, e⟩)
    · unfold keysD at h; simp at h
    · exact ⟨os, ((mem_rowsM _).mp f).impM fun a m b hb => (near_law ok.2.2.1 (wok.2.2.1 a m).1 (wok.2.2.1 a m).2).mp hb, e⟩
theorem told_self {r : Int} {ds : List (Int × Int)} {ws : List Int} (ok : HOk' r ds) (wok : WOk r ws) : ws ∈ stepsM (nearsM r ds) ws :=
  (mem_told ok wok).mpr ⟨ws, Fw.self fun a m => ⟨wok.2.2.1 a m, wok.2.2.1 a m, .inl rfl⟩, (sortO_id wok.2.2.2).symm⟩
theorem told_ok {r : Int} {ds : List (Int × Int)} {ws later : List Int} (ok : HOk' r ds) (wok : WOk r ws) (hl : later ∈ stepsM (nearsM r ds) ws) : WOk r later ∧ ws ∈ stepsM (nearsM r ds) later := by
  obtain ⟨os, f, rfl⟩ := (mem_told ok wok).mp hl
  have wok2 : WOk r (sortO os) := ⟨by rw [sortO_len, f.length]; exact wok.1, by rw [sortO_len, f.length]; exact wok.2.1, fun w hw => by
    obtain ⟨w', _, hn⟩ := f.mem w (mem_sortO.mp hw)
    exact hn.2.1, sortO_le _⟩
  refine ⟨wok2, (mem_told ok wok2).mpr ?_⟩
  have f2 : Fw (Near r ds) os ws := f.flip fun a b n => n.symm
  obtain ⟨ws', p, f3⟩ := f2.perm (sortO_perm os).symm
  exact ⟨ws', f3, by rw [← sortO_of_perm p, sortO_id wok.2.2.2]⟩
theorem told_len {r : Int} {ds : List (Int × Int)} {ws : List Int} (ok : HOk' r ds) (wok : WOk r ws) : (stepsM (nearsM r ds) ws).length ≤ 100000 := by
  unfold stepsM
  rw [sortO_len]
  have := stepsKV_len (sf_ok ok wok).2.2.2 (ws := ws) ws.length (Nat.le_refl _)
  rw [List.take_length] at this
  unfold keysD
  rw [List.length_map]
  refine Nat.le_trans this ?_
  have h1 := wok.1
  have h2 := wok.2.1
  rcases (show ws.length = 1 ∨ ws.length = 2 ∨ ws.length = 3 by omega) with e | e | e <;> rw [e] <;> decide
theorem told_pln {r : Int} {ds : List (Int × Int)} {ws : List Int} (ok : HOk' r ds) (wok : WOk r ws) : Pln 2 (PyD.toD (Ls.mk (stepsM (nearsM r ds) ws))) := by
  show Pln 2 (.list ((stepsM (nearsM r ds) ws).map PyD.toD))
  simp only [Pln]
  refine ⟨by rw [List.length_map]; exact told_len ok wok, fun d hd => ?_⟩
  obtain ⟨k, hk, rfl⟩ := List.mem_map.mp hd
  have hlen : k.length ≤ 3 := by
    obtain ⟨os, f, rfl⟩ := (mem_told ok wok).mp hk
    rw [sortO_len, f.length]; exact wok.2.1
  show Pln 1 (.tuple (k.map PyDI.toD))
  simp only [Pln]
  refine ⟨by rw [List.length_map]; omega, fun d hd => ?_⟩
  obtain ⟨z, _, rfl⟩ := List.mem_map.mp hd
  show Pln 0 (.int z)
  simp [Pln]
theorem lc_ok {r : Int} {ds : List (Int × Int)} {ws : List Int} (ok : HOk' r ds) (wok : WOk r ws) : LcOk (lawNears (r, ds)) ws := by
  have hl : (lawNears (r, ds)).length = r.toNat := by unfold lawNears; rw [List.length_map, rngI_length]
  refine ⟨wok.1, wok.2.1, fun w m => ⟨(wok.2.2.1 w m).1, by rw [hl]; have := wok.2.2.1 w m; omega⟩, fun z hr => ?_⟩
  unfold lawNears at hr
  obtain ⟨a, _, rfl⟩ := List.mem_map.mp hr
  refine Nat.le_trans (List.length_filter_le _ _) ?_
  rw [rngI_length]
  have := ok.2.1
  show r.toNat ≤ 9
  omega
theorem last_come : stepsM (nearsM 3 [(0, 1)]) [0, 2] = [[0, 2], [1, 2]] := by
  unfold stepsM stepsKV stepOut stepMid nearsM besM
  simp only [← isortI_eq]
  unfold stepIn
  simp only [sortO_ins]
  decide +kernel

def LotOk (r : Int) (l : List Int) : Prop := (∀ x ∈ l, 0 ≤ x ∧ x < r) ∧ l.Pairwise (· < ·) ∧ l.length ≤ 100
theorem ltI_all {ds : List Int} (h : ds.Pairwise (· < ·)) : (List.map (fun (d : Int × Int) => decide (d.1 < d.2)) (ds.zip (cutL ds (some 1) none))).all id = true :=
  lt_all (α := Int) (h.imp fun z => decide_eq_true z)

def RowOk (r : Int) (l : List Int) : Prop := 0 ≤ r ∧ r ≤ 9 ∧ l.Perm (rngI 0 r.toNat)
theorem rngI_le (lo : Int) (n : Nat) : (rngI lo n).Pairwise (· ≤ ·) := by
  unfold rngI
  exact List.Pairwise.map _ (fun a b h => by omega) List.pairwise_lt_range

theorem cutL_head {α : Type} (l : List α) {i : Int} (h : 0 ≤ i) : cutL l none (some i) = l.take i.toNat := by
  obtain ⟨n, rfl⟩ := Int.eq_ofNat_of_zero_le h
  unfold cutL
  rw [HT.sIx_none, show HT.sIx l.length l.length (some (n : Int)) = min n l.length from HT.sIx_nat l.length l.length n]
  simp

def openM (r : Int) (ds : List (Int × Int)) (l : List Int) : List Int := l.filter fun room => !(((nearsM r ds).getD room.toNat []).map (fun z => decide (z ∈ l))).all id
theorem nearsM_row {r : Int} {ds : List (Int × Int)} (ok : HOk' r ds) : ∀ z ∈ nearsM r ds, z.length ≤ 37 := fun z hr => by
  unfold nearsM at hr
  obtain ⟨p, hp, rfl⟩ := List.mem_map.mp hr
  rw [sortO_len, List.length_append]
  have := numL_mem hp
  unfold besM at this
  obtain ⟨a, _, e⟩ := List.mem_map.mp this
  rw [← e]
  unfold isortI
  rw [List.length_mergeSort]
  have h1 := nbrs_len1 (a : Int) ds fun d m => (ok.2.2.1 d m).2.1
  have h2 := ok.2.2.2.2
  simp; omega

def SprOk (r : Int) (ds : List (Int × Int)) (rooms barred ks : List Int) : Prop := ks.Nodup ∧ (∀ k ∈ ks, 0 ≤ k ∧ k < r) ∧ ∀ S : Int → Prop, (∀ f ∈ rooms, f ∉ barred → S f) → (∀ y, S y → ∀ z, Near r ds y z → z ∉ barred → S z) → ∀ k ∈ ks, S k
structure SInv (r : Int) (ds : List (Int × Int)) (rooms barred : List Int) (kv : List (Int × Bool)) (wt : List Int) : Prop where
  nd : (keysD kv).Nodup
  kr : ∀ k ∈ keysD kv, 0 ≤ k ∧ k < r
  wr : ∀ w ∈ wt, 0 ≤ w ∧ w < r
  up : ∀ S : Int → Prop, (∀ f ∈ rooms, f ∉ barred → S f) → (∀ y, S y → ∀ z, Near r ds y z → z ∉ barred → S z) → (∀ k ∈ keysD kv, S k) ∧ ∀ w ∈ wt, w ∉ barred → S w
def free (r : Int) (kv : List (Int × Bool)) : Nat := ((rngI 0 r.toNat).filter fun x => decide (x ∉ keysD kv)).length
theorem free_le (r : Int) (kv : List (Int × Bool)) : free r kv ≤ r.toNat := by
  unfold free
  refine Nat.le_trans (List.length_filter_le _ _) ?_
  rw [rngI_length]; exact Nat.le_refl _
theorem filter_lt {α : Type} {p q : α → Bool} {x : α} : ∀ {l : List α}, (∀ a ∈ l, p a = true → q a = true) → x ∈ l → p x = false → q x = true → (l.filter p).length < (l.filter q).length
  | [], _, m, _, _ => by simp at m
  | a :: l, h, m, hp, hq => by
    have hle : ∀ l : List α, (∀ a ∈ l, p a = true → q a = true) → (l.filter p).length ≤ (l.filter q).length := fun l => by
      induction l with
      | nil => intro _; exact Nat.le_refl _
      | cons b l ih =>
        intro h
        have := ih fun a m => h a (List.mem_cons_of_mem _ m)
        rw [List.filter_cons, List.filter_cons]
        split
        · rename_i e
          rw [if_pos (h b List.mem_cons_self e)]
          simp; omega
        · split
          · simp; omega
          · exact this
    rw [List.filter_cons, List.filter_cons]
    rcases List.mem_cons.mp m with e | m
    · subst e
      rw [hp, hq]
      have := hle l fun a m => h a (List.mem_cons_of_mem _ m)
      simp; omega
    · have ih := filter_lt (fun a m => h a (List.mem_cons_of_mem _ m)) m hp hq
      split
      · rename_i e
        rw [if_pos (h a List.mem_cons_self e)]
        simp; omega
      · split
        · simp; omega
        · exact ih
theorem free_put {r : Int} {kv : List (Int × Bool)} {x : Int} {v : Bool} (hx : 0 ≤ x ∧ x < r) (hn : x ∉ keysD kv) : free r (putD kv x v) + 1 ≤ free r kv := by
  unfold free
  refine filter_lt (x := x) (fun a _ h => ?_) (mem_rngI.mpr (by omega)) ?_ ?_
  · simp at h ⊢
    exact fun m => h (mem_putD.mpr (.inr m))
  · simp
    exact mem_putD.mpr (.inl rfl)
  · simpa using hn
theorem keys_len {r : Int} {kv : List (Int × Bool)} (nd : (keysD kv).Nodup) (kr : ∀ k ∈ keysD kv, 0 ≤ k ∧ k < r) : (keysD kv).length ≤ r.toNat := by
  have p : (keysD kv).Perm ((rngI 0 r.toNat).filter fun x => decide (x ∈ keysD kv)) := (List.perm_ext_iff_of_nodup nd (List.Nodup.sublist List.filter_sublist (rngI_nodup _ _))).mpr fun a => by
    rw [List.mem_filter, mem_rngI]
    constructor
    · intro m; have := kr a m; exact ⟨by omega, by simpa using m⟩
    · intro m; simpa using m.2
  rw [p.length_eq]
  refine Nat.le_trans (List.length_filter_le _ _) ?_
  rw [rngI_length]; exact Nat.le_refl _
theorem sinv_put {r : Int} {ds : List (Int × Int)} {rooms barred : List Int} {kv : List (Int × Bool)} {wt row : List Int} {x : Int} (ok : HOk' r ds) (i : SInv r ds rooms barred kv (wt ++ [x])) (h1 : x ∉ keysD kv) (h2 : x ∉ barred) (hx : 0 ≤ x ∧ x < r) (hr : ∀ z ∈ row, Near r ds x z) : SInv r ds rooms barred (putD kv x true) (wt ++ row) := by
  refine ⟨nodup_putD i.nd, fun k m => ?_, fun w m => ?_, fun S s1 s2 => ?_⟩
  · rcases mem_putD.mp m with e | m
    · subst e; exact hx
    · exact i.kr k m
  · rcases List.mem_append.mp m with m | m
    · exact i.wr w (List.mem_append_left _ m)
    · exact (hr w m).2.1
  · have hu := i.up S s1 s2
    have hSx : S x := hu.2 x (by simp) h2
    refine ⟨fun k m => ?_, fun w m hb => ?_⟩
    · rcases mem_putD.mp m with e | m
      · subst e; exact hSx
      · exact hu.1 k m
    · rcases List.mem_append.mp m with m | m
      · exact hu.2 w (List.mem_append_left _ m) hb
      · exact s2 x hSx w (hr w m) hb
theorem sinv_skip {r : Int} {ds : List (Int × Int)} {rooms barred : List Int} {kv : List (Int × Bool)} {wt : List Int} {x : Int} (i : SInv r ds rooms barred kv (wt ++ [x])) (_h : x ∉ keysD kv → x ∈ barred) : SInv r ds rooms barred kv wt :=
  ⟨i.nd, i.kr, fun w m => i.wr w (List.mem_append_left _ m), fun S s1 s2 => ⟨(i.up S s1 s2).1, fun w m hb => (i.up S s1 s2).2 w (List.mem_append_left _ m) hb⟩⟩

def sweepM (r : Int) (ds : List (Int × Int)) (row : List Int) : List (List Int) := (numL row).map fun d => sortO (openM r ds (sortO (row.take d.1.toNat)) ++ [d.2])

def UInv (r : Int) (ds : List (Int × Int)) (sw : List (List Int)) (n : Nat) (fl : List (List Int)) : Prop := fl.length = n + 1 ∧ (∀ s, sw[0]? = some s → fl[0]? = some ((rngI 0 r.toNat).filter fun x => decide (x ∉ s))) ∧
  (∀ i one other, i + 1 ≤ n → sw[i]? = some one → sw[i + 1]? = some other → ∃ a b ks, fl[i]? = some a ∧ fl[i + 1]? = some b ∧ SprOk r ds a (one.filter fun x => decide (x ∈ other)) ks ∧ ∀ x, x ∈ b ↔ x ∈ ks ∧ x ∉ other) ∧ ∀ x ∈ fl, x.length ≤ 100 ∧ ∀ y ∈ x, 0 ≤ y ∧ y < r
def UnsOk (r : Int) (ds : List (Int × Int)) (sw d : List (List Int)) : Prop := ∃ n, n + 1 = sw.length ∧ UInv r ds sw n d
theorem nodup_len {r : Int} {l : List Int} (nd : l.Nodup) (kr : ∀ k ∈ l, 0 ≤ k ∧ k < r) : l.length ≤ r.toNat := by
  have e : keysD (l.map fun x => (x, true)) = l := by
    unfold keysD
    rw [List.map_map, show ((fun (x : Int × Bool) => x.1) ∘ fun x => (x, true)) = id from rfl, List.map_id]
  have h := keys_len (r := r) (kv := l.map fun x => (x, true)) (by rw [e]; exact nd) (by rw [e]; exact kr)
  rw [e] at h
  exact h
theorem spr_len {r : Int} {ds : List (Int × Int)} {a barred ks : List Int} (h : SprOk r ds a barred ks) : ks.length ≤ r.toNat := nodup_len h.1 h.2.1
theorem inv_len {r : Int} {ds : List (Int × Int)} {sw fl : List (List Int)} {n : Nat} (h : UInv r ds sw n fl) : ∀ a ∈ fl, a.length ≤ 100 := fun a m => (h.2.2.2 a m).1
theorem uinv_step {r : Int} {ds : List (Int × Int)} {sw fl : List (List Int)} {n : Nat} {one other a ks : List Int} (h : UInv r ds sw n fl) (h1 : sw[n]? = some one) (h2 : sw[n + 1]? = some other) (ha : fl[n]? = some a) (hs : SprOk r ds a (one.filter fun x => decide (x ∈ other)) ks) (h9 : r ≤ 9) :
    UInv r ds sw (n + 1) (fl ++ [(sortO ks).filter fun x => decide (x ∉ other)]) := by
  have hl := h.1
  refine ⟨by rw [List.length_append, hl]; rfl, fun s e => by rw [List.getElem?_append_left (by omega)]; exact h.2.1 s e, fun i o1 o2 hi e1 e2 => ?_, fun x hx => ?_⟩
  · by_cases e : i = n
    · subst e
      rw [h1] at e1
      rw [h2] at e2
      cases e1; cases e2
      refine ⟨a, (sortO ks).filter fun x => decide (x ∉ other), ks, by rw [List.getElem?_append_left (by omega)]; exact ha, by rw [List.getElem?_append_right (by omega), hl, Nat.sub_self]; rfl, hs, fun x => ?_⟩
      rw [List.mem_filter, mem_sortO]; simp
    · obtain ⟨a', b', ks', ea, eb, hs', hm⟩ := h.2.2.1 i o1 o2 (by omega) e1 e2
      exact ⟨a', b', ks', by rw [List.getElem?_append_left (by omega)]; exact ea, by rw [List.getElem?_append_left (by omega)]; exact eb, hs', hm⟩
  · rcases List.mem_append.mp hx with hx | hx
    · exact h.2.2.2 x hx
    · rw [List.mem_singleton.mp hx]
      refine ⟨?_, fun y hy => hs.2.1 y (mem_sortO.mp (List.mem_filter.mp hy).1)⟩
      refine Nat.le_trans (List.length_filter_le _ _) ?_
      rw [sortO_len]
      have := spr_len hs
      omega

def besL (r : Int) (ds : List (Int × Int)) : Ls (Ls Int) := Ls.mk ((besM r ds).map Ls.mk)

def openL (r : Int) (ds : List (Int × Int)) (lot : List Int) : List Int := (sortO lot).filter fun room => (((besM r ds).getD room.toNat []).map (fun z => decide (z ∉ lot))).any id
def OpOk (bv : Ls (Ls Int)) (lot : List Int) : Prop := ∃ r ds, HOk' r ds ∧ bv = besL r ds ∧ (∀ x ∈ lot, 0 ≤ x ∧ x < r) ∧ lot.length ≤ 100
theorem besL_inj {r r2 : Int} {ds ds2 : List (Int × Int)} (e : besL r ds = besL r2 ds2) : besM r ds = besM r2 ds2 := by
  unfold besL at e
  injection e with e
  have := congrArg (List.map Ls.l) e
  rw [List.map_map, List.map_map] at this
  have h : ∀ l : List (List Int), l.map (Ls.l ∘ Ls.mk) = l := fun l => by
    rw [show (Ls.l ∘ Ls.mk : List Int → List Int) = id from rfl, List.map_id]
  rw [h, h] at this
  exact this
theorem besM_row {r : Int} {ds : List (Int × Int)} (ok : HOk' r ds) : ∀ z ∈ besM r ds, z.length ≤ 36 := fun z hz => by
  unfold besM at hz
  obtain ⟨a, _, rfl⟩ := List.mem_map.mp hz
  unfold isortI
  rw [List.length_mergeSort]
  exact Nat.le_trans (nbrs_len1 (a : Int) ds fun d m => (ok.2.2.1 d m).2.1) ok.2.2.2.2

theorem bes_nears {r : Int} {ds : List (Int × Int)} (ok : HOk' r ds) {x : Int} (hx : 0 ≤ x ∧ x < r) {row : List Int} (h : (besM r ds)[x.toNat]? = some row) {z : Int} (hz : z ∈ row) : z ∈ (nearsM r ds).getD x.toNat [] := by
  have hm : (nearsM r ds)[x.toNat]? = some (sortO (row ++ [((x.toNat : Nat) : Int)])) := by
    unfold nearsM
    rw [List.getElem?_map, numL_at h]; rfl
  rw [List.getD_eq_getElem?_getD, hm]
  show z ∈ sortO _
  rw [mem_sortO]
  exact List.mem_append_left _ hz
theorem bes_near {r r' : Int} {ds ds' : List (Int × Int)} (ok : HOk' r ds) (ok' : HOk' r' ds') (e : besM r ds = besM r' ds') : r = r' ∧ ∀ y z, Near r ds y z → Near r' ds' y z := by
  have el := congrArg List.length e
  unfold besM at el
  simp at el
  have h1 := ok.1
  have h2 := ok'.1
  have er : r = r' := by omega
  subst er
  refine ⟨rfl, fun y z h => ?_⟩
  have en : nearsM r ds = nearsM r ds' := by unfold nearsM; rw [e]
  have := (near_nearsM ok h.1.1 h.1.2).mpr h
  rw [en] at this
  exact (near_nearsM ok' h.1.1 h.1.2).mp this

def sweepL (r : Int) (ds : List (Int × Int)) (row : List Int) : List (List Int) := (numL row).map fun d => sortO (openL r ds (row.take d.1.toNat) ++ [d.2])

def KOk (r : Int) (kv : KVs) : Prop := (keysD kv).Nodup ∧ ∀ k ∈ keysD kv, ∃ x y, k = [x, y] ∧ 0 ≤ x ∧ x < y ∧ y < r
def allP : List (List Int) := (rngI 0 9).flatMap fun y => ((rngI 0 9).filter fun x => decide (x < y)).map fun x => [x, y]
theorem allP_len : allP.length = 36 := by decide +kernel
theorem allP_nd : allP.Nodup := by decide +kernel
theorem kok_len {r : Int} {kv : KVs} (h : KOk r kv) (h9 : r ≤ 9) : (keysD kv).length ≤ 36 := by
  have p : (keysD kv).Perm (allP.filter fun x => decide (x ∈ keysD kv)) := (List.perm_ext_iff_of_nodup h.1 (List.Nodup.sublist List.filter_sublist allP_nd)).mpr fun a => by
    rw [List.mem_filter]
    constructor
    · intro m
      obtain ⟨x, y, rfl, hx, hxy, hy⟩ := h.2 a m
      refine ⟨?_, by simpa using m⟩
      unfold allP
      refine List.mem_flatMap.mpr ⟨y, mem_rngI.mpr (by omega), List.mem_map.mpr ⟨x, List.mem_filter.mpr ⟨mem_rngI.mpr (by omega), by simpa using hxy⟩, rfl⟩⟩
    · intro m; simpa using m.2
  rw [p.length_eq]
  have := List.length_filter_le (fun x => decide (x ∈ keysD kv)) allP
  rw [allP_len] at this
  exact this
theorem kok_put {r : Int} {kv : KVs} {k : List Int} (h : KOk r kv) (hk : ∃ x y, k = [x, y] ∧ 0 ≤ x ∧ x < y ∧ y < r) : KOk r (putD kv k true) :=
  ⟨nodup_putD h.1, fun k' m => by
    rcases mem_putD.mp m with e | m
    · subst e; exact hk
    · exact h.2 k' m⟩
def mkD (ord : List Int) : List Int → Int × Int
  | [a, b] => (min (ord.getD a.toNat 0) (ord.getD b.toNat 0), max (ord.getD a.toNat 0) (ord.getD b.toNat 0))
  | _ => (0, 0)
theorem mu_put {H : Hp} {p : Addr} {od : Obj} {kvs : List (List Key × V)} (h : H p = some (.dT kvs)) : Mu p H (upd H p (.frz od (.dT kvs))) := ⟨H, _, _, Gr.refl _, h, (fun _ z => nomatch z), (by intro _ _ _ _ _ z; cases z), rfl⟩
theorem house_doors {r : Int} {kv : KVs} {ord : List Int} (h : KOk r kv) (po : ord.Perm (rngI 0 r.toNat)) (h9 : 0 ≤ r ∧ r ≤ 9) : DoorsOk r (sortO ((keysD kv).map (mkD ord))) := by
  have ol : ord.length = r.toNat := by rw [po.length_eq, rngI_length]
  have ond : ord.Nodup := po.nodup_iff.mpr (rngI_nodup _ _)
  have get : ∀ i : Int, 0 ≤ i → i < r → 0 ≤ ord.getD i.toNat 0 ∧ ord.getD i.toNat 0 < r := fun i h0 h1 => by
    have hi : i.toNat < ord.length := by omega
    rw [List.getD_eq_getElem?_getD, List.getElem?_eq_getElem hi]
    have := mem_rngI.mp (po.mem_iff.mp (List.getElem_mem hi))
    show 0 ≤ ord[i.toNat] ∧ _
    exact ⟨this.1, by have := this.2; show ord[i.toNat] < r; omega⟩
  have inj : ∀ i j : Int, 0 ≤ i → i < r → 0 ≤ j → j < r → ord.getD i.toNat 0 = ord.getD j.toNat 0 → i = j := fun i j h0 h1 h2 h3 e => by
    have hi : i.toNat < ord.length := by omega
    have hj : j.toNat < ord.length := by omega
    rw [List.getD_eq_getElem?_getD, List.getD_eq_getElem?_getD, List.getElem?_eq_getElem hi, List.getElem?_eq_getElem hj] at e
    have hh : ord[i.toNat]? = ord[j.toNat]? := by
      rw [List.getElem?_eq_getElem hi, List.getElem?_eq_getElem hj]
      exact congrArg some e
    have := (List.getElem?_inj hi ond).mp hh
    omega
  have key : ∀ k ∈ keysD kv, DoorOk r (mkD ord k) := fun k m => by
    obtain ⟨x, y, rfl, hx, hxy, hy⟩ := h.2 k m
    have gx := get x hx (by omega)
    have gy := get y (by omega) hy
    have ne : ord.getD x.toNat 0 ≠ ord.getD y.toNat 0 := fun e => by have := inj x y hx (by omega) (by omega) hy e; omega
    unfold mkD DoorOk
    simp only []
    omega
  have nd : ((keysD kv).map (mkD ord)).Nodup := by
    refine List.pairwise_map.mpr (List.Pairwise.imp_of_mem (fun {k k'} m m' hne e => ?_) h.1)
    obtain ⟨x, y, rfl, hx, hxy, hy⟩ := h.2 k m
    obtain ⟨x', y', rfl, hx', hxy', hy'⟩ := h.2 k' m'
    unfold mkD at e
    injection e with e1 e2
    have c : (ord.getD x.toNat 0 = ord.getD x'.toNat 0 ∧ ord.getD y.toNat 0 = ord.getD y'.toNat 0) ∨ (ord.getD x.toNat 0 = ord.getD y'.toNat 0 ∧ ord.getD y.toNat 0 = ord.getD x'.toNat 0) := by omega
    rcases c with ⟨c1, c2⟩ | ⟨c1, c2⟩
    · have a1 := inj x x' hx (by omega) hx' (by omega) c1
      have a2 := inj y y' (by omega) hy (by omega) hy' c2
      exact hne (by rw [a1, a2])
    · have a1 := inj x y' hx (by omega) (by omega) hy' c1
      have a2 := inj y x' (by omega) hy hx' (by omega) c2
      omega
  refine ⟨fun d hd => ?_, sortO_strict nd, ?_⟩
  · obtain ⟨k, m, rfl⟩ := List.mem_map.mp (mem_sortO.mp hd)
    exact key k m
  · rw [sortO_len, List.length_map]
    exact kok_len h h9.2

theorem nearsM_at {r : Int} {ds : List (Int × Int)} {x : Int} (hx : 0 ≤ x ∧ x < r) : (nearsM r ds).getD x.toNat [] = sortO ((besM r ds).getD x.toNat [] ++ [x]) := by
  have hl : (besM r ds).length = r.toNat := by unfold besM; simp
  obtain ⟨row, hrow⟩ : ∃ row, (besM r ds)[x.toNat]? = some row := ⟨_, List.getElem?_eq_getElem (by omega)⟩
  have hm : (nearsM r ds)[x.toNat]? = some (sortO (row ++ [x])) := by
    unfold nearsM
    rw [List.getElem?_map, numL_at hrow]
    show some (sortO (row ++ [((x.toNat : Nat) : Int)])) = _
    rw [Int.toNat_of_nonneg hx.1]
  rw [List.getD_eq_getElem?_getD, List.getD_eq_getElem?_getD, hm, hrow]; rfl
theorem mem_openM {r : Int} {ds : List (Int × Int)} (ok : HOk' r ds) {l : List Int} {x : Int} (hx : 0 ≤ x ∧ x < r) : x ∈ openM r ds l ↔ x ∈ l ∧ ∃ z, Near r ds x z ∧ z ∉ l := by
  unfold openM
  rw [List.mem_filter]
  have h : (!(((nearsM r ds).getD x.toNat []).map (fun z => decide (z ∈ l))).all id) = true ↔ ∃ z, Near r ds x z ∧ z ∉ l := by
    rw [Bool.not_eq_true', ← Bool.not_eq_true, List.all_eq_true]
    constructor
    · intro h
      apply Classical.byContradiction
      intro hc
      refine h fun b hb => ?_
      obtain ⟨z, hz, rfl⟩ := List.mem_map.mp hb
      refine decide_eq_true (Classical.byContradiction fun hzl => hc ⟨z, (near_nearsM ok hx.1 hx.2).mp hz, hzl⟩)
    · rintro ⟨z, hz, hzl⟩ h
      have := h _ (List.mem_map.mpr ⟨z, (near_nearsM ok hx.1 hx.2).mpr hz, rfl⟩)
      exact hzl (of_decide_eq_true this)
  rw [h]
theorem open_eq {r : Int} {ds : List (Int × Int)} {lot : List Int} (hin : ∀ x ∈ lot, 0 ≤ x ∧ x < r) : openM r ds (sortO lot) = openL r ds lot := by
  unfold openM openL
  refine List.filter_congr fun x hx => ?_
  have hxl := mem_sortO.mp hx
  rw [nearsM_at (hin x hxl), Bool.eq_iff_iff, Bool.not_eq_true', ← Bool.not_eq_true, List.all_eq_true, List.any_eq_true]
  constructor
  · intro h
    apply Classical.byContradiction
    intro hc
    refine h fun b hb => ?_
    obtain ⟨z, hz, rfl⟩ := List.mem_map.mp hb
    rcases List.mem_append.mp (mem_sortO.mp hz) with m | m
    · refine decide_eq_true (Classical.byContradiction fun hzl => hc ⟨_, List.mem_map.mpr ⟨z, m, rfl⟩, decide_eq_true fun m' => hzl (mem_sortO.mpr m')⟩)
    · rw [List.mem_singleton.mp m]; exact decide_eq_true hx
  · rintro ⟨b, hb, e⟩ h
    obtain ⟨z, hz, rfl⟩ := List.mem_map.mp hb
    have hzl : z ∉ lot := of_decide_eq_true e
    have := h _ (List.mem_map.mpr ⟨z, mem_sortO.mpr (List.mem_append_left _ hz), rfl⟩)
    exact hzl (mem_sortO.mp (of_decide_eq_true this))
theorem sweep_eq {r : Int} {ds : List (Int × Int)} {row : List Int} (hin : ∀ x ∈ row, 0 ≤ x ∧ x < r) : sweepM r ds row = sweepL r ds row := by
  unfold sweepM sweepL
  refine List.map_congr_left fun d _ => ?_
  rw [open_eq fun x m => hin x (List.mem_of_mem_take m)]
theorem open_all {r : Int} {ds : List (Int × Int)} (ok : HOk' r ds) : openM r ds (rngI 0 r.toNat) = [] := by
  refine List.eq_nil_iff_forall_not_mem.mpr fun x m => ?_
  have hx : 0 ≤ x ∧ x < r := by
    unfold openM at m
    have := mem_rngI.mp (List.mem_filter.mp m).1
    omega
  obtain ⟨_, z, hz, hzl⟩ := (mem_openM ok hx).mp m
  exact hzl (mem_rngI.mpr (by have := hz.2.1; omega))
theorem sweepM_at {r : Int} {ds : List (Int × Int)} {row : List Int} {i : Nat} {x : Int} (h : row[i]? = some x) : (sweepM r ds row)[i]? = some (sortO (openM r ds (sortO (row.take i)) ++ [x])) := by
  unfold sweepM
  rw [List.getElem?_map, numL_at h]; rfl
theorem mem_sweep {r : Int} {ds : List (Int × Int)} {row l : List Int} {i : Nat} {x : Int} (h : row[i]? = some x) (hl : (sweepM r ds row)[i]? = some l) {z : Int} : z ∈ l ↔ z ∈ openM r ds (sortO (row.take i)) ∨ z = x := by
  rw [sweepM_at h] at hl
  cases hl
  rw [mem_sortO, List.mem_append, List.mem_singleton]
/-- the rooms behind are never reached -/
theorem sweep_step {r : Int} {ds : List (Int × Int)} (ok : HOk' r ds) {row : List Int} (hin : ∀ x ∈ row, 0 ≤ x ∧ x < r) {i : Nat} {one other a ks : List Int} {x y : Int} (hx : row[i]? = some x) (hy : row[i + 1]? = some y) (h1 : (sweepM r ds row)[i]? = some one) (h2 : (sweepM r ds row)[i + 1]? = some other)
    (ha : ∀ z ∈ a, z ∉ row.take (i + 1)) (hs : SprOk r ds a (one.filter fun x => decide (x ∈ other)) ks) : ∀ z ∈ ks, z ∉ other → z ∉ row.take (i + 2) := by
  have htk : row.take (i + 1) = row.take i ++ [x] := by rw [List.take_add_one, hx]; rfl
  have htk2 : row.take (i + 2) = row.take (i + 1) ++ [y] := by rw [List.take_add_one, hy]; rfl
  have hS := hs.2.2 (fun z => z ∉ row.take (i + 1)) (fun f m _ => ha f m) fun u hu z hz hzb hzt => by
    have hz0 := hin z (List.mem_of_mem_take hzt)
    have nzu : Near r ds z u := hz.symm
    have m2 : z ∈ other := (mem_sweep hy h2).mpr (.inl ((mem_openM ok hz0).mpr ⟨mem_sortO.mpr hzt, u, nzu, fun m => hu (mem_sortO.mp m)⟩))
    have m1 : z ∈ one := (mem_sweep hx h1).mpr (by
      rw [htk] at hzt hu
      rcases List.mem_append.mp hzt with m | m
      · exact .inl ((mem_openM ok hz0).mpr ⟨mem_sortO.mpr m, u, nzu, fun m' => hu (List.mem_append_left _ (mem_sortO.mp m'))⟩)
      · exact .inr (List.mem_singleton.mp m))
    exact hzb (List.mem_filter.mpr ⟨m1, decide_eq_true m2⟩)
  intro z hz hzo hzt
  rw [htk2] at hzt
  rcases List.mem_append.mp hzt with m | m
  · exact hS z hz m
  · exact hzo ((mem_sweep hy h2).mpr (.inr (List.mem_singleton.mp m)))
theorem known_open : openM 3 [(0, 1), (1, 2)] [0, 1] = [1] := by
  unfold openM nearsM besM
  simp only [← isortI_eq, sortO_ins]
  decide +kernel
theorem known_sweep : sweepM 3 [(0, 1), (1, 2)] [0, 1, 2] = [[0], [0, 1], [1, 2]] := by
  unfold sweepM openM nearsM besM
  simp only [← isortI_eq, sortO_ins]
  decide +kernel
theorem rngI_lt (lo : Int) (n : Nat) : (rngI lo n).Pairwise (· < ·) := by
  unfold rngI
  exact List.Pairwise.map _ (fun a b h => by omega) List.pairwise_lt_range
theorem sweepM_length (r : Int) (ds : List (Int × Int)) (row : List Int) : (sweepM r ds row).length = row.length := by unfold sweepM; rw [List.length_map, numL_length]
theorem first_out {r : Int} {ds : List (Int × Int)} {row : List Int} {s : List Int} (hs : (sweepM r ds row)[0]? = some s) {z : Int} (hz : z ∉ s) : z ∉ row.take 1 := fun m => by
  cases row with
  | nil => simp at m
  | cons x l =>
    have : z = x := by simpa using m
    exact hz ((mem_sweep (i := 0) (x := x) rfl hs).mpr (.inr this))
theorem uns_out {r : Int} {ds : List (Int × Int)} (ok : HOk' r ds) {row : List Int} (hin : ∀ x ∈ row, 0 ≤ x ∧ x < r) {n : Nat} {fl : List (List Int)} (h : UInv r ds (sweepM r ds row) n fl) (hn : n + 1 ≤ row.length) : ∀ i a, i ≤ n → fl[i]? = some a → ∀ z ∈ a, z ∉ row.take (i + 1)
  | 0, a, _, ha, z, hz => by
    obtain ⟨s, hs⟩ : ∃ s, (sweepM r ds row)[0]? = some s := ⟨_, List.getElem?_eq_getElem (by rw [sweepM_length]; omega)⟩
    rw [h.2.1 s hs] at ha
    cases ha
    exact first_out hs (by have := (List.mem_filter.mp hz).2; simpa using this)
  | i + 1, a, hi, ha, z, hz => by
    obtain ⟨one, h1⟩ : ∃ s, (sweepM r ds row)[i]? = some s := ⟨_, List.getElem?_eq_getElem (by rw [sweepM_length]; omega)⟩
    obtain ⟨other, h2⟩ : ∃ s, (sweepM r ds row)[i + 1]? = some s := ⟨_, List.getElem?_eq_getElem (by rw [sweepM_length]; omega)⟩
    obtain ⟨x, hx⟩ : ∃ x, row[i]? = some x := ⟨_, List.getElem?_eq_getElem (by omega)⟩
    obtain ⟨y, hy⟩ : ∃ y, row[i + 1]? = some y := ⟨_, List.getElem?_eq_getElem (by omega)⟩
    obtain ⟨a0, b, ks, e0, e1, hs, hm⟩ := h.2.2.1 i one other hi h1 h2
    rw [ha] at e1
    cases e1
    exact sweep_step ok hin hx hy h1 h2 (uns_out ok hin h hn i a0 (by omega) e0) hs z ((hm z).mp hz).1 ((hm z).mp hz).2
theorem uns_last {r : Int} {ds : List (Int × Int)} (ok : HOk' r ds) {row : List Int} (rok : RowOk r row) (hin : ∀ x ∈ row, 0 ≤ x ∧ x < r) {d : List (List Int)} (h : UnsOk r ds (sweepM r ds row) d) : L2.atI d (-1) = some [] := by
  have hl : row.length = r.toNat := by rw [rok.2.2.length_eq, rngI_length]
  obtain ⟨n, hn, inv⟩ := h
  rw [sweepM_length] at hn
  have hdl := inv.1
  obtain ⟨a, ha⟩ : ∃ a, d[n]? = some a := ⟨_, List.getElem?_eq_getElem (by omega)⟩
  have he : a = [] := by
    refine List.eq_nil_iff_forall_not_mem.mpr fun z hz => ?_
    have h1 := uns_out ok hin inv (by omega) n a (Nat.le_refl _) ha z hz
    have h2 := (inv.2.2.2 a (List.mem_of_getElem? ha)).2 z hz
    rw [List.take_of_length_le (by omega)] at h1
    exact h1 (rok.2.2.mem_iff.mpr (mem_rngI.mpr (by omega)))
  subst he
  unfold L2.atI ixN
  rw [if_neg (by decide), if_pos (by omega)]
  show d[(-1 + (d.length : Int)).toNat]? = _
  rw [show (-1 + (d.length : Int)).toNat = n by omega]
  exact ha
theorem sweep_lots {r : Int} {ds : List (Int × Int)} {row : List Int} (nd : row.Nodup) (hin : ∀ x ∈ row, 0 ≤ x ∧ x < r) (h9 : r ≤ 9) : ∀ l ∈ sweepM r ds row, LotOk r l := fun l m => by
  obtain ⟨i, hi⟩ := List.mem_iff_getElem?.mp m
  have hil := (List.getElem?_eq_some_iff.mp hi).1
  rw [sweepM_length] at hil
  obtain ⟨x, hx⟩ : ∃ x, row[i]? = some x := ⟨_, List.getElem?_eq_getElem hil⟩
  rw [sweepM_at hx] at hi
  cases hi
  have hxm := List.mem_of_getElem? hx
  have nd2 : (openM r ds (sortO (row.take i)) ++ [x]).Nodup := by
    rw [List.nodup_append]
    refine ⟨?_, by simp, fun a ha b hb e => ?_⟩
    · unfold openM
      exact List.Nodup.sublist List.filter_sublist (sortO_nodup (List.Nodup.sublist (List.take_sublist _ _) nd))
    · rw [List.mem_singleton] at hb
      subst hb e
      unfold openM at ha
      have ha2 := mem_sortO.mp (List.mem_filter.mp ha).1
      obtain ⟨j, hj⟩ := List.mem_iff_getElem?.mp ha2
      rw [List.getElem?_take] at hj
      split at hj
      · rename_i hji
        have := (List.getElem?_inj (by omega) nd).mp (hj.trans hx.symm)
        omega
      · cases hj
  have hr : ∀ z ∈ sortO (openM r ds (sortO (row.take i)) ++ [x]), 0 ≤ z ∧ z < r := fun z hz => by
    rcases List.mem_append.mp (mem_sortO.mp hz) with h | h
    · unfold openM at h
      exact hin z (List.mem_of_mem_take (mem_sortO.mp (List.mem_filter.mp h).1))
    · rw [List.mem_singleton.mp h]; exact hin x hxm
  refine ⟨hr, ?_, ?_⟩
  · exact (sortO_strict nd2).imp fun h => of_decide_eq_true h
  · have := nodup_len (sortO_nodup nd2) hr
    omega

end Cl
namespace Cl
open PySem L2 Zw RZ
def spHandF (K : PySem.W.Frag) : Sp := fun vs H Q _ => ∃ (v : V) (d : Scr K), vs = [v] ∧ Py.rep d v H ∧ d.l.length ≤ 63 ∧ ∀ t c (ns : List Int) m H2, Gr H H2 → H2 t = none → H c = none → H2 c = some (.lst (ns.map V.int)) → Q (.ref t) (upd H2 t (.lst [.ref c, .int 0, .int 0, .int m, .int 0]))
theorem spHandF_len {K : PySem.W.Frag} {vs : List V} {H : Hp} {Q : VK} {E : XK} (h : spHandF K vs H Q E) : vs.length = 1 := by obtain ⟨_, _, rfl, _⟩ := h; rfl
def M_law_hand {K : PySem.W.Frag} (a_script : Scr K) : Wm Hand := Wm.ret ⟨⟩
def M_law_draw (_ : Hand) (many : Int) : Wm Int := Wm.draw many
def M_law_besides (r : Int) (ds : List (Int × Int)) : Wm (Ls (Ls Int)) := Wm.grd (HOk' r ds) (besL r ds)
def M_besides {C : Addr} (h : Hs C) : Wm (List (List Int)) := Wm.grd (HOk h) (besM h.r h.ds)
def hsM (C : Addr) (r : Int) (ds : List (Int × Int)) : Wm (Hs C) := Wm.grd (HOk' r ds) (Hs.mk r ds)
theorem ew_make {C : Addr} {σ : L2.St} {H : Hp} {ta tb : TE} {E : XK} {r : Int} {ds : List (Int × Int)} (hn : Neat H) (h1 : Ev ta σ H r) (h2 : Ev tb σ H ds) :
    Ew (tMake C (spInit C) [] E (tCons ta (tCons tb tNil))) σ H (hsM C r ds) := fun P ⟨ok, pp⟩ H1 g Q q => ea_2 h1 h2 H1 g _ fun vs H2 g2 ⟨v, w, d, d', ev, pd, pd', r1, r2⟩ x dx hx hd ne => by
  subst ev pd pd'
  have gm := gr_make (C := C) hx hd ne
  refine ⟨H2, x, dx, v, w, d, d', rfl, hx, hd, (g.trans g2).neat hn, gm, upd_same, Py.mono gm r1, Py.mono gm r2, ok.1, ok.2.1, ok.2.2, fun H' g' r' => ⟨rfl, q _ _ H' pp (g2.trans g') r'⟩⟩
end Cl
/-! N2: rules for wishes: loops, comprehensions. -/
namespace Zw
open PySem L2 RZ
theorem bindP {α β : Type} {m : Wm α} {f : α → Wm β} {P : β → Prop} (h : m fun a => f a P) : Wm.bind m f P := h
theorem retP {α : Type} {a : α} {P : α → Prop} (h : P a) : Wm.ret a P := h
theorem grdP {α : Type} {p : Prop} {a : α} {P : α → Prop} (h : p) (h' : P a) : Wm.grd p a P := ⟨h, h'⟩
theorem optP {α : Type} {o : Option α} {d : α} {P : α → Prop} (h : o = some d) (h' : P d) : Wm.opt o P := ⟨d, h, h'⟩
theorem foldW_rule {α S : Type} {body : α → S → Wm S} {ds : List α} {s0 : S} {P : S → Prop} (I : Nat → S → Prop) (h0 : I 0 s0) (hs : ∀ i d s (k : S → Prop), ds[i]? = some d → I i s → (∀ s', I (i + 1) s' → k s') → body d s k) (hP : ∀ s, I ds.length s → P s) : foldW body ds s0 P := by
  induction ds generalizing s0 I with
  | nil => exact hP _ h0
  | cons d ds ih => exact hs 0 d s0 _ rfl h0 fun s' h' => ih (fun i => I (i + 1)) h' (fun i d s k e => hs (i + 1) d s k (by simpa using e)) hP
theorem forW_rule {α S R : Type} {body : α → S → Wm (Ctl S R)} {ds : List α} {s0 : S} {P : Ctl S R → Prop} (I : Nat → S → Prop) (B : S → Prop) (Rt : R → Prop) (h0 : I 0 s0)
    (hs : ∀ i d s (k : Ctl S R → Prop), ds[i]? = some d → I i s → (∀ s', I (i + 1) s' → k (.nx s')) → (∀ s', B s' → k (.bk s')) → (∀ r, Rt r → k (.rt r)) → body d s k)
    (hP : ∀ s, I ds.length s → P (.nx s)) (hB : ∀ s, B s → P (.nx s)) (hR : ∀ r, Rt r → P (.rt r)) : forW body ds s0 P := by
  induction ds generalizing s0 I with
  | nil => exact hP _ h0
  | cons d ds ih => exact hs 0 d s0 _ rfl h0 (fun s' h' => ih (fun i => I (i + 1)) h' (fun i d s k e => hs (i + 1) d s k (by simpa using e)) hP) (fun s' h' => hB s' h') fun r h' => hR r h'
theorem whileN_rule {S R : Type} {c : S → Wm Bool} {body : S → Wm (Ctl S R)} {P : Ctl S R → Prop} (I : Nat → S → Prop) (bt : S → Bool) (B : S → Prop) (Rt : R → Prop) (hc : ∀ n s, I n s → c s = Wm.ret (bt s))
    (hb : ∀ n s (k : Ctl S R → Prop), I n s → bt s = true → (∀ m s', m < n → I m s' → k (.nx s')) → (∀ s', B s' → k (.bk s')) → (∀ r, Rt r → k (.rt r)) → body s k)
    (hP : ∀ n s, I n s → bt s = false → P (.nx s)) (hB : ∀ s, B s → P (.nx s)) (hR : ∀ r, Rt r → P (.rt r)) : ∀ (N n : Nat) (s : S), n < N → I n s → whileN c body N s P
  | 0, _, _, h, _ => absurd h (by omega)
  | N + 1, n, s, hn, hI => by
    unfold whileN
    rw [hc n s hI]
    show (cond (bt s) _ _ : Wm (Ctl S R)) P
    cases q : bt s with
    | true => exact hb n s _ hI q (fun m s' hm h' => whileN_rule I bt B Rt hc hb hP hB hR N m s' (by omega) h') (fun s' h' => hB s' h') fun r h' => hR r h'
    | false => exact hP n s hI q
theorem whileW_rule {S R : Type} {c : S → Wm Bool} {body : S → Wm (Ctl S R)} {s0 : S} {n0 : Nat} {P : Ctl S R → Prop} (I : Nat → S → Prop) (bt : S → Bool) (B : S → Prop) (Rt : R → Prop) (h0 : I n0 s0) (hc : ∀ n s, I n s → c s = Wm.ret (bt s))
    (hb : ∀ n s (k : Ctl S R → Prop), I n s → bt s = true → (∀ m s', m < n → I m s' → k (.nx s')) → (∀ s', B s' → k (.bk s')) → (∀ r, Rt r → k (.rt r)) → body s k)
    (hP : ∀ n s, I n s → bt s = false → P (.nx s)) (hB : ∀ s, B s → P (.nx s)) (hR : ∀ r, Rt r → P (.rt r)) : whileW c body s0 P :=
  ⟨n0 + 1, whileN_rule I bt B Rt hc hb hP hB hR _ n0 s0 (Nat.lt_succ_self _) h0⟩
theorem lcA_pk {α β : Type} {t : α → Wm Bool} {v : α → Wm β} {T : α → Bool → Prop} {E : α → β → Prop} {P : List β → Prop} : ∀ (ds pre : List α) (acc : List β), Pk T E pre acc → (∀ d ∈ ds, ∀ k : Bool → Prop, (∀ b, T d b → k b) → t d k) → (∀ d ∈ ds, T d true → ∀ k : β → Prop, (∀ x, E d x → k x) → v d k) →
    (∀ l, Pk T E (pre ++ ds) l → P l) → lcA t v ds acc P
  | [], pre, acc, hp, _, _, hP => hP acc (by simpa using hp)
  | d :: ds, pre, acc, hp, ht, hv, hP => by
    refine ht d List.mem_cons_self _ fun b tb => ?_
    cases b with
    | true => exact hv d List.mem_cons_self tb _ fun x ex => lcA_pk ds (pre ++ [d]) (acc ++ [x]) (.yes hp tb ex) (fun d' m => ht d' (List.mem_cons_of_mem _ m)) (fun d' m => hv d' (List.mem_cons_of_mem _ m)) (by simpa using hP)
    | false => exact lcA_pk ds (pre ++ [d]) acc (.no hp tb) (fun d' m => ht d' (List.mem_cons_of_mem _ m)) (fun d' m => hv d' (List.mem_cons_of_mem _ m)) (by simpa using hP)
theorem lcW_pk {α β : Type} {t : α → Wm Bool} {v : α → Wm β} {ds : List α} {P : Ls β → Prop} (T : α → Bool → Prop) (E : α → β → Prop) (hz : ds.length ≤ 100000) (ht : ∀ d ∈ ds, ∀ k : Bool → Prop, (∀ b, T d b → k b) → t d k) (hv : ∀ d ∈ ds, T d true → ∀ k : β → Prop, (∀ x, E d x → k x) → v d k)
    (hP : ∀ l, Pk T E ds l → P (Ls.mk l)) : lcW t v ds P := ⟨hz, lcA_pk ds [] [] .nil ht hv (by simpa using hP)⟩
theorem lcW_ret {α β : Type} {t : α → Wm Bool} {v : α → Wm β} {ds : List α} (f : α → Bool) (g : α → β) (hz : ds.length ≤ 100000) (ht : ∀ d ∈ ds, t d = Wm.ret (f d)) (hv : ∀ d ∈ ds, f d = true → v d = Wm.ret (g d)) : lcW t v ds = Wm.ret (Ls.mk ((ds.filter f).map g)) := by
  have key : ∀ (l : List α) (acc : List β), (∀ d ∈ l, t d = Wm.ret (f d)) → (∀ d ∈ l, f d = true → v d = Wm.ret (g d)) → lcA t v l acc = Wm.ret (acc ++ (l.filter f).map g) := by
    intro l
    induction l with
    | nil => intro acc _ _; simp [lcA]
    | cons a l ih =>
      intro acc h1 h2
      have i1 := fun acc => ih acc (fun d m => h1 d (List.mem_cons_of_mem _ m)) (fun d m => h2 d (List.mem_cons_of_mem _ m))
      unfold lcA
      rw [h1 a List.mem_cons_self, Wm.ret_bind]
      cases q : f a with
      | true =>
        show Wm.bind (v a) (fun x => lcA t v l (acc ++ [x])) = _
        rw [h2 a List.mem_cons_self q, Wm.ret_bind, i1, List.filter_cons, if_pos q]
        simp
      | false =>
        show lcA t v l acc = _
        rw [i1, List.filter_cons, if_neg (by rw [q]; decide)]
  funext P
  unfold lcW
  rw [key ds [] ht hv]
  exact propext ⟨fun z => by have := z.2; rw [List.nil_append] at this; exact this, fun z => ⟨hz, by rw [List.nil_append]; exact z⟩⟩
theorem lcW_map {α β : Type} {v : α → Wm β} {ds : List α} (g : α → β) (hz : ds.length ≤ 100000) (hv : ∀ d ∈ ds, v d = Wm.ret (g d)) : lcW (fun _ => Wm.ret true) v ds = Wm.ret (Ls.mk (ds.map g)) := by
  rw [lcW_ret (fun _ => true) g hz (fun _ _ => rfl) (fun d m _ => hv d m), filter_yes]
theorem foldW_ret {α S : Type} {body : α → S → Wm S} (f : S → α → S) (I : Nat → S → Prop) {ds : List α} {s0 : S} (h0 : I 0 s0) (hb : ∀ i d s, ds[i]? = some d → I i s → body d s = Wm.ret (f s d) ∧ I (i + 1) (f s d)) : foldW body ds s0 = Wm.ret (ds.foldl f s0) := by
  induction ds generalizing s0 I with
  | nil => rfl
  | cons d ds ih =>
    obtain ⟨e, h1⟩ := hb 0 d s0 rfl h0
    show Wm.bind (body d s0) (foldW body ds) = _
    rw [e, Wm.ret_bind]
    exact ih (fun i => I (i + 1)) h1 fun i d s hd => hb (i + 1) d s (by simpa using hd)
theorem allOkI {l : List Int} : ∀ d ∈ l, PySrt.ok d := fun _ _ => trivial
end Zw
/-! N3: a def answers within Q. -/
namespace Zw
open PySem L2 RZ
def Gd {α : Type} (m : Wm α) (Q : α → Prop) : Prop := ∀ P : α → Prop, (∀ x, Q x → P x) → m P
theorem Gd.to {α : Type} {m : Wm α} {Q : α → Prop} (h : Gd m Q) : m Q := h Q fun _ q => q
theorem Gd.mono {α : Type} {m : Wm α} {Q R : α → Prop} (h : Gd m Q) (i : ∀ x, Q x → R x) : Gd m R := fun P p => h P fun x q => p x (i x q)
theorem Gd.ret {α : Type} {a : α} {Q : α → Prop} (h : Q a) : Gd (Wm.ret a) Q := fun P p => p a h
theorem Gd.bind {α β : Type} {m : Wm α} {f : α → Wm β} {Q : α → Prop} {R : β → Prop} (h : Gd m Q) (k : ∀ a, Q a → Gd (f a) R) : Gd (Wm.bind m f) R := fun P p => h _ fun a q => k a q P p
theorem Gd.bindE {α β : Type} {m : Wm α} {f : α → Wm β} {a : α} {R : β → Prop} (h : Gd m (· = a)) (k : Gd (f a) R) : Gd (Wm.bind m f) R := h.bind fun b e => by rw [e]; exact k
theorem Gd.ofE {α : Type} {m : Wm α} {a : α} {Q : α → Prop} (e : m = Wm.ret a) (h : Q a) : Gd m Q := by rw [e]; exact Gd.ret h
theorem Gd.grd {α : Type} {p : Prop} {a : α} {Q : α → Prop} (h : p) (q : Q a) : Gd (Wm.grd p a) Q := fun P z => ⟨h, z a q⟩
theorem Gd.opt {α : Type} {o : Option α} {d : α} {Q : α → Prop} (h : o = some d) (q : Q d) : Gd (Wm.opt o) Q := fun P z => ⟨d, h, z d q⟩
theorem Gd.draw {n : Int} {Q : Int → Prop} (h : 1 ≤ n ∧ n < 1073741824) (q : ∀ d, 0 ≤ d ∧ d < n → Q d) : Gd (Wm.draw n) Q := fun P z => ⟨h, fun d hd => z d (q d hd)⟩
theorem Gd.cond {α : Type} {b : Bool} {m m' : Wm α} {Q : α → Prop} (h1 : b = true → Gd m Q) (h2 : b = false → Gd m' Q) : Gd (cond b m m') Q := by
  cases b with
  | true => exact h1 rfl
  | false => exact h2 rfl
theorem Gd.condT {α : Type} {m m' : Wm α} {Q : α → Prop} (h : Gd m Q) : Gd (_root_.cond true m m') Q := h
theorem Gd.condF {α : Type} {m m' : Wm α} {Q : α → Prop} (h : Gd m' Q) : Gd (_root_.cond false m m') Q := h
theorem Gd.foldW {α S : Type} {body : α → S → Wm S} {ds : List α} {s0 : S} {Q : S → Prop} (I : Nat → S → Prop) (h0 : I 0 s0) (hs : ∀ i d s, ds[i]? = some d → I i s → Gd (body d s) (I (i + 1))) (hQ : ∀ s, I ds.length s → Q s) : Gd (foldW body ds s0) Q := fun P p =>
  foldW_rule I h0 (fun i d s k e hI hk => hs i d s e hI k hk) fun s hI => p s (hQ s hI)
def CtlI {S R : Type} (I B : S → Prop) (Rt : R → Prop) : Ctl S R → Prop
  | .nx s => I s
  | .bk s => B s
  | .rt r => Rt r
theorem Gd.forW {α S R ρ : Type} {body : α → S → Wm (Ctl S R)} {ds : List α} {s0 : S} {g : R → Wm ρ} {rest : S → Wm ρ} {Q : ρ → Prop} (I : Nat → S → Prop) (B : S → Prop) (Rt : R → Prop) (h0 : I 0 s0)
    (hs : ∀ i d s, ds[i]? = some d → I i s → Gd (body d s) (CtlI (I (i + 1)) B Rt))
    (hQ : ∀ s, I ds.length s → Gd (rest s) Q) (hB : ∀ s, B s → Gd (rest s) Q) (hR : ∀ r, Rt r → Gd (g r) Q) : Gd (Wm.bind (forW body ds s0) fun c => Ctl.go c g rest) Q := fun P p =>
  forW_rule I B Rt h0 (fun i d s k e hI k1 k2 k3 => hs i d s e hI k fun c hc => match c, hc with
    | .nx s, hc => k1 s hc
    | .bk s, hc => k2 s hc
    | .rt r, hc => k3 r hc) (fun s hI => hQ s hI P p) (fun s hI => hB s hI P p) fun r hr => hR r hr P p
theorem Gd.whileW {S R ρ : Type} {c : S → Wm Bool} {body : S → Wm (Ctl S R)} {s0 : S} {n0 : Nat} {g : R → Wm ρ} {rest : S → Wm ρ} {Q : ρ → Prop} (I : Nat → S → Prop) (bt : S → Bool) (Rt : R → Prop) (h0 : I n0 s0) (hc : ∀ n s, I n s → c s = Wm.ret (bt s))
    (hb : ∀ n s, I n s → bt s = true → Gd (body s) (CtlI (fun s' => ∃ m, m < n ∧ I m s') (fun _ => False) Rt))
    (hQ : ∀ n s, I n s → bt s = false → Gd (rest s) Q) (hR : ∀ r, Rt r → Gd (g r) Q) : Gd (Wm.bind (whileW c body s0) fun c => Ctl.go c g rest) Q := fun P p =>
  whileW_rule I bt (fun _ => False) Rt h0 hc (fun n s k hI hbt k1 k2 k3 => hb n s hI hbt k fun c hc => match c, hc with
    | .nx s, ⟨m, hm, hI⟩ => k1 m s hm hI
    | .rt r, hc => k3 r hc) (fun n s hI hbt => hQ n s hI hbt P p) (fun s h => h.elim) fun r hr => hR r hr P p
theorem Gd.lc {α β : Type} {t : α → Wm Bool} {v : α → Wm β} {ds : List α} {Q : Ls β → Prop} (T : α → Bool → Prop) (E : α → β → Prop) (hz : ds.length ≤ 100000) (ht : ∀ d ∈ ds, Gd (t d) (T d)) (hv : ∀ d ∈ ds, T d true → Gd (v d) (E d)) (hQ : ∀ l, Pk T E ds l → Q (Ls.mk l)) : Gd (lcW t v ds) Q := fun P p =>
  lcW_pk T E hz (fun d m k hk => ht d m k hk) (fun d m h k hk => hv d m h k hk) fun l hl => p _ (hQ l hl)
theorem Gd.lcE {α β : Type} {t : α → Wm Bool} {v : α → Wm β} {ds : List α} {Q : Ls β → Prop} (f : α → Bool) (g : α → β) (hz : ds.length ≤ 100000) (ht : ∀ d ∈ ds, Gd (t d) (· = f d)) (hv : ∀ d ∈ ds, f d = true → Gd (v d) (· = g d)) (hQ : Q (Ls.mk ((ds.filter f).map g))) : Gd (lcW t v ds) Q :=
  Gd.lc (fun d b => b = f d) (fun d x => x = g d) hz ht (fun d m h => hv d m h.symm) fun l hl => by rw [hl.det]; exact hQ
theorem Gd.lcM {α β : Type} {v : α → Wm β} {ds : List α} {Q : Ls β → Prop} (g : α → β) (hz : ds.length ≤ 100000) (hv : ∀ d ∈ ds, Gd (v d) (· = g d)) (hQ : Q (Ls.mk (ds.map g))) : Gd (lcW (fun _ => Wm.ret true) v ds) Q :=
  Gd.lcE (fun _ => true) g hz (fun d m => Gd.ret rfl) (fun d m _ => hv d m) (by rw [filter_yes]; exact hQ)
/-- loops whose turns are known -/
theorem foldW_det {α S : Type} {body : α → S → Wm S} {ds : List α} {s0 : S} (I : Nat → S → Prop) (h0 : I 0 s0) (hs : ∀ i d s, ds[i]? = some d → I i s → ∃ s', Gd (body d s) (· = s') ∧ I (i + 1) s') : ∃ s', Gd (Zw.foldW body ds s0) (· = s') ∧ I ds.length s' := by
  induction ds generalizing s0 I with
  | nil => exact ⟨s0, Gd.ret rfl, h0⟩
  | cons d ds ih =>
    obtain ⟨s1, e1, h1⟩ := hs 0 d s0 rfl h0
    obtain ⟨s2, e2, h2⟩ := ih (fun i => I (i + 1)) h1 fun i d s k => hs (i + 1) d s (by simpa using k)
    exact ⟨s2, e1.bindE e2, h2⟩
theorem whileN_det {S R : Type} {c : S → Wm Bool} {body : S → Wm (Ctl S R)} (I : Nat → S → Prop) (bt : S → Bool) (hc : ∀ n s, I n s → c s = Wm.ret (bt s)) (hb : ∀ n s, I n s → bt s = true → ∃ m s', Gd (body s) (· = Ctl.nx s') ∧ m < n ∧ I m s') : ∀ (N n : Nat) (s : S), n < N → I n s → ∃ m s', Gd (whileN c body N s) (· = Ctl.nx s') ∧ I m s' ∧ bt s' = false
  | 0, _, _, h, _ => absurd h (by omega)
  | N + 1, n, s, hn, hI => by
    unfold whileN
    rw [hc n s hI]
    show ∃ m s', Gd (cond (bt s) _ _ : Wm (Ctl S R)) _ ∧ _
    cases q : bt s with
    | true =>
      obtain ⟨m, s', e, hm, hI'⟩ := hb n s hI q
      obtain ⟨m2, s2, e2, hI2, q2⟩ := whileN_det I bt hc hb N m s' (by omega) hI'
      exact ⟨m2, s2, e.bindE e2, hI2, q2⟩
    | false => exact ⟨n, s, Gd.ret rfl, hI, q⟩
theorem whileW_det {S R : Type} {c : S → Wm Bool} {body : S → Wm (Ctl S R)} {s0 : S} {n0 : Nat} (I : Nat → S → Prop) (bt : S → Bool) (h0 : I n0 s0) (hc : ∀ n s, I n s → c s = Wm.ret (bt s)) (hb : ∀ n s, I n s → bt s = true → ∃ m s', Gd (body s) (· = Ctl.nx s') ∧ m < n ∧ I m s') : ∃ m s', Gd (Zw.whileW c body s0) (· = Ctl.nx s') ∧ I m s' ∧ bt s' = false := by
  obtain ⟨m, s', e, h⟩ := whileN_det I bt hc hb (n0 + 1) n0 s0 (Nat.lt_succ_self _) h0
  exact ⟨m, s', fun P p => ⟨n0 + 1, e P p⟩, h⟩
end Zw
namespace Zw
open PySem L2 RZ
/-- a def's answer is one, and it is so -/
def Dx {α : Type} (m : Wm α) (R : α → Prop) : Prop := ∃ v, Gd m (· = v) ∧ R v
theorem Dx.gd {α : Type} {m : Wm α} {R : α → Prop} (h : Dx m R) : Gd m R := by obtain ⟨v, e, r⟩ := h; exact e.mono fun x q => by rw [q]; exact r
theorem Dx.ret {α : Type} {a : α} {R : α → Prop} (h : R a) : Dx (Wm.ret a) R := ⟨a, Gd.ret rfl, h⟩
theorem Dx.of {α : Type} {m : Wm α} {a : α} {R : α → Prop} (h : Gd m (· = a)) (r : R a) : Dx m R := ⟨a, h, r⟩
theorem Dx.mono {α : Type} {m : Wm α} {Q R : α → Prop} (h : Dx m Q) (i : ∀ x, Q x → R x) : Dx m R := by obtain ⟨v, e, r⟩ := h; exact ⟨v, e, i v r⟩
theorem Dx.bind {α β : Type} {m : Wm α} {f : α → Wm β} {Q : α → Prop} {R : β → Prop} (h : Dx m Q) (k : ∀ a, Q a → Dx (f a) R) : Dx (Wm.bind m f) R := by
  obtain ⟨a, e, q⟩ := h
  obtain ⟨b, e2, r⟩ := k a q
  exact ⟨b, e.bindE e2, r⟩
theorem Dx.bindE {α β : Type} {m : Wm α} {f : α → Wm β} {a : α} {R : β → Prop} (h : Gd m (· = a)) (k : Dx (f a) R) : Dx (Wm.bind m f) R := (Dx.of (R := (· = a)) h rfl).bind fun b e => by rw [e]; exact k
theorem Dx.cond {α : Type} {b : Bool} {m m' : Wm α} {Q : α → Prop} (h1 : b = true → Dx m Q) (h2 : b = false → Dx m' Q) : Dx (cond b m m') Q := by
  cases b with
  | true => exact h1 rfl
  | false => exact h2 rfl
theorem Dx.condT {α : Type} {m m' : Wm α} {Q : α → Prop} (h : Dx m Q) : Dx (_root_.cond true m m') Q := h
theorem Dx.condF {α : Type} {m m' : Wm α} {Q : α → Prop} (h : Dx m' Q) : Dx (_root_.cond false m m') Q := h
theorem Dx.foldW {α S : Type} {body : α → S → Wm S} {ds : List α} {s0 : S} {R : S → Prop} (I : Nat → S → Prop) (h0 : I 0 s0) (hs : ∀ i d s, ds[i]? = some d → I i s → Dx (body d s) (I (i + 1))) (hR : ∀ s, I ds.length s → R s) : Dx (Zw.foldW body ds s0) R := by
  obtain ⟨s', e, h⟩ := foldW_det I h0 hs
  exact ⟨s', e, hR s' h⟩
theorem Dx.whileW {S R ρ : Type} {c : S → Wm Bool} {body : S → Wm (Ctl S R)} {s0 : S} {n0 : Nat} {g : R → Wm ρ} {rest : S → Wm ρ} {Q : ρ → Prop} (I : Nat → S → Prop) (bt : S → Bool) (h0 : I n0 s0) (hc : ∀ n s, I n s → c s = Wm.ret (bt s))
    (hb : ∀ n s, I n s → bt s = true → Dx (body s) (fun c => ∃ m s', c = Ctl.nx s' ∧ m < n ∧ I m s'))
    (hQ : ∀ n s, I n s → bt s = false → Dx (rest s) Q) : Dx (Wm.bind (Zw.whileW c body s0) fun c => Ctl.go c g rest) Q := by
  obtain ⟨m, s', e, hI, q⟩ := whileW_det I bt h0 hc fun n s hI hbt => by
    obtain ⟨c, e, m, s', ec, h⟩ := hb n s hI hbt
    subst ec
    exact ⟨m, s', e, h⟩
  exact Dx.bindE e (hQ m s' hI q)
end Zw
namespace Cl
open PySem L2 Zw RZ
/-- the laws' own equality, of one thing with itself -/
@[irreducible] def M_law_is {K : PySem.W.Frag} (a b : Dq K) : Wm Bool := Wm.grd (a = b ∧ Pln 2 a.d) true
end Cl
namespace Cl
open PySem L2 Zw RZ
@[irreducible] def M_is_integer (a_thing : Int) : Wm Bool :=
  (Wm.ret (true && (!false)))

@[irreducible] def M_is_within (a_thing : Int) (a_low : Int) (a_high : Int) : Wm Bool :=
  (Wm.bind (M_is_integer a_thing) fun b1 => cond b1 (Wm.ret (decide (a_low ≤ a_thing) && decide (a_thing ≤ a_high))) (Wm.ret false))

@[irreducible] def M_is_tuple (a_thing : TupN) (a_least : Int) (a_most : Int) : Wm Bool :=
  (Wm.ret (true && (decide (a_least ≤ (a_thing.n : Int)) && decide ((a_thing.n : Int) ≤ a_most))))

@[irreducible] def M_is_lot (a_thing : (List Int)) (a_many : Int) : Wm Bool :=
  Wm.bind (Wm.bind (Wm.ret (!true)) fun b5 => cond b5 (Wm.ret true) (Wm.bind (Wm.bind (Wm.bind (Wm.ret a_thing) fun l9 => lcW (fun x_one_2 => (Wm.ret true)) (fun x_one_2 => (M_is_within x_one_2 (0 : Int) (a_many - (1 : Int)))) l9) fun z3 => (Wm.ret (z3.l.all id))) fun b4 => Wm.ret (!b4))) fun b6 => cond b6 ((Wm.ret false)) ((Wm.bind (Wm.bind (Wm.bind (Wm.ret a_thing) fun l7 => Wm.bind (Wm.ret (cutL a_thing (some (1 : Int)) none)) fun l8 => Wm.ret (l7.zip l8)) fun l9 => lcW (fun d10 => (Wm.ret true)) (fun d10 => (Wm.ret (decide (d10.1 < d10.2)))) l9) fun z13 => (Wm.ret (z13.l.all id))))

@[irreducible] def M_is_lot_of {C : Addr} (a_house : (Hs C)) (a_thing : (List Int)) : Wm Bool :=
  (M_is_lot a_thing a_house.r)

@[irreducible] def M_is_row_of {C : Addr} (a_house : (Hs C)) (a_thing : (List Int)) : Wm Bool :=
  Wm.bind (Wm.bind (M_is_tuple (TupN.mk a_thing.length) a_house.r a_house.r) fun b1 => Wm.ret (!b1)) fun b2 => cond b2 ((Wm.ret false)) (Wm.bind (Wm.bind (Wm.bind (Wm.bind (Wm.ret a_thing) fun l9 => lcW (fun x_room_4 => (Wm.ret true)) (fun x_room_4 => (M_is_within x_room_4 (0 : Int) (a_house.r - (1 : Int)))) l9) fun z5 => (Wm.ret (z5.l.all id))) fun b6 => Wm.ret (!b6)) fun b7 => cond b7 ((Wm.ret false)) ((Wm.bind (Wm.grd (∀ d ∈ a_thing, PySrt.ok d) (Ls.mk (sortO a_thing))) fun z8 => (Wm.bind (Wm.grd (-100000 ≤ a_house.r ∧ a_house.r ≤ 100000) (Ls.mk (rngI 0 a_house.r.toNat))) fun z9 => (Wm.ret (decide (z8 = z9)))))))

@[irreducible] def M_check_row {C : Addr} (a_house : (Hs C)) (a_row : (List Int)) : Wm Unit :=
  Wm.bind (Wm.bind (M_is_row_of (C := C) a_house a_row) fun b1 => Wm.ret (!b1)) fun b2 => cond b2 (Wm.fail) (Wm.ret ())

@[irreducible] def M_check_many (a_k : Int) : Wm Unit :=
  Wm.bind (Wm.bind (M_is_within a_k (1 : Int) (9 : Int)) fun b1 => Wm.ret (!b1)) fun b2 => cond b2 (Wm.fail) (Wm.ret ())

@[irreducible] def M_nears {C : Addr} (a_house : (Hs C)) : Wm (List (List Int)) :=
  (Wm.bind (Wm.bind (Wm.bind (M_besides (C := C) a_house) fun l1 => Wm.ret (numL l1)) fun l9 => lcW (fun d3 => (Wm.ret true)) (fun d3 => (Wm.bind (Wm.bind (Wm.grd (d3.2.length + ([d3.1] : (List Int)).length ≤ 100000) (d3.2 ++ ([d3.1] : (List Int)))) fun z6 => (Wm.grd (∀ d ∈ z6, PySrt.ok d) (Ls.mk (sortO z6)))) fun z7 => (Wm.ret z7.l))) l9) fun z8 => (Wm.ret z8.l))

@[irreducible] def M_open_of {C : Addr} (a_house : (Hs C)) (a_lot : (List Int)) : Wm (List Int) :=
  (Wm.bind (Wm.bind (Wm.ret a_lot) fun l9 => lcW (fun x_room_2 => (Wm.bind (Wm.bind (Wm.bind (Wm.bind (M_nears (C := C) a_house) fun z3 => (Wm.bind (Wm.ret x_room_2) fun z4 => (Wm.opt (L2.atI z3 z4)))) fun l9 => lcW (fun x_near_6 => (Wm.ret true)) (fun x_near_6 => (Wm.ret (decide (x_near_6 ∈ a_lot)))) l9) fun z7 => (Wm.ret (z7.l.all id))) fun b8 => Wm.ret (!b8))) (fun x_room_2 => (Wm.ret x_room_2)) l9) fun z9 => (Wm.ret z9.l))

@[irreducible] def M_begun (a_row : (List Int)) (a_at : Int) : Wm (List Int) :=
  (Wm.bind (Wm.grd (∀ d ∈ (cutL a_row none (some a_at)), PySrt.ok d) (Ls.mk (sortO (cutL a_row none (some a_at))))) fun z1 => (Wm.ret z1.l))

@[irreducible] def M_spread {C : Addr} (a_house : (Hs C)) (a_rooms : (List Int)) (a_barred : (Ls Int)) : Wm (DI Bool) :=
  Wm.bind (Wm.ret (DI.mk ([] : List (Int × Bool)))) fun x_found_1 => Wm.bind (Wm.ret (Ls.mk a_rooms)) fun x_waiting_2 => Wm.bind (whileW (R := (DI Bool)) (fun (s9 : (List Int) × (List (Int × Bool))) => (Wm.ret (decide ((0 : Int) < (s9.1.length : Int))))) (fun s9 => Wm.bind (Wm.opt (popL s9.1)) fun z17 => Wm.bind (Wm.ret ((!decide (z17.2 ∈ keysD s9.2)) && (!decide (z17.2 ∈ a_barred.l)))) fun b21 => cond b21 (Wm.bind (Wm.ret true) fun a27 => Wm.bind (Wm.ret z17.2) fun a28 => Wm.bind (Wm.grd (s9.2.length < 100000) (putD s9.2 a28 a27)) fun x_found_22 => Wm.bind (Wm.bind (M_nears (C := C) a_house) fun z24 => (Wm.bind (Wm.ret z17.2) fun z25 => (Wm.opt (L2.atI z24 z25)))) fun a26 => Wm.bind (Wm.grd (z17.1.length + a26.length ≤ 100000) (z17.1 ++ a26)) fun x_waiting_23 => Wm.ret (Ctl.nx (x_waiting_23, x_found_22))) (Wm.ret (Ctl.nx (z17.1, s9.2)))) (x_waiting_2.l, x_found_1.kv)) fun c9 => Ctl.go c9 Wm.ret fun s10 => Wm.ret (DI.mk s10.2)

@[irreducible] def M_sweep_of {C : Addr} (a_house : (Hs C)) (a_row : (List Int)) : Wm (List (List Int)) :=
  Wm.bind (M_check_row (C := C) a_house a_row) fun u1 => Wm.bind (Wm.ret (Ls.mk ([] : List (List Int)))) fun x_found_2 => Wm.bind (Wm.bind (Wm.ret a_row) fun l4 => Wm.ret (numL l4)) fun l30 => Wm.bind (foldW (fun d10 (s12 : (List (List Int))) => Wm.bind (Wm.bind (Wm.bind (Wm.bind (Wm.bind (Wm.ret a_house) fun z21 => (Wm.bind (M_begun a_row d10.1) fun z22 => (M_open_of (C := C) z21 z22))) fun z23 => (Wm.bind (Wm.ret ([d10.2] : (List Int))) fun z24 => (Wm.grd (z23.length + z24.length ≤ 100000) (z23 ++ z24)))) fun z25 => (Wm.grd (∀ d ∈ z25, PySrt.ok d) (Ls.mk (sortO z25)))) fun z26 => (Wm.ret z26.l)) fun a27 => Wm.bind (Wm.grd (s12.length < 100000) (s12 ++ [a27])) fun x_found_20 => Wm.ret x_found_20) l30 x_found_2.l) fun s28 => (Wm.ret s28)

@[irreducible] def M_unsure {C : Addr} (a_house : (Hs C)) (a_sweep : (List (List Int))) : Wm (List (List Int)) :=
  Wm.bind (Wm.ret ((!true) || (decide ((a_sweep.length : Int) = (0 : Int))))) fun b1 => cond b1 (Wm.fail) (Wm.bind (Wm.bind (Wm.ret a_sweep) fun l2 => Wm.ret (numL l2)) fun l64 => Wm.bind (foldW (fun d8 (s10 : Unit) => Wm.bind (Wm.bind (M_is_lot_of (C := C) a_house d8.2) fun b17 => Wm.ret (!b17)) fun b18 => cond b18 (Wm.fail) (Wm.ret ())) l64 ()) fun s19 => Wm.bind (Wm.bind (Wm.bind (Wm.bind (Wm.bind (Wm.ret a_house.r) fun n20 => Wm.grd (-100000 ≤ n20 ∧ n20 ≤ 100000) (rngI 0 n20.toNat)) fun l9 => lcW (fun x_room_22 => (Wm.bind (Wm.ret x_room_22) fun z23 => (Wm.bind (Wm.opt (L2.atI a_sweep (0 : Int))) fun z24 => (Wm.ret (!decide (z23 ∈ z24)))))) (fun x_room_22 => (Wm.ret x_room_22)) l9) fun z25 => (Wm.ret z25.l)) fun z26 => (Wm.grd (([z26] : List (List Int)).length ≤ 100000) (Ls.mk [z26]))) fun x_found_27 => Wm.bind (Wm.bind (Wm.ret a_sweep) fun l29 => Wm.bind (Wm.ret (cutL a_sweep (some (1 : Int)) none)) fun l30 => Wm.ret (l29.zip l30)) fun l63 => Wm.bind (foldW (fun d36 (s38 : (List (List Int))) => Wm.bind (Wm.bind (Wm.ret d36.1) fun l9 => lcW (fun x_room_47 => (Wm.ret (decide (x_room_47 ∈ d36.2)))) (fun x_room_47 => (Wm.ret x_room_47)) l9) fun x_barred_48 => Wm.bind (Wm.bind (Wm.ret a_house) fun z50 => (Wm.bind (Wm.opt (L2.atI s38 (-(1 : Int)))) fun z51 => (Wm.bind (Wm.ret x_barred_48) fun z52 => (M_spread (C := C) z50 z51 z52)))) fun x_later_53 => Wm.bind (Wm.bind (Wm.bind (Wm.bind (Wm.grd (∀ d ∈ (keysD x_later_53.kv), PySrt.ok d) (Ls.mk (sortO (keysD x_later_53.kv)))) fun l56 => Wm.ret l56.l) fun l9 => lcW (fun x_room_58 => (Wm.ret (!decide (x_room_58 ∈ d36.2)))) (fun x_room_58 => (Wm.ret x_room_58)) l9) fun z59 => (Wm.ret z59.l)) fun a60 => Wm.bind (Wm.grd (s38.length < 100000) (s38 ++ [a60])) fun x_found_55 => Wm.ret x_found_55) l63 x_found_27.l) fun s61 => (Wm.ret s61))

@[irreducible] def M_rows_to {C : Addr} (a_house : (Hs C)) (a_k : Int) : Wm (DT (List Int)) :=
  Wm.bind (Wm.ret (DT.mk [(([] : (List Int)), ([] : (List Int)))])) fun x_found_1 => Wm.bind (Wm.grd (([([] : (List Int))] : List (List Int)).length ≤ 100000) (Ls.mk [([] : (List Int))])) fun x_waiting_2 => Wm.bind (whileW (R := (DT (List Int))) (fun (s9 : (List (List Int)) × (List (List Int × (List Int)))) => (Wm.ret (decide ((0 : Int) < (s9.1.length : Int))))) (fun s9 => Wm.bind (Wm.opt (popL s9.1)) fun z17 => Wm.bind (Wm.bind (Wm.ret a_house.r) fun n21 => Wm.grd (-100000 ≤ n21 ∧ n21 ≤ 100000) (rngI 0 n21.toNat)) fun l58 => Wm.bind (foldW (fun x_room_27 (s29 : (List (List Int × (List Int))) × (List (List Int))) => Wm.bind (Wm.bind (Wm.ret (!decide (x_room_27 ∈ z17.2))) fun b38 => cond b38 (Wm.bind (Wm.bind (Wm.grd (z17.2.length + ([x_room_27] : (List Int)).length ≤ 100000) (z17.2 ++ ([x_room_27] : (List Int)))) fun z36 => (Wm.grd (∀ d ∈ z36, PySrt.ok d) (Ls.mk (sortO z36)))) fun z37 => (Wm.ret z37.l)) (Wm.ret z17.2)) fun x_more_39 => Wm.bind (Wm.bind (Wm.ret (!(lkD s29.1 x_more_39).isSome)) fun b44 => cond b44 (Wm.bind (Wm.bind (M_open_of (C := C) a_house x_more_39) fun z41 => (Wm.ret (z41.length : Int))) fun z42 => (Wm.bind (Wm.ret a_k) fun z43 => (Wm.ret (decide (z42 < z43))))) (Wm.ret false)) fun b45 => cond b45 (Wm.bind (Wm.bind (Wm.opt (lkD s29.1 z17.2)) fun z46 => (Wm.bind (Wm.ret ([x_room_27] : (List Int))) fun z47 => (Wm.grd (z46.length + z47.length ≤ 100000) (z46 ++ z47)))) fun a51 => Wm.bind (Wm.ret x_more_39) fun a52 => Wm.bind (Wm.grd (s29.1.length < 100000) (putD s29.1 a52 a51)) fun x_found_48 => Wm.bind (Wm.ret x_more_39) fun a50 => Wm.bind (Wm.grd (s29.2.length < 100000) (s29.2 ++ [a50])) fun x_waiting_49 => Wm.ret (x_found_48, x_waiting_49)) (Wm.ret (s29.1, s29.2))) l58 (s9.2, z17.1)) fun s53 => Wm.ret (Ctl.nx (s53.2, s53.1))) (x_waiting_2.l, x_found_1.kv)) fun c9 => Ctl.go c9 Wm.ret fun s10 => Wm.ret (DT.mk s10.2)

@[irreducible] def M_unseen {C : Addr} (a_house : (Hs C)) (a_k : Int) : Wm (Str × ((List Int) ⊕ (List (List Int)))) :=
  Wm.bind (M_check_many a_k) fun u1 => Wm.bind (M_rows_to (C := C) a_house a_k) fun x_rows_2 => Wm.bind (Wm.grd (-100000 ≤ a_house.r ∧ a_house.r ≤ 100000) (rngI 0 a_house.r.toNat)) fun x_whole_3 => (Wm.bind (Wm.ret ((lkD x_rows_2.kv x_whole_3).isSome)) fun b13 => cond b13 (Wm.bind (Wm.ret ("row" : Str)) fun z7 => (Wm.bind (Wm.bind (Wm.opt (lkD x_rows_2.kv x_whole_3)) fun z6 => (Wm.ret (Sum.inl z6))) fun z8 => (Wm.ret (z7, z8)))) (Wm.bind (Wm.ret ("closed" : Str)) fun z11 => (Wm.bind (Wm.bind (Wm.bind (Wm.grd (∀ d ∈ (keysD x_rows_2.kv), PySrt.ok d) (Ls.mk (sortO (keysD x_rows_2.kv)))) fun z9 => (Wm.ret z9.l)) fun z10 => (Wm.ret (Sum.inr z10))) fun z12 => (Wm.ret (z11, z12)))))

@[irreducible] def M_fewest_unseen {C : Addr} (a_house : (Hs C)) : Wm Int :=
  (Wm.bind (Wm.bind (Wm.bind (Wm.ret (1 : Int)) fun n1 => Wm.bind (Wm.ret (a_house.r + (1 : Int))) fun n2 => Wm.grd (-100000 ≤ n1 ∧ n1 ≤ 100000 ∧ -100000 ≤ n2 ∧ n2 ≤ 100000) (rngI n1 (n2 - n1).toNat)) fun l9 => lcW (fun x_k_4 => (Wm.bind (Wm.bind (M_unseen (C := C) a_house x_k_4) fun z5 => (Wm.ret z5.1)) fun z6 => (Wm.bind (Wm.ret ("row" : Str)) fun z7 => (Wm.ret (decide (z6 = z7)))))) (fun x_k_4 => (Wm.ret x_k_4)) l9) fun z8 => (Wm.grd (0 < z8.l.length) (minL z8.l)))

end Cl
/-! NP: what the program's functions come to. -/
namespace Cl
open PySem L2 Zw RZ
section
variable {C : Addr} {h : Hs C}
theorem is_within_eq (x lo hi : Int) : M_is_within x lo hi = Wm.ret (decide (lo ≤ x) && decide (x ≤ hi)) := by
  unfold M_is_within M_is_integer; with_unfolding_all rfl
theorem is_within_t {x lo hi : Int} (h : lo ≤ x ∧ x ≤ hi) : M_is_within x lo hi = Wm.ret true := by
  rw [is_within_eq, decide_eq_true h.1, decide_eq_true h.2]; rfl
theorem is_tuple_t {t : TupN} {a b : Int} (h : a ≤ (t.n : Int) ∧ (t.n : Int) ≤ b) : M_is_tuple t a b = Wm.ret true := by
  unfold M_is_tuple
  rw [decide_eq_true h.1, decide_eq_true h.2]; rfl
theorem all_id_true {α : Type} {l : List α} {f : α → Bool} (h : ∀ x ∈ l, f x = true) : (l.map f).all id = true := by
  rw [List.all_eq_true]
  intro b m
  obtain ⟨x, hx, e⟩ := List.mem_map.mp m
  rw [← e]; exact h x hx
theorem gd_isrow (ok : HOk h) {row : List Int} (rok : RowOk h.r row) : Gd (M_is_row_of h row) (· = true) := by
  have hl : row.length = h.r.toNat := by rw [rok.2.2.length_eq, rngI_length]
  have h0 := ok.1
  have h9 := ok.2.1
  unfold M_is_row_of
  rw [is_tuple_t (t := TupN.mk row.length) (by show h.r ≤ (row.length : Int) ∧ (row.length : Int) ≤ h.r; omega)]
  refine Gd.bindE (Gd.bindE (Gd.ret rfl) (Gd.ret rfl)) ?_
  refine Gd.condF (Gd.bindE (a := false) (Gd.bindE (a := true) (Gd.bindE (a := Ls.mk (row.map fun _ => true)) (Gd.bindE (a := row) (Gd.ret rfl) (Gd.lcM (fun _ => true) (by omega) (fun d m => ?_) rfl)) (Gd.ret (all_id_true fun _ _ => rfl))) (Gd.ret rfl)) (Gd.condF ?_))
  · have := mem_rngI.mp (rok.2.2.mem_iff.mp m)
    rw [is_within_t (by omega)]
    exact Gd.ret rfl
  · refine Gd.bindE (Gd.grd allOkI rfl) (Gd.bindE (Gd.grd (by omega) rfl) (Gd.ret ?_))
    rw [show sortO row = rngI 0 h.r.toNat from by rw [sortO_of_perm rok.2.2, sortO_id (rngI_le _ _)]]
    simp
theorem gd_check_row (ok : HOk h) {row : List Int} (rok : RowOk h.r row) : Gd (M_check_row h row) (· = ()) := by
  unfold M_check_row
  exact Gd.bindE (Gd.bindE (gd_isrow ok rok) (Gd.ret rfl)) (Gd.ret rfl)
theorem gd_check_many {k : Int} (hk : 1 ≤ k ∧ k ≤ 9) : Gd (M_check_many k) (· = ()) := by
  unfold M_check_many
  rw [is_within_t hk]
  exact Gd.bindE (Gd.bindE (Gd.ret rfl) (Gd.ret rfl)) (Gd.ret rfl)
theorem gd_is_lot {l : List Int} {r : Int} (lok : LotOk r l) : Gd (M_is_lot l r) (· = true) := by
  unfold M_is_lot
  refine Gd.bindE (a := false) (Gd.bindE (a := false) (Gd.ret rfl) (Gd.condF (Gd.bindE (a := true) (Gd.bindE (a := Ls.mk (l.map fun _ => true)) (Gd.bindE (a := l) (Gd.ret rfl) (Gd.lcM (fun _ => true) (by have := lok.2.2; omega) (fun d m => ?_) rfl)) (Gd.ret (all_id_true fun _ _ => rfl))) (Gd.ret rfl)))) (Gd.condF ?_)
  · have := lok.1 d m
    rw [is_within_t (by omega)]
    exact Gd.ret rfl
  · refine Gd.bindE (Gd.bindE (Gd.bindE (Gd.ret rfl) (Gd.bindE (Gd.ret rfl) (Gd.ret rfl))) (Gd.lcM (fun d => decide (d.1 < d.2)) ?_ (fun d m => Gd.ret rfl) rfl)) (Gd.ret (ltI_all lok.2.1))
    rw [List.length_zip]
    have := lok.2.2
    omega
theorem gd_is_lot_of {l : List Int} (lok : LotOk h.r l) : Gd (M_is_lot_of h l) (· = true) := by
  unfold M_is_lot_of
  exact gd_is_lot lok
theorem gd_nears (ok : HOk h) : Gd (M_nears h) (· = nearsM h.r h.ds) := by
  unfold M_nears
  refine Gd.bindE (Gd.bindE (Gd.bindE (by unfold M_besides; exact Gd.grd ok rfl) (Gd.ret rfl)) (Gd.lcM (fun d => sortO (d.2 ++ [d.1])) ?_ (fun d m => ?_) rfl)) (Gd.ret rfl)
  · rw [numL_length]; unfold besM; simp; have := ok.2.1; omega
  · have := besM_len ok (numL_mem m)
    exact Gd.bindE (Gd.bindE (Gd.grd (by simp; omega) rfl) (Gd.grd allOkI rfl)) (Gd.ret rfl)
theorem nears_at {r : Int} {ds : List (Int × Int)} {x : Int} (hx : 0 ≤ x ∧ x < r) : L2.atI (nearsM r ds) x = some ((nearsM r ds).getD x.toNat []) := by
  have hl := nearsM_length r ds
  unfold L2.atI ixN
  rw [if_pos hx.1, if_pos (by omega)]
  show (nearsM r ds)[x.toNat]? = _
  rw [List.getD_eq_getElem?_getD, List.getElem?_eq_getElem (by omega)]
  rfl
theorem nears_row {r : Int} {ds : List (Int × Int)} (ok : HOk' r ds) (x : Nat) : ((nearsM r ds).getD x []).length ≤ 37 := by
  rw [List.getD_eq_getElem?_getD]
  cases e : (nearsM r ds)[x]? with
  | none => simp
  | some z => exact nearsM_row ok z (List.mem_of_getElem? e)
theorem gd_open (ok : HOk h) {lot : List Int} (hl : ∀ x ∈ lot, 0 ≤ x ∧ x < h.r) (hz : lot.length ≤ 100000) : Gd (M_open_of h lot) (· = openM h.r h.ds lot) := by
  unfold M_open_of
  refine Gd.bindE (Gd.bindE (Gd.ret rfl) (Gd.lcE (fun room => !(((nearsM h.r h.ds).getD room.toNat []).map (fun z => decide (z ∈ lot))).all id) id hz (fun d m => ?_) (fun d m _ => Gd.ret rfl) rfl)) (Gd.ret ?_)
  · refine Gd.bindE (Gd.bindE (Gd.bindE (Gd.bindE (gd_nears ok) (Gd.bindE (Gd.ret rfl) (Gd.opt (nears_at (hl d m)) rfl))) (Gd.lcM (fun z => decide (z ∈ lot)) ?_ (fun z _ => Gd.ret rfl) rfl)) (Gd.ret rfl)) (Gd.ret rfl)
    have := nears_row ok d.toNat
    omega
  · rw [List.map_id]; rfl
theorem gd_begun {row : List Int} {i : Int} (hi : 0 ≤ i) : Gd (M_begun row i) (· = sortO (row.take i.toNat)) := by
  unfold M_begun
  rw [cutL_head _ hi]
  exact Gd.bindE (Gd.grd allOkI rfl) (Gd.ret rfl)
theorem openM_sub (r : Int) (ds : List (Int × Int)) (l : List Int) : (openM r ds l).length ≤ l.length := List.length_filter_le _ _
theorem gd_sweep (ok : HOk h) {row : List Int} (rok : RowOk h.r row) : Gd (M_sweep_of h row) (· = sweepM h.r h.ds row) := by
  have hl : row.length = h.r.toNat := by rw [rok.2.2.length_eq, rngI_length]
  have h9 := ok.2.1
  unfold M_sweep_of
  refine Gd.bindE (gd_check_row ok rok) (Gd.bindE (Gd.ret rfl) (Gd.bindE (Gd.bindE (Gd.ret rfl) (Gd.ret rfl)) (Gd.bindE (Gd.foldW (fun i s => s = ((numL row).take i).map fun d => sortO (openM h.r h.ds (sortO (row.take d.1.toNat)) ++ [d.2])) rfl (fun i d s hd hI => ?_) fun s hs => hs) (Gd.ret ?_))))
  · subst hI
    have hi := (List.getElem?_eq_some_iff.mp hd).1
    rw [numL_length] at hi
    have e1 := (numL_get hd).1
    have hlot : ∀ x ∈ sortO (row.take d.1.toNat), 0 ≤ x ∧ x < h.r := fun x m => by
      have := mem_rngI.mp (rok.2.2.mem_iff.mp (List.mem_of_mem_take (mem_sortO.mp m)))
      omega
    have hz : (sortO (row.take d.1.toNat)).length ≤ 9 := by
      rw [sortO_len, List.length_take]; omega
    have ho := openM_sub h.r h.ds (sortO (row.take d.1.toNat))
    refine Gd.bindE (Gd.bindE (Gd.bindE (Gd.bindE (Gd.bindE (Gd.ret rfl) (Gd.bindE (gd_begun (by omega)) (gd_open ok hlot (by omega)))) (Gd.bindE (Gd.ret rfl) (Gd.grd (by simp; omega) rfl))) (Gd.grd allOkI rfl)) (Gd.ret rfl)) (Gd.bindE (Gd.grd ?_ rfl) (Gd.ret ?_))
    · rw [List.length_map, List.length_take, numL_length]; omega
    · rw [List.take_add_one, hd]; simp
  · show List.map _ ((numL row).take (numL row).length) = _
    rw [List.take_length]; rfl

def Rch (r : Int) (ds : List (Int × Int)) (F : Int → Prop) (barred : List Int) (x : Int) : Prop := ∀ S : Int → Prop, (∀ f, F f → f ∉ barred → S f) → (∀ y, S y → ∀ z, Near r ds y z → z ∉ barred → S z) → S x
theorem Rch.mono {r : Int} {ds : List (Int × Int)} {F G : Int → Prop} {barred : List Int} {x : Int} (h : Rch r ds F barred x) (i : ∀ f, F f → G f) : Rch r ds G barred x := fun S s1 s2 => h S (fun f hf hb => s1 f (i f hf) hb) s2
theorem Rch.base {r : Int} {ds : List (Int × Int)} {F : Int → Prop} {barred : List Int} {x : Int} (h : F x) (hb : x ∉ barred) : Rch r ds F barred x := fun S s1 s2 => s1 x h hb
theorem Rch.step {r : Int} {ds : List (Int × Int)} {F : Int → Prop} {barred : List Int} {x z : Int} (h : Rch r ds F barred x) (n : Near r ds x z) (hb : z ∉ barred) : Rch r ds F barred z := fun S s1 s2 => s2 x (h S s1 s2) z n hb
def SprX (r : Int) (ds : List (Int × Int)) (rooms barred ks : List Int) : Prop := ks.Nodup ∧ (∀ k ∈ ks, 0 ≤ k ∧ k < r) ∧ ∀ x, x ∈ ks ↔ Rch r ds (· ∈ rooms) barred x
theorem SprX.ok {r : Int} {ds : List (Int × Int)} {rooms barred ks : List Int} (h : SprX r ds rooms barred ks) : SprOk r ds rooms barred ks := ⟨h.1, h.2.1, fun S s1 s2 k m => (h.2.2 k).mp m S s1 s2⟩
theorem popL_snoc {α : Type} (l : List α) (x : α) : popL (l ++ [x]) = some (l, x) := by
  unfold popL; simp
theorem snoc_of {α : Type} {l : List α} (h : decide ((0 : Int) < (l.length : Int)) = true) : ∃ w x, l = w ++ [x] := by
  have h := of_decide_eq_true h
  have hne : l ≠ [] := fun e => by rw [e] at h; simp at h
  exact ⟨l.dropLast, l.getLast hne, (List.dropLast_concat_getLast hne).symm⟩
structure SClo (r : Int) (ds : List (Int × Int)) (rooms barred : List Int) (kv : List (Int × Bool)) (wt : List Int) : Prop where
  f : ∀ f ∈ rooms, f ∉ barred → f ∈ keysD kv ∨ f ∈ wt
  s : ∀ y ∈ keysD kv, ∀ z, Near r ds y z → z ∉ barred → z ∈ keysD kv ∨ z ∈ wt
theorem sinv_end {r : Int} {ds : List (Int × Int)} {rooms barred : List Int} {kv : List (Int × Bool)} (i : SInv r ds rooms barred kv []) (c : SClo r ds rooms barred kv []) : SprX r ds rooms barred (keysD kv) := by
  refine ⟨i.nd, i.kr, fun x => ⟨fun m S s1 s2 => (i.up S s1 s2).1 x m, fun h => h (· ∈ keysD kv) (fun f hf hb => ?_) fun y hy z n hb => ?_⟩⟩
  · exact (c.f f hf hb).resolve_right (by simp)
  · exact (c.s y hy z n hb).resolve_right (by simp)
theorem gd_spread (ok : HOk h) {rooms barred : List Int} (hr : ∀ x ∈ rooms, 0 ≤ x ∧ x < h.r) (hz : rooms.length ≤ 100) : Gd (M_spread h rooms (Ls.mk barred)) (fun d => SprX h.r h.ds rooms barred (keysD d.kv)) := by
  have h9 := ok.2.1
  unfold M_spread
  refine Gd.bindE (Gd.ret rfl) (Gd.bindE (Gd.ret rfl) ?_)
  refine Gd.whileW (n0 := 1000) (fun n s => s.1.length + 38 * free h.r s.2 ≤ n ∧ n ≤ 1000 ∧ SInv h.r h.ds rooms barred s.2 s.1 ∧ SClo h.r h.ds rooms barred s.2 s.1) (fun s => decide ((0 : Int) < (s.1.length : Int))) (fun _ => False) ?_ (fun _ _ _ => rfl) (fun n s hI hb => ?_) (fun n s hI hb => ?_) (fun r z => z.elim)
  · have := free_le h.r ([] : List (Int × Bool))
    refine ⟨by show rooms.length + 38 * free h.r ([] : List (Int × Bool)) ≤ _; omega, Nat.le_refl _, ⟨List.nodup_nil, fun k m => by simp [keysD] at m, hr, fun S s1 s2 => ⟨fun k m => by simp [keysD] at m, fun w m hb => s1 w m hb⟩⟩, ⟨fun f m _ => .inr m, fun y m => by simp [keysD] at m⟩⟩
  · obtain ⟨w, x, e⟩ := snoc_of hb
    obtain ⟨wt, kv⟩ := s
    simp only at e
    subst e
    obtain ⟨h1, h2, i, c⟩ := hI
    simp only at h1 i c
    rw [List.length_append] at h1
    have hx := i.wr x (by simp)
    have hkl := keys_len i.nd i.kr
    have hkl2 : (keysD kv).length = kv.length := by unfold keysD; simp
    refine Gd.bindE (Gd.opt (popL_snoc w x) rfl) (Gd.bindE (Gd.ret rfl) (Gd.cond (fun hc => ?_) fun hc => ?_))
    · rw [Bool.and_eq_true] at hc
      have c1 : x ∉ keysD kv := by simpa using hc.1
      have c2 : x ∉ barred := by simpa using hc.2
      have hrow := nears_row ok x.toNat
      refine Gd.bindE (Gd.ret rfl) (Gd.bindE (Gd.ret rfl) (Gd.bindE (Gd.grd (by show kv.length < _; omega) rfl) (Gd.bindE (Gd.bindE (gd_nears ok) (Gd.bindE (Gd.ret rfl) (Gd.opt (nears_at hx) rfl))) (Gd.bindE (Gd.grd (by show w.length + ((nearsM h.r h.ds).getD x.toNat []).length ≤ _; simp at h1; omega) rfl) (Gd.ret ?_)))))
      have hf := free_put (v := true) hx c1
      refine ⟨n - 1, by simp at h1; omega, ?_, by omega, sinv_put ok i c1 c2 hx fun z m => (near_nearsM ok hx.1 hx.2).mp m, ⟨fun f m hbr => ?_, fun y m z nz hbr => ?_⟩⟩
      · show (w ++ (nearsM h.r h.ds).getD x.toNat []).length + 38 * free h.r (putD kv x true) ≤ _
        rw [List.length_append]
        simp at h1
        omega
      · rcases c.f f m hbr with k | k
        · exact .inl (mem_putD.mpr (.inr k))
        · rcases List.mem_append.mp k with k | k
          · exact .inr (List.mem_append_left _ k)
          · rw [List.mem_singleton] at k; exact .inl (mem_putD.mpr (.inl k))
      · rcases mem_putD.mp m with e | m
        · subst e
          exact .inr (List.mem_append_right _ ((near_nearsM ok hx.1 hx.2).mpr nz))
        · rcases c.s y m z nz hbr with k | k
          · exact .inl (mem_putD.mpr (.inr k))
          · rcases List.mem_append.mp k with k | k
            · exact .inr (List.mem_append_left _ k)
            · rw [List.mem_singleton] at k; exact .inl (mem_putD.mpr (.inl k))
    · have hxx : x ∈ keysD kv ∨ x ∈ barred := by
        by_cases q : x ∈ keysD kv
        · exact .inl q
        · refine .inr ?_
          rw [decide_eq_false q] at hc
          simpa using hc
      refine Gd.ret ⟨n - 1, by simp at h1; omega, by simp at h1; show w.length + 38 * free h.r kv ≤ _; omega, by omega, sinv_skip i fun q => hxx.resolve_left q, ⟨fun f m hbr => ?_, fun y m z nz hbr => ?_⟩⟩
      · rcases c.f f m hbr with k | k
        · exact .inl k
        · rcases List.mem_append.mp k with k | k
          · exact .inr k
          · rw [List.mem_singleton] at k
            subst k
            exact .inl (hxx.resolve_right hbr)
      · rcases c.s y m z nz hbr with k | k
        · exact .inl k
        · rcases List.mem_append.mp k with k | k
          · exact .inr k
          · rw [List.mem_singleton] at k
            subst k
            exact .inl (hxx.resolve_right hbr)
  · obtain ⟨wt, kv⟩ := s
    obtain ⟨_, _, i, c⟩ := hI
    have e : wt = [] := by
      have := of_decide_eq_false hb
      exact List.eq_nil_of_length_eq_zero (by simp only at this; omega)
    subst e
    exact Gd.ret (sinv_end i c)

theorem atI_at {α : Type} {l : List α} {i : Int} {d : α} (h : 0 ≤ i) (e : l[i.toNat]? = some d) : L2.atI l i = some d := by
  have hl := (List.getElem?_eq_some_iff.mp e).1
  unfold L2.atI ixN
  rw [if_pos h, if_pos (by omega)]
  exact e
theorem atI_last {α : Type} {l : List α} {n : Nat} {d : α} (hl : l.length = n + 1) (e : l[n]? = some d) : L2.atI l (-1) = some d := by
  unfold L2.atI ixN
  rw [if_neg (by decide), if_pos (by omega)]
  show l[(-1 + (l.length : Int)).toNat]? = _
  rw [show (-1 + (l.length : Int)).toNat = n by omega]
  exact e
theorem zip_tail {α : Type} {l : List α} {i : Nat} {d : α × α} (h : (l.zip (cutL l (some 1) none))[i]? = some d) : l[i]? = some d.1 ∧ l[i + 1]? = some d.2 := by
  rw [cutL_tail] at h
  obtain ⟨h1, h2⟩ := List.getElem?_zip_eq_some.mp h
  rw [List.getElem?_drop] at h2
  exact ⟨h1, by rw [Nat.add_comm]; exact h2⟩
theorem zip_tail_len {α : Type} (l : List α) : (l.zip (cutL l (some 1) none)).length = l.length - 1 := by
  rw [cutL_tail, List.length_zip, List.length_drop]; omega
def UX (r : Int) (ds : List (Int × Int)) (sw : List (List Int)) (n : Nat) (fl : List (List Int)) : Prop := UInv r ds sw n fl ∧
  ∀ i one other, i + 1 ≤ n → sw[i]? = some one → sw[i + 1]? = some other → ∃ a b, fl[i]? = some a ∧ fl[i + 1]? = some b ∧ ∀ x, x ∈ b ↔ Rch r ds (· ∈ a) (one.filter fun x => decide (x ∈ other)) x ∧ x ∉ other
theorem ux_step {r : Int} {ds : List (Int × Int)} {sw fl : List (List Int)} {n : Nat} {one other a ks : List Int} (h : UX r ds sw n fl) (h1 : sw[n]? = some one) (h2 : sw[n + 1]? = some other) (ha : fl[n]? = some a) (hs : SprX r ds a (one.filter fun x => decide (x ∈ other)) ks) (h9 : r ≤ 9) :
    UX r ds sw (n + 1) (fl ++ [(sortO ks).filter fun x => decide (x ∉ other)]) := by
  have hl := h.1.1
  refine ⟨uinv_step h.1 h1 h2 ha hs.ok h9, fun i o1 o2 hi e1 e2 => ?_⟩
  by_cases e : i = n
  · subst e
    rw [h1] at e1
    rw [h2] at e2
    cases e1; cases e2
    refine ⟨a, _, by rw [List.getElem?_append_left (by omega)]; exact ha, by rw [List.getElem?_append_right (by omega), hl, Nat.sub_self]; rfl, fun x => ?_⟩
    rw [List.mem_filter, mem_sortO, hs.2.2]; simp
  · obtain ⟨a', b', ea, eb, hm⟩ := h.2 i o1 o2 (by omega) e1 e2
    exact ⟨a', b', by rw [List.getElem?_append_left (by omega)]; exact ea, by rw [List.getElem?_append_left (by omega)]; exact eb, hm⟩
theorem gd_unsure (ok : HOk h) {sw : List (List Int)} (hl : ∀ l ∈ sw, LotOk h.r l) (hne : 0 < sw.length) (hz : sw.length ≤ 100) : Gd (M_unsure h sw) (fun d => ∃ n, n + 1 = sw.length ∧ UX h.r h.ds sw n d) := by
  have h9 := ok.2.1
  unfold M_unsure
  refine Gd.bindE (a := false) (Gd.ret (by simp; exact List.ne_nil_of_length_pos hne)) (Gd.condF ?_)
  refine Gd.bindE (Gd.bindE (Gd.ret rfl) (Gd.ret rfl)) ?_
  refine Gd.bindE (a := ()) (Gd.foldW (fun _ _ => True) trivial (fun i d s hd _ => ?_) fun _ _ => rfl) ?_
  · have hdl := hl d.2 (numL_mem (List.mem_of_getElem? hd))
    exact Gd.bindE (Gd.bindE (gd_is_lot_of hdl) (Gd.ret rfl)) (Gd.ret trivial)
  obtain ⟨s0, hs0⟩ : ∃ s, sw[0]? = some s := ⟨_, List.getElem?_eq_getElem hne⟩
  refine Gd.bindE (a := Ls.mk [(rngI 0 h.r.toNat).filter fun x => decide (x ∉ s0)]) ?_ ?_
  · refine Gd.bindE (Gd.bindE (Gd.bindE (Gd.bindE (Gd.ret rfl) (Gd.grd (by have := ok.1; omega) rfl)) (Gd.lcE (fun x => !decide (x ∈ s0)) id ?_ (fun d m => ?_) (fun d m _ => Gd.ret rfl) rfl)) (Gd.ret rfl)) (Gd.grd (by simp) ?_)
    · rw [rngI_length]; omega
    · exact Gd.bindE (Gd.ret rfl) (Gd.bindE (Gd.opt (atI_at (by decide) hs0) rfl) (Gd.ret rfl))
    · rw [List.map_id]; simp
  refine Gd.bindE (Gd.bindE (Gd.ret rfl) (Gd.bindE (Gd.ret rfl) (Gd.ret rfl))) ?_
  refine Gd.bind (Q := fun d => ∃ n, n + 1 = sw.length ∧ UX h.r h.ds sw n d) (Gd.foldW (fun n fl => UX h.r h.ds sw n fl) ?_ (fun n d fl hd hI => ?_) fun s hs => ?_) fun s hs => Gd.ret hs
  · refine ⟨⟨rfl, fun s e => by rw [hs0] at e; cases e; rfl, fun i _ _ hi => by omega, fun x hx => ?_⟩, fun i _ _ hi => by omega⟩
    rw [List.mem_singleton.mp hx]
    refine ⟨Nat.le_trans (List.length_filter_le _ _) (by rw [rngI_length]; omega), fun y hy => ?_⟩
    have := mem_rngI.mp (List.mem_filter.mp hy).1
    omega
  · obtain ⟨e1, e2⟩ := zip_tail hd
    have hdl := (List.getElem?_eq_some_iff.mp hd).1
    rw [zip_tail_len] at hdl
    obtain ⟨a, ha⟩ : ∃ a, fl[n]? = some a := ⟨_, List.getElem?_eq_getElem (by have := hI.1.1; omega)⟩
    have hr := hI.1.2.2.2 a (List.mem_of_getElem? ha)
    refine Gd.bindE (Gd.bindE (Gd.ret rfl) (Gd.lcE (fun x => decide (x ∈ d.2)) id (by have := (hl _ (List.mem_of_getElem? e1)).2.2; omega) (fun _ _ => Gd.ret rfl) (fun _ _ _ => Gd.ret rfl) rfl)) ?_
    rw [List.map_id]
    refine Gd.bind (Gd.bindE (Gd.ret rfl) (Gd.bindE (Gd.opt (atI_last hI.1.1 ha) rfl) (Gd.bindE (Gd.ret rfl) (gd_spread ok hr.2 hr.1)))) fun ks hks => ?_
    have hkl := spr_len hks.ok
    refine Gd.bindE (Gd.bindE (Gd.bindE (Gd.bindE (Gd.grd allOkI rfl) (Gd.ret rfl)) (Gd.lcE (fun x => !decide (x ∈ d.2)) id ?_ (fun _ _ => Gd.ret rfl) (fun _ _ _ => Gd.ret rfl) rfl)) (Gd.ret rfl)) ?_
    · rw [sortO_len]; omega
    refine Gd.bindE (Gd.grd (by have := hI.1.1; omega) rfl) (Gd.ret ?_)
    have := ux_step hI e1 e2 ha hks h9
    rw [List.map_id]
    simpa using this
  · rw [zip_tail_len] at hs
    exact ⟨sw.length - 1, by omega, hs⟩

theorem lkD_cons {κ β : Type} [DecidableEq κ] {a x : κ} {b : β} {l : List (κ × β)} : lkD ((a, b) :: l) x = if a = x then some b else lkD l x := rfl
theorem lkD_map {κ β : Type} [DecidableEq κ] {k x : κ} {v : β} : ∀ l : List (κ × β), lkD (l.map fun kv => if kv.1 = k then (kv.1, v) else kv) x = if x = k then (if (lkD l k).isSome = true then some v else none) else lkD l x
  | [] => by simp [lkD]
  | (a, b) :: l => by
    have ih := lkD_map (k := k) (x := x) (v := v) l
    rw [List.map_cons]
    by_cases e : a = k
    · subst e
      show lkD ((if a = a then (a, v) else (a, b)) :: _) x = _
      rw [if_pos rfl]
      unfold lkD
      by_cases e2 : a = x
      · subst e2; simp
      · rw [if_neg e2, if_neg e2, ih, if_neg (fun z => e2 z.symm), if_neg (fun z => e2 z.symm)]
    · simp only [e, if_false]
      unfold lkD
      by_cases e2 : a = x
      · subst e2; simp [e]
      · rw [if_neg e2, if_neg e2, ih, if_neg e]
theorem lkD_app {κ β : Type} [DecidableEq κ] {k x : κ} {v : β} : ∀ l : List (κ × β), lkD (l ++ [(k, v)]) x = if (lkD l x).isSome = true then lkD l x else if k = x then some v else none
  | [] => by simp [lkD]
  | (a, b) :: l => by
    have ih := lkD_app (k := k) (x := x) (v := v) l
    rw [List.cons_append]
    rw [lkD_cons, lkD_cons]
    by_cases e2 : a = x
    · rw [if_pos e2, if_pos e2]; rfl
    · rw [if_neg e2, if_neg e2]; exact ih
theorem lkD_putD {κ β : Type} [DecidableEq κ] {k x : κ} {v : β} (l : List (κ × β)) : lkD (putD l k v) x = if x = k then some v else lkD l x := by
  unfold putD
  have hk := lkD_isSome k l
  have ha : (l.any fun kv => decide (kv.1 = k)) = decide (k ∈ keysD l) := by
    rw [Bool.eq_iff_iff]
    simp only [List.any_eq_true, decide_eq_true_eq]
    unfold keysD
    constructor
    · rintro ⟨y, m, e⟩; exact List.mem_map.mpr ⟨y, m, e⟩
    · intro m; obtain ⟨y, m, e⟩ := List.mem_map.mp m; exact ⟨y, m, e⟩
  rw [ha]
  by_cases m : k ∈ keysD l
  · rw [decide_eq_true m, if_pos rfl, lkD_map, hk, decide_eq_true m, if_pos rfl]
  · rw [decide_eq_false m, if_neg (by decide), lkD_app, lkD_isSome]
    by_cases e : x = k
    · subst e
      rw [decide_eq_false m, if_neg (by decide), if_pos rfl, if_pos rfl]
    · rw [if_neg e]
      have := lkD_isSome x l
      by_cases q : x ∈ keysD l
      · rw [decide_eq_true q, if_pos rfl]
      · rw [decide_eq_false q] at this ⊢
        rw [if_neg (by decide), if_neg (fun z => e z.symm)]
        cases e : lkD l x with
        | none => rfl
        | some z => rw [e] at this; cases this
theorem nodup_sub_len {α : Type} [DecidableEq α] : ∀ {l m : List α}, l.Nodup → (∀ x ∈ l, x ∈ m) → l.length ≤ m.length
  | [], _, _, _ => Nat.zero_le _
  | x :: l, m, nd, h => by
    have hx := h x List.mem_cons_self
    have ih := nodup_sub_len (l := l) (m := m.erase x) (List.nodup_cons.mp nd).2 fun y hy => (List.mem_erase_of_ne (fun e => (List.nodup_cons.mp nd).1 (by rw [← e]; exact hy))).mpr (h y (List.mem_cons_of_mem _ hy))
    rw [List.length_erase_of_mem hx] at ih
    have := List.length_pos_of_mem hx
    simp; omega
def subsI : List Int → List (List Int)
  | [] => [[]]
  | x :: l => subsI l ++ (subsI l).map (x :: ·)
theorem subsI_len : ∀ l : List Int, (subsI l).length = 2 ^ l.length
  | [] => rfl
  | x :: l => by unfold subsI; rw [List.length_append, List.length_map, subsI_len l, List.length_cons, Nat.pow_succ]; omega
theorem mem_subsI : ∀ (l m : List Int), l.Pairwise (· < ·) → m.Pairwise (· < ·) → (∀ x ∈ m, x ∈ l) → m ∈ subsI l
  | [], [], _, _, _ => by simp [subsI]
  | [], b :: m, _, _, h => by simpa using h b List.mem_cons_self
  | a :: l, [], h1, _, _ => by
    unfold subsI
    exact List.mem_append_left _ (mem_subsI l [] (List.pairwise_cons.mp h1).2 List.Pairwise.nil (fun x m => by cases m))
  | a :: l, b :: m, h1, h2, h => by
    unfold subsI
    obtain ⟨p1, p2⟩ := List.pairwise_cons.mp h1
    obtain ⟨q1, q2⟩ := List.pairwise_cons.mp h2
    by_cases e : b = a
    · subst e
      refine List.mem_append_right _ (List.mem_map.mpr ⟨m, mem_subsI l m p2 q2 fun x hx => ?_, rfl⟩)
      rcases List.mem_cons.mp (h x (List.mem_cons_of_mem _ hx)) with e | k
      · have := q1 x hx; omega
      · exact k
    · refine List.mem_append_left _ (mem_subsI l (b :: m) p2 h2 fun x hx => ?_)
      have hb : b ∈ l := (List.mem_cons.mp (h b List.mem_cons_self)).resolve_left e
      have hab := p1 b hb
      rcases List.mem_cons.mp (h x hx) with e' | k
      · rcases List.mem_cons.mp hx with e'' | hx
        · subst e''; exact hb
        · have := q1 x hx; omega
      · exact k
/-- a row whose lots, as it is taken out, have fewer than k open rooms -/
def Good (r : Int) (ds : List (Int × Int)) (k : Int) (row lot : List Int) : Prop := lot = sortO row ∧ row.Nodup ∧ (∀ x ∈ row, 0 ≤ x ∧ x < r) ∧ ∀ i : Nat, 1 ≤ i → i ≤ row.length → ((openM r ds (sortO (row.take i))).length : Int) < k
structure RInv (r : Int) (ds : List (Int × Int)) (k : Int) (kv : List (List Int × List Int)) (wt : List (List Int)) : Prop where
  nd : (keysD kv).Nodup
  good : ∀ lot row, lkD kv lot = some row → Good r ds k row lot
  e : [] ∈ keysD kv
  w : ∀ l ∈ wt, l ∈ keysD kv
theorem lkD_key {κ β : Type} [DecidableEq κ] {kv : List (κ × β)} {x : κ} (h : x ∈ keysD kv) : ∃ v, lkD kv x = some v := by
  have := lkD_isSome x kv
  rw [decide_eq_true h] at this
  exact Option.isSome_iff_exists.mp this
theorem key_lkD {κ β : Type} [DecidableEq κ] {kv : List (κ × β)} {x : κ} {v : β} (h : lkD kv x = some v) : x ∈ keysD kv := by
  have := lkD_isSome x kv
  rw [h] at this
  simpa using this.symm
theorem strict_sort {l : List Int} (h : l.Nodup) : (sortO l).Pairwise (· < ·) := (sortO_strict h).imp fun h => of_decide_eq_true h
theorem good_key {r : Int} {ds : List (Int × Int)} {k : Int} {row lot : List Int} (g : Good r ds k row lot) : lot.Pairwise (· < ·) ∧ (∀ x ∈ lot, 0 ≤ x ∧ x < r) := by
  rw [g.1]
  exact ⟨strict_sort g.2.1, fun x m => g.2.2.1 x (mem_sortO.mp m)⟩
theorem keys_le {r : Int} {ds : List (Int × Int)} {k : Int} {kv : List (List Int × List Int)} {wt : List (List Int)} (i : RInv r ds k kv wt) (h9 : r ≤ 9) : kv.length ≤ 512 := by
  have h1 := nodup_sub_len (m := subsI (rngI 0 9)) i.nd fun x m => by
    obtain ⟨row, e⟩ := lkD_key m
    have g := good_key (i.good x row e)
    exact mem_subsI _ _ (rngI_lt _ _) g.1 fun y hy => mem_rngI.mpr (by have := g.2 y hy; omega)
  rw [subsI_len, rngI_length] at h1
  unfold keysD at h1
  rw [List.length_map] at h1
  exact h1
end
end Cl
/-! NP2: the unseen game's rows. -/
namespace Cl
open PySem L2 Zw RZ
section
variable {C : Addr} {h : Hs C}
def Nrw (r : Int) (ds : List (Int × Int)) (k : Int) (lot : List Int) : Prop := ((openM r ds lot).length : Int) < k
def RDone (r : Int) (ds : List (Int × Int)) (k : Int) (kv : List (List Int × List Int)) (lot : List Int) (n : Int) : Prop := ∀ room, 0 ≤ room ∧ room < n → room ∉ lot → Nrw r ds k (sortO (lot ++ [room])) → sortO (lot ++ [room]) ∈ keysD kv
theorem RDone.mono {r : Int} {ds : List (Int × Int)} {k : Int} {kv kv' : List (List Int × List Int)} {lot : List Int} {n : Int} (h : RDone r ds k kv lot n) (i : ∀ x, x ∈ keysD kv → x ∈ keysD kv') : RDone r ds k kv' lot n := fun room h1 h2 h3 => i _ (h room h1 h2 h3)
structure RIn (r : Int) (ds : List (Int × Int)) (k : Int) (x : List Int) (n i : Nat) (kv : List (List Int × List Int)) (wt : List (List Int)) : Prop where
  inv : RInv r ds k kv wt
  xk : x ∈ keysD kv
  m : wt.length + 2 * (512 - kv.length) + 1 ≤ n
  clo : ∀ lot ∈ keysD kv, lot ∈ wt ∨ lot = x ∨ RDone r ds k kv lot r
  xd : RDone r ds k kv x i
theorem take_snoc_le {α : Type} {row : List α} {x : α} {i : Nat} (h : i ≤ row.length) : (row ++ [x]).take i = row.take i := by
  rw [List.take_append_of_le_length h]
theorem good_put {r : Int} {ds : List (Int × Int)} {k : Int} {row lot : List Int} {room : Int} (g : Good r ds k row lot) (h1 : room ∉ lot) (h2 : 0 ≤ room ∧ room < r) (h3 : Nrw r ds k (sortO (lot ++ [room]))) : Good r ds k (row ++ [room]) (sortO (lot ++ [room])) := by
  have e : sortO (lot ++ [room]) = sortO (row ++ [room]) := by rw [g.1, sortO_snoc]
  refine ⟨e, ?_, fun x m => ?_, fun i i1 i2 => ?_⟩
  · rw [List.nodup_append]
    refine ⟨g.2.1, by simp, fun a ha b hb z => ?_⟩
    rw [List.mem_singleton] at hb
    subst hb z
    exact h1 (by rw [g.1]; exact mem_sortO.mpr ha)
  · rcases List.mem_append.mp m with m | m
    · exact g.2.2.1 x m
    · rw [List.mem_singleton.mp m]; exact h2
  · rw [List.length_append] at i2
    by_cases hi : i ≤ row.length
    · rw [take_snoc_le hi]
      exact g.2.2.2 i i1 hi
    · rw [List.take_of_length_le (by simp at i2 ⊢; omega), ← e]
      exact h3
theorem lot_len {r : Int} {l : List Int} (h : l.Pairwise (· < ·)) (h2 : ∀ x ∈ l, 0 ≤ x ∧ x < r) : l.length ≤ r.toNat := nodup_len (h.imp fun {a b} z => by omega) h2
theorem gd_turn (ok : HOk h) {k : Int} {x : List Int} {n i : Nat} {kv : List (List Int × List Int)} {wt : List (List Int)} {room : Int} (hr : room = i) (hi : (i : Int) < h.r) (hn : n ≤ 2000) (I : RIn h.r h.ds k x n i kv wt) :
    Dx (Wm.bind (Wm.bind (Wm.ret (!decide (room ∈ x))) fun b38 => cond b38 (Wm.bind (Wm.bind (Wm.grd (x.length + ([room] : (List Int)).length ≤ 100000) (x ++ ([room] : (List Int)))) fun z36 => (Wm.grd (∀ d ∈ z36, PySrt.ok d) (Ls.mk (sortO z36)))) fun z37 => (Wm.ret z37.l)) (Wm.ret x)) fun x_more_39 =>
      Wm.bind (Wm.bind (Wm.ret (!(lkD kv x_more_39).isSome)) fun b44 => cond b44 (Wm.bind (Wm.bind (M_open_of (C := C) h x_more_39) fun z41 => (Wm.ret (z41.length : Int))) fun z42 => (Wm.bind (Wm.ret k) fun z43 => (Wm.ret (decide (z42 < z43))))) (Wm.ret false)) fun b45 =>
      cond b45 (Wm.bind (Wm.bind (Wm.opt (lkD kv x)) fun z46 => (Wm.bind (Wm.ret ([room] : (List Int))) fun z47 => (Wm.grd (z46.length + z47.length ≤ 100000) (z46 ++ z47)))) fun a51 => Wm.bind (Wm.ret x_more_39) fun a52 => Wm.bind (Wm.grd (kv.length < 100000) (putD kv a52 a51)) fun x_found_48 => Wm.bind (Wm.ret x_more_39) fun a50 => Wm.bind (Wm.grd (wt.length < 100000) (wt ++ [a50])) fun x_waiting_49 => Wm.ret (x_found_48, x_waiting_49)) (Wm.ret (kv, wt)))
      (fun s => RIn h.r h.ds k x n (i + 1) s.1 s.2) := by
  have h9 := ok.2.1
  obtain ⟨row, hrow⟩ := lkD_key I.xk
  have g := I.inv.good x row hrow
  have gk := good_key g
  have xl := lot_len gk.1 gk.2
  by_cases hm : room ∈ x
  · rw [decide_eq_true hm]
    refine Dx.bindE (a := x) (Gd.bindE (Gd.ret rfl) (Gd.ret rfl)) ?_
    rw [hrow]
    refine Dx.bindE (a := false) (Gd.bindE (Gd.ret rfl) (Gd.ret rfl)) (Dx.ret ?_)
    exact ⟨I.inv, I.xk, I.m, I.clo, fun o h1 h2 h3 => I.xd o ⟨h1.1, by
      have : o ≠ (i : Int) := fun e => h2 (by rw [e, ← hr]; exact hm)
      have := h1.2
      omega⟩ h2 h3⟩
  · rw [decide_eq_false hm]
    have hroom : 0 ≤ room ∧ room < h.r := by omega
    have hlot : ∀ y ∈ sortO (x ++ [room]), 0 ≤ y ∧ y < h.r := fun y m => by
      rcases List.mem_append.mp (mem_sortO.mp m) with m | m
      · exact gk.2 y m
      · rw [List.mem_singleton.mp m]; exact hroom
    refine Dx.bindE (a := sortO (x ++ [room])) (Gd.bindE (Gd.ret rfl) (Gd.condT (Gd.bindE (Gd.bindE (Gd.grd (by simp; omega) rfl) (Gd.grd allOkI rfl)) (Gd.ret rfl)))) ?_
    by_cases hin : sortO (x ++ [room]) ∈ keysD kv
    · obtain ⟨row2, hrow2⟩ := lkD_key hin
      rw [hrow2]
      refine Dx.bindE (a := false) (Gd.bindE (Gd.ret rfl) (Gd.ret rfl)) (Dx.ret ?_)
      exact ⟨I.inv, I.xk, I.m, I.clo, fun o h1 h2 h3 => by
        by_cases e : o = (i : Int)
        · rw [e, ← hr]; exact hin
        · exact I.xd o ⟨h1.1, by have := h1.2; omega⟩ h2 h3⟩
    · have hnone : lkD kv (sortO (x ++ [room])) = none := by
        cases e : lkD kv (sortO (x ++ [room])) with
        | none => rfl
        | some z => exact absurd (key_lkD e) hin
      rw [hnone]
      refine Dx.bindE (a := decide (((openM h.r h.ds (sortO (x ++ [room]))).length : Int) < k)) (Gd.bindE (Gd.ret rfl) (Gd.condT (Gd.bindE (Gd.bindE (gd_open ok hlot (by rw [sortO_len]; simp; omega)) (Gd.ret rfl)) (Gd.bindE (Gd.ret rfl) (Gd.ret rfl))))) (Dx.cond (fun hc => ?_) fun hc => ?_)
      · have hc := of_decide_eq_true hc
        have g2 := good_put g hm hroom hc
        have rl := nodup_len g.2.1 g.2.2.1
        have kl := keys_le I.inv h9
        refine Dx.bindE (a := row ++ [room]) (Gd.bindE (Gd.opt hrow rfl) (Gd.bindE (Gd.ret rfl) (Gd.grd (by simp; omega) rfl))) (Dx.bindE (Gd.ret rfl) (Dx.bindE (Gd.grd (by omega) rfl) (Dx.bindE (Gd.ret rfl) (Dx.bindE (Gd.grd (by have := I.m; omega) rfl) (Dx.ret ?_)))))
        have hkeys : ∀ y, y ∈ keysD kv → y ∈ keysD (putD kv (sortO (x ++ [room])) (row ++ [room])) := fun y m => mem_putD.mpr (.inr m)
        have inv' : RInv h.r h.ds k (putD kv (sortO (x ++ [room])) (row ++ [room])) (wt ++ [sortO (x ++ [room])]) := by
          refine ⟨nodup_putD I.inv.nd, fun lot row' e => ?_, hkeys _ I.inv.e, fun l m => ?_⟩
          · rw [lkD_putD] at e
            split at e
            · rename_i el; subst el; cases e; exact g2
            · exact I.inv.good lot row' e
          · rcases List.mem_append.mp m with m | m
            · exact hkeys _ (I.inv.w l m)
            · rw [List.mem_singleton.mp m]; exact mem_putD.mpr (.inl rfl)
        have kl2 := keys_le inv' h9
        have hpl : (putD kv (sortO (x ++ [room])) (row ++ [room])).length = kv.length + 1 := by
          unfold putD
          rw [if_neg ?_]
          · simp
          · intro z
            obtain ⟨y, m, e⟩ := List.any_eq_true.mp z
            exact hin (List.mem_map.mpr ⟨y, m, by simpa using e⟩)
        refine ⟨inv', hkeys _ I.xk, ?_, fun lot m => ?_, fun o h1 h2 h3 => ?_⟩
        · show (wt ++ [_]).length + 2 * (512 - (putD kv (sortO (x ++ [room])) (row ++ [room])).length) + 1 ≤ n
          rw [hpl] at kl2 ⊢
          rw [List.length_append]
          have := I.m
          simp
          omega
        · rcases mem_putD.mp m with e | m
          · exact .inl (by rw [e]; simp)
          · rcases I.clo lot m with z | z | z
            · exact .inl (List.mem_append_left _ z)
            · exact .inr (.inl z)
            · exact .inr (.inr (z.mono hkeys))
        · by_cases e : o = (i : Int)
          · rw [e, ← hr]; exact mem_putD.mpr (.inl rfl)
          · exact hkeys _ (I.xd o ⟨h1.1, by have := h1.2; omega⟩ h2 h3)
      · refine Dx.ret ⟨I.inv, I.xk, I.m, I.clo, fun o h1 h2 h3 => ?_⟩
        by_cases e : o = (i : Int)
        · rw [e, ← hr] at h3
          exact absurd h3 (by unfold Nrw; exact of_decide_eq_false hc)
        · exact I.xd o ⟨h1.1, by have := h1.2; omega⟩ h2 h3
def RFin (r : Int) (ds : List (Int × Int)) (k : Int) (kv : List (List Int × List Int)) : Prop := RInv r ds k kv [] ∧ ∀ lot ∈ keysD kv, RDone r ds k kv lot r
theorem dx_rows (ok : HOk h) (k : Int) : Dx (M_rows_to h k) (fun d => RFin h.r h.ds k d.kv) := by
  have h9 := ok.2.1
  have h1 := ok.1
  unfold M_rows_to
  refine Dx.bindE (Gd.ret rfl) (Dx.bindE (Gd.grd (by simp) rfl) (Dx.whileW (n0 := 2000) (fun n s => n ≤ 2000 ∧ s.1.length + 2 * (512 - s.2.length) ≤ n ∧ RInv h.r h.ds k s.2 s.1 ∧ ∀ lot ∈ keysD s.2, lot ∈ s.1 ∨ RDone h.r h.ds k s.2 lot h.r) (fun s => decide ((0 : Int) < (s.1.length : Int))) ?_ (fun _ _ _ => rfl) (fun n s hI hb => ?_) fun n s hI hb => ?_))
  · refine ⟨Nat.le_refl _, by simp, ⟨by simp [keysD], fun lot row e => ?_, by simp [keysD], fun l m => by simpa [keysD] using m⟩, fun lot m => .inl (by simpa [keysD] using m)⟩
    simp only [lkD] at e
    split at e
    · rename_i el
      cases e
      rw [← el]
      exact ⟨by simp [sortO], List.nodup_nil, (fun x m => by cases m), fun i i1 i2 => by simp at i2; omega⟩
    · cases e
  · obtain ⟨w, x, e⟩ := snoc_of hb
    obtain ⟨wt, kv⟩ := s
    simp only at e
    subst e
    obtain ⟨hn, hm, inv, clo⟩ := hI
    simp only at hm inv clo
    rw [List.length_append] at hm
    simp only [List.length_singleton] at hm
    refine Dx.bindE (Gd.opt (popL_snoc w x) rfl) (Dx.bindE (Gd.bindE (Gd.ret rfl) (Gd.grd (by omega) rfl)) (Dx.bind (Dx.foldW (fun i s => RIn h.r h.ds k x n i s.1 s.2) ?_ (fun i room s hd I => ?_) fun s hs => hs) fun s hs => Dx.ret ⟨n - 1, (s.2, s.1), rfl, by omega, ?_⟩))
    · refine ⟨⟨inv.nd, inv.good, inv.e, fun l m => inv.w l (List.mem_append_left _ m)⟩, inv.w x (by simp), by show w.length + 2 * (512 - kv.length) + 1 ≤ n; omega, fun lot m => ?_, fun o h1 => by omega⟩
      rcases clo lot m with z | z
      · rcases List.mem_append.mp z with z | z
        · exact .inl z
        · exact .inr (.inl (List.mem_singleton.mp z))
      · exact .inr (.inr z)
    · have hi := (List.getElem?_eq_some_iff.mp hd).1
      rw [rngI_length] at hi
      rw [rngI_at hi] at hd
      cases hd
      exact gd_turn ok rfl (by omega) hn I
    · rw [rngI_length] at hs
      have hm2 := hs.m
      refine ⟨by omega, by show s.2.length + 2 * (512 - s.1.length) ≤ _; omega, hs.inv, fun lot m => ?_⟩
      rcases hs.clo lot m with z | z | z
      · exact .inl z
      · refine .inr ?_
        have := hs.xd
        rw [Int.toNat_of_nonneg (by omega)] at this
        rw [z]; exact this
      · exact .inr z
  · obtain ⟨wt, kv⟩ := s
    obtain ⟨_, _, inv, clo⟩ := hI
    have e : wt = [] := by
      have := of_decide_eq_false hb
      exact List.eq_nil_of_length_eq_zero (by simp only at this; omega)
    subst e
    exact Dx.ret ⟨inv, fun lot m => (clo lot m).resolve_left (by simp)⟩
end
end Cl
/-! NP3: the unseen game's answers. -/
namespace Cl
open PySem L2 Zw RZ
section
variable {C : Addr} {h : Hs C}
theorem rngI_succ (n : Nat) : rngI 0 (n + 1) = rngI 0 n ++ [(n : Int)] := by
  unfold rngI
  rw [List.range_succ, List.map_append]; simp
theorem open_whole {r : Int} {ds : List (Int × Int)} (ok : HOk' r ds) : openM r ds (rngI 0 r.toNat) = [] := by
  refine List.eq_nil_iff_forall_not_mem.mpr fun x m => ?_
  have hx : 0 ≤ x ∧ x < r := by
    unfold openM at m
    have := mem_rngI.mp (List.mem_filter.mp m).1
    have := ok.1
    omega
  obtain ⟨_, z, n, hz⟩ := (mem_openM ok hx).mp m
  exact hz (mem_rngI.mpr (by have := n.2.1; omega))
theorem rfin_whole {r : Int} {ds : List (Int × Int)} {kv : List (List Int × List Int)} (ok : HOk' r ds) (h : RFin r ds r kv) : rngI 0 r.toNat ∈ keysD kv := by
  have key : ∀ n : Nat, n ≤ r.toNat → rngI 0 n ∈ keysD kv := by
    intro n
    induction n with
    | zero => intro _; exact h.1.e
    | succ n ih =>
      intro hn
      have e : sortO (rngI 0 n ++ [(n : Int)]) = rngI 0 (n + 1) := by rw [← rngI_succ]; exact sortO_id (rngI_le _ _)
      have h1 := ok.1
      have := h.2 _ (ih (by omega)) (n : Int) (by omega) (fun m => by have := mem_rngI.mp m; omega)
      rw [e] at this
      refine this ?_
      unfold Nrw
      by_cases q : n + 1 = r.toNat
      · rw [q, open_whole ok]; simp; omega
      · have := openM_sub r ds (rngI 0 (n + 1))
        rw [rngI_length] at this
        omega
  exact key _ (Nat.le_refl _)
def UnsV (r : Int) (ds : List (Int × Int)) (k : Int) (v : Str × ((List Int) ⊕ (List (List Int)))) : Prop := (v.1 = ("row" : Str) → ∃ row, v = (("row" : Str), Sum.inl row) ∧ Good r ds k row (rngI 0 r.toNat)) ∧ (k = r → v.1 = ("row" : Str))
theorem dx_unseen (ok : HOk h) {k : Int} (hk : 1 ≤ k ∧ k ≤ 9) : Dx (M_unseen h k) (UnsV h.r h.ds k) := by
  have h9 := ok.2.1
  have h1 := ok.1
  unfold M_unseen
  refine Dx.bindE (gd_check_many hk) (Dx.bind (dx_rows ok k) fun d hd => Dx.bindE (Gd.grd (by omega) rfl) (Dx.bindE (Gd.ret rfl) ?_))
  cases e : lkD d.kv (rngI 0 h.r.toNat) with
  | some row =>
    refine Dx.condT (Dx.bindE (Gd.ret rfl) (Dx.bindE (Gd.bindE (Gd.opt rfl rfl) (Gd.ret rfl)) (Dx.ret ⟨fun _ => ⟨row, rfl, hd.1.good _ _ e⟩, fun _ => rfl⟩)))
  | none =>
    refine Dx.condF (Dx.bindE (Gd.ret rfl) (Dx.bindE (Gd.bindE (Gd.bindE (Gd.grd allOkT rfl) (Gd.ret rfl)) (Gd.ret rfl)) (Dx.ret ⟨fun z => absurd (show (("closed" : Str) = ("row" : Str)) from z) (by decide), fun z => ?_⟩)))
    subst z
    obtain ⟨v, hv⟩ := lkD_key (rfin_whole ok hd)
    rw [e] at hv; cases hv
theorem good_row {r : Int} {ds : List (Int × Int)} {k : Int} {row : List Int} (ok : HOk' r ds) (g : Good r ds k row (rngI 0 r.toNat)) : RowOk r row := by
  refine ⟨by have := ok.1; omega, ok.2.1, ?_⟩
  rw [g.1]
  exact (sortO_perm row).symm
def FewV (h : Hs C) (k : Int) : Prop := 1 ≤ k ∧ k ≤ h.r ∧ ∃ row, Gd (M_unseen h k) (· = (("row" : Str), Sum.inl row)) ∧ Good h.r h.ds k row (rngI 0 h.r.toNat)
theorem gd_fewest (ok : HOk h) : Gd (M_fewest_unseen h) (FewV h) := by
  have h9 := ok.2.1
  have h1 := ok.1
  have hall : ∀ k : Int, ∃ v, 1 ≤ k ∧ k ≤ 9 → Gd (M_unseen h k) (· = v) ∧ UnsV h.r h.ds k v := fun k => by
    by_cases hk : 1 ≤ k ∧ k ≤ 9
    · obtain ⟨v, e, u⟩ := dx_unseen ok hk; exact ⟨v, fun _ => ⟨e, u⟩⟩
    · exact ⟨(("row" : Str), Sum.inl []), fun z => absurd z hk⟩
  have huv : ∀ k : Int, 1 ≤ k ∧ k ≤ 9 → Gd (M_unseen h k) (· = Classical.choose (hall k)) ∧ UnsV h.r h.ds k (Classical.choose (hall k)) := fun k => Classical.choose_spec (hall k)
  generalize huve : (fun k => Classical.choose (hall k)) = uv at *
  have huv : ∀ k : Int, 1 ≤ k ∧ k ≤ 9 → Gd (M_unseen h k) (· = uv k) ∧ UnsV h.r h.ds k (uv k) := fun k hk => by rw [← huve]; exact huv k hk
  have hm : ∀ k, k ∈ rngI 1 (h.r + 1 - 1).toNat → 1 ≤ k ∧ k ≤ h.r := fun k m => by
    have := mem_rngI.mp m
    omega
  unfold M_fewest_unseen
  refine Gd.bindE (Gd.bindE (Gd.bindE (Gd.ret rfl) (Gd.bindE (Gd.ret rfl) (Gd.grd (by omega) rfl))) (Gd.lcE (fun k => decide ((uv k).1 = ("row" : Str))) id ?_ (fun k m => ?_) (fun k _ _ => Gd.ret rfl) rfl)) ?_
  · rw [rngI_length]; omega
  · have := hm k m
    exact Gd.bindE (Gd.bindE (huv k (by omega)).1 (Gd.ret rfl)) (Gd.bindE (Gd.ret rfl) (Gd.ret rfl))
  rw [List.map_id]
  have hmem : h.r ∈ (rngI 1 (h.r + 1 - 1).toNat).filter fun k => decide ((uv k).1 = ("row" : Str)) :=
    List.mem_filter.mpr ⟨mem_rngI.mpr (by omega), decide_eq_true ((huv h.r (by omega)).2.2 rfl)⟩
  have hpos := List.length_pos_of_mem hmem
  refine Gd.grd hpos ?_
  have hs := (minL_spec hpos).1
  generalize minL ((rngI 1 (h.r + 1 - 1).toNat).filter fun k => decide ((uv k).1 = ("row" : Str))) = k0 at hs
  obtain ⟨m1, m2⟩ := List.mem_filter.mp hs
  have hk := hm k0 m1
  obtain ⟨e, u⟩ := huv k0 (by omega)
  obtain ⟨row, ev, g⟩ := u.1 (of_decide_eq_true m2)
  exact ⟨hk.1, hk.2, row, by rw [ev] at e; exact e, g⟩
end
end Cl
namespace Cl
open PySem L2 Zw RZ
@[irreducible] def M_reached_by {C : Addr} (a_house : (Hs C)) (a_gone : (List Int)) (a_room : Int) : Wm (List Int) :=
  Wm.bind (Wm.ret (Ls.mk ([] : List Int))) fun x_found_1 => Wm.bind (Wm.ret (DI.mk [(a_room, true)])) fun x_met_2 => Wm.bind (Wm.grd (([a_room] : List Int).length ≤ 100000) (Ls.mk [a_room])) fun x_waiting_3 => Wm.bind (whileW (R := (List Int)) (fun (s11 : (List Int) × (List (Int × Bool)) × (List Int)) => (Wm.ret (decide ((0 : Int) < (s11.1.length : Int))))) (fun s11 => Wm.bind (Wm.opt (popL s11.1)) fun z21 => Wm.bind (Wm.bind (M_nears (C := C) a_house) fun z25 => (Wm.bind (Wm.ret z21.2) fun z26 => (Wm.opt (L2.atI z25 z26)))) fun l59 => Wm.bind (foldW (fun x_other_32 (s34 : (List (Int × Bool)) × (List Int) × (List Int)) => Wm.bind (Wm.ret (!decide (x_other_32 ∈ keysD s34.1))) fun b43 => cond b43 (Wm.bind (Wm.ret true) fun a50 => Wm.bind (Wm.ret x_other_32) fun a51 => Wm.bind (Wm.grd (s34.1.length < 100000) (putD s34.1 a51 a50)) fun x_met_44 => Wm.bind (Wm.ret (decide (x_other_32 ∈ a_gone))) fun b45 => cond b45 (Wm.bind (Wm.ret x_other_32) fun a47 => Wm.bind (Wm.grd (s34.2.1.length < 100000) (s34.2.1 ++ [a47])) fun x_waiting_46 => Wm.ret (x_met_44, x_waiting_46, s34.2.2)) (Wm.bind (Wm.ret x_other_32) fun a49 => Wm.bind (Wm.grd (s34.2.2.length < 100000) (s34.2.2 ++ [a49])) fun x_found_48 => Wm.ret (x_met_44, s34.2.1, x_found_48))) (Wm.ret (s34.1, s34.2.1, s34.2.2))) l59 (s11.2.1, z21.1, s11.2.2)) fun s52 => Wm.ret (Ctl.nx (s52.2.1, s52.1, s52.2.2))) (x_waiting_3.l, x_met_2.kv, x_found_1.l)) fun c9 => Ctl.go c9 Wm.ret fun s12 => (Wm.bind (Wm.grd (∀ d ∈ s12.2.2, PySrt.ok d) (Ls.mk (sortO s12.2.2))) fun z66 => (Wm.ret z66.l))

@[irreducible] def M_beside_by {C : Addr} (a_house : (Hs C)) (a_row : (List Int)) : Wm (List (List Int)) :=
  (Wm.bind (Wm.bind (Wm.bind (Wm.ret a_row) fun l1 => Wm.ret (numL l1)) fun l9 => lcW (fun d3 => (Wm.ret true)) (fun d3 => (M_reached_by (C := C) a_house (cutL a_row none (some d3.1)) d3.2)) l9) fun z6 => (Wm.ret z6.l))

@[irreducible] def M_left_beside {C : Addr} (a_house : (Hs C)) (a_row : (List Int)) : Wm (List (List Int)) :=
  Wm.bind (M_check_row (C := C) a_house a_row) fun u1 => (M_beside_by (C := C) a_house a_row)

@[irreducible] def M_width_of {C : Addr} (a_house : (Hs C)) (a_row : (List Int)) : Wm Int :=
  (Wm.bind (Wm.bind (M_beside_by (C := C) a_house a_row) fun l9 => lcW (fun x_lot_2 => (Wm.ret true)) (fun x_lot_2 => (Wm.ret (x_lot_2.length : Int))) l9) fun z3 => (Wm.grd (0 < z3.l.length) (maxL z3.l)))

@[irreducible] def M_width {C : Addr} (a_house : (Hs C)) (a_row : (List Int)) : Wm Int :=
  Wm.bind (M_check_row (C := C) a_house a_row) fun u1 => (M_width_of (C := C) a_house a_row)

end Cl
/-! NP4: the rooms left beside a room as it is taken out. -/
namespace Cl
open PySem L2 Zw RZ
/-- rooms to which doors lead from v, by v and rooms that are gone -/
def Pth (r : Int) (ds : List (Int × Int)) (g : List Int) (v x : Int) : Prop := ∀ S : Int → Prop, S v → (∀ y, S y → (y = v ∨ y ∈ g) → ∀ z, Near r ds y z → S z) → S x
section
variable {r : Int} {ds : List (Int × Int)} {g : List Int} {u v x y z : Int}
theorem Pth.base : Pth r ds g v v := fun S s _ => s
theorem Pth.step (h : Pth r ds g v y) (e : y = v ∨ y ∈ g) (n : Near r ds y z) : Pth r ds g v z := fun S s c => c y (h S s c) e z n
theorem Pth.mono {g' : List Int} (h : Pth r ds g v x) (i : ∀ y, y ∈ g → y ∈ g') : Pth r ds g' v x := fun S s c => h S s fun y sy e z n => c y sy (e.imp id (i y)) z n
theorem Pth.trans (h : Pth r ds g u y) (hy : y ∈ g) (h2 : Pth r ds g y x) : Pth r ds g u x := fun S s c => h2 S (h S s c) fun w sw e z n => c w sw (.inr (e.elim (fun q => q ▸ hy) id)) z n
theorem Pth.symm (h : Pth r ds g u v) : Pth r ds g v u := h (fun y => Pth r ds g y u) Pth.base fun y hy e z n => by
  have hz : Pth r ds g z y := Pth.base.step (.inl rfl) n.symm
  rcases e with e | e
  · subst e; exact hz
  · exact hz.trans e hy
theorem Pth.more : Pth r ds (g ++ [v]) u x ↔ Pth r ds g u x ∨ (Pth r ds g u v ∧ Pth r ds g v x) := by
  constructor
  · intro h
    refine h (fun x => Pth r ds g u x ∨ (Pth r ds g u v ∧ Pth r ds g v x)) (.inl Pth.base) fun y hy e z n => ?_
    rcases e with e | e
    · subst e; exact .inl (Pth.base.step (.inl rfl) n)
    · rcases List.mem_append.mp e with e | e
      · exact hy.imp (fun h => h.step (.inr e) n) fun h => ⟨h.1, h.2.step (.inr e) n⟩
      · rw [List.mem_singleton] at e
        subst e
        have huv : Pth r ds g u y := hy.elim id fun h => h.1
        exact .inr ⟨huv, Pth.base.step (.inl rfl) n⟩
  · rintro (h | ⟨h1, h2⟩)
    · exact h.mono fun y m => List.mem_append_left _ m
    · have hv : Pth r ds (g ++ [v]) u v := h1.mono fun y m => List.mem_append_left _ m
      exact hv.trans (by simp) (h2.mono fun y m => List.mem_append_left _ m)
theorem Pth.none : Pth r ds [] v x ↔ x = v ∨ Near r ds v x := by
  constructor
  · intro h
    exact h (fun x => x = v ∨ Near r ds v x) (.inl rfl) fun y hy e z n => by
      rcases e with e | e
      · subst e; exact .inr n
      · cases e
  · rintro (rfl | n)
    · exact Pth.base
    · exact Pth.base.step (.inl rfl) n
end
/-- the lot of the rooms left beside v -/
def LotQ (r : Int) (ds : List (Int × Int)) (g : List Int) (v : Int) (l : List Int) : Prop := l.Pairwise (· < ·) ∧ ∀ o, o ∈ l ↔ o ≠ v ∧ o ∉ g ∧ Pth r ds g v o
theorem lt_uniq {l m : List Int} (hl : l.Pairwise (· < ·)) (hm : m.Pairwise (· < ·)) (h : ∀ x, x ∈ l ↔ x ∈ m) : l = m := by
  have p : l.Perm m := (List.perm_ext_iff_of_nodup (hl.imp fun {a b} z => by omega) (hm.imp fun {a b} z => by omega)).mpr h
  rw [← sortO_id (hl.imp fun {a b} z => by omega), ← sortO_id (hm.imp fun {a b} z => by omega), sortO_of_perm p]
theorem LotQ.uniq {r : Int} {ds : List (Int × Int)} {g : List Int} {v : Int} {l m : List Int} (hl : LotQ r ds g v l) (hm : LotQ r ds g v m) : l = m := lt_uniq hl.1 hm.1 fun x => by rw [hl.2, hm.2]
def TakenOk (r : Int) (ds : List (Int × Int)) (row : List Int) (T : List (List Int)) : Prop := T.length = row.length ∧ ∀ i v lot, row[i]? = some v → T[i]? = some lot → LotQ r ds (row.take i) v lot
theorem TakenOk.uniq {r : Int} {ds : List (Int × Int)} {row : List Int} {T U : List (List Int)} (ht : TakenOk r ds row T) (hu : TakenOk r ds row U) : T = U := by
  refine List.ext_getElem? fun i => ?_
  by_cases hi : i < row.length
  · obtain ⟨t, a1⟩ : ∃ t, T[i]? = some t := ⟨_, List.getElem?_eq_getElem (by rw [ht.1]; exact hi)⟩
    obtain ⟨u, a2⟩ : ∃ t, U[i]? = some t := ⟨_, List.getElem?_eq_getElem (by rw [hu.1]; exact hi)⟩
    rw [a1, a2, (ht.2 i _ _ (List.getElem?_eq_getElem hi) a1).uniq (hu.2 i _ _ (List.getElem?_eq_getElem hi) a2)]
  · rw [List.getElem?_eq_none (by rw [ht.1]; omega), List.getElem?_eq_none (by rw [hu.1]; omega)]
section
variable {C : Addr} {h : Hs C}
structure QIn (r : Int) (ds : List (Int × Int)) (g : List Int) (v : Int) (kv : List (Int × Bool)) (wt fd : List Int) (exc : Int → Prop) : Prop where
  nd : (keysD kv).Nodup
  kr : ∀ k ∈ keysD kv, 0 ≤ k ∧ k < r
  vk : v ∈ keysD kv
  w : ∀ y ∈ wt, y ∈ keysD kv ∧ (y = v ∨ y ∈ g)
  fnd : fd.Nodup
  f : ∀ o, o ∈ fd ↔ o ∈ keysD kv ∧ o ≠ v ∧ o ∉ g
  p : ∀ k ∈ keysD kv, Pth r ds g v k
  clo : ∀ y ∈ keysD kv, (y = v ∨ y ∈ g) → y ∈ wt ∨ exc y ∨ ∀ z, Near r ds y z → z ∈ keysD kv
theorem qin_put {r : Int} {ds : List (Int × Int)} {g : List Int} {v x o : Int} {kv : List (Int × Bool)} {wt fd : List Int} {exc : Int → Prop} (q : QIn r ds g v kv wt fd exc) (hx : x ∈ keysD kv) (hx2 : x = v ∨ x ∈ g) (n : Near r ds x o) (ho : o ∉ keysD kv) :
    (o ∈ g → QIn r ds g v (putD kv o true) (wt ++ [o]) fd exc) ∧ (o ∉ g → QIn r ds g v (putD kv o true) wt (fd ++ [o]) exc) := by
  have hk : ∀ y, y ∈ keysD kv → y ∈ keysD (putD kv o true) := fun y m => mem_putD.mpr (.inr m)
  have nd := nodup_putD (k := o) (v := true) q.nd
  have kr : ∀ k ∈ keysD (putD kv o true), 0 ≤ k ∧ k < r := fun k m => (mem_putD.mp m).elim (fun e => by rw [e]; exact n.2.1) (q.kr k)
  have p : ∀ k ∈ keysD (putD kv o true), Pth r ds g v k := fun k m => (mem_putD.mp m).elim (fun e => by rw [e]; exact (q.p x hx).step hx2 n) (q.p k)
  have hov : o ≠ v := fun e => ho (by rw [e]; exact q.vk)
  refine ⟨fun og => ⟨nd, kr, hk _ q.vk, fun y m => ?_, q.fnd, fun z => ?_, p, fun y m e => ?_⟩, fun og => ⟨nd, kr, hk _ q.vk, fun y m => ⟨hk _ (q.w y m).1, (q.w y m).2⟩, ?_, fun z => ?_, p, fun y m e => ?_⟩⟩
  · rcases List.mem_append.mp m with m | m
    · exact ⟨hk _ (q.w y m).1, (q.w y m).2⟩
    · rw [List.mem_singleton.mp m]; exact ⟨mem_putD.mpr (.inl rfl), .inr og⟩
  · rw [q.f, mem_putD]
    constructor
    · rintro ⟨a, b⟩; exact ⟨.inr a, b⟩
    · rintro ⟨a | a, b⟩
      · subst a; exact absurd og b.2
      · exact ⟨a, b⟩
  · rcases mem_putD.mp m with e1 | m
    · exact .inl (by rw [e1]; simp)
    · rcases q.clo y m e with z | z | z
      · exact .inl (List.mem_append_left _ z)
      · exact .inr (.inl z)
      · exact .inr (.inr fun w nw => hk _ (z w nw))
  · rw [List.nodup_append]
    refine ⟨q.fnd, by simp, fun a ha b hb z => ?_⟩
    rw [List.mem_singleton] at hb
    subst hb z
    exact ho ((q.f a).mp ha).1
  · rw [List.mem_append, q.f, mem_putD, List.mem_singleton]
    constructor
    · rintro (⟨a, b⟩ | a)
      · exact ⟨.inr a, b⟩
      · subst a; exact ⟨.inl rfl, hov, og⟩
    · rintro ⟨a | a, b⟩
      · exact .inr a
      · exact .inl ⟨a, b⟩
  · rcases mem_putD.mp m with e1 | m
    · subst e1
      exact absurd e (by rintro (e | e); exact hov e; exact og e)
    · rcases q.clo y m e with z | z | z
      · exact .inl z
      · exact .inr (.inl z)
      · exact .inr (.inr fun w nw => hk _ (z w nw))
theorem gd_reached_by (ok : HOk h) {g : List Int} {v : Int} (hv : 0 ≤ v ∧ v < h.r) : Gd (M_reached_by h g v) (fun l => LotQ h.r h.ds g v l) := by
  have h9 := ok.2.1
  unfold M_reached_by
  refine Gd.bindE (Gd.ret rfl) (Gd.bindE (Gd.ret rfl) (Gd.bindE (Gd.grd (by simp) rfl) ?_))
  refine Gd.whileW (n0 := 1000) (fun n s => n ≤ 1000 ∧ s.1.length + 2 * free h.r s.2.1 ≤ n ∧ QIn h.r h.ds g v s.2.1 s.1 s.2.2 (fun _ => False)) (fun s => decide ((0 : Int) < (s.1.length : Int))) (fun _ => False) ?_ (fun _ _ _ => rfl) (fun n s hI hb => ?_) (fun n s hI hb => ?_) fun _ z => z.elim
  · have := free_le h.r [(v, true)]
    have hk : ∀ k, k ∈ keysD [(v, true)] ↔ k = v := fun k => by simp [keysD]
    refine ⟨Nat.le_refl _, by show [v].length + 2 * free h.r [(v, true)] ≤ _; simp; omega, ⟨by simp [keysD], fun k m => by rw [(hk k).mp m]; exact hv, (hk v).mpr rfl, fun y m => ?_, List.nodup_nil, fun o => ?_, fun k m => by rw [(hk k).mp m]; exact Pth.base, fun y m _ => .inl (by rw [(hk y).mp m]; simp)⟩⟩
    · have e : y = v := List.mem_singleton.mp m
      exact ⟨(hk y).mpr e, .inl e⟩
    · show o ∈ ([] : List Int) ↔ _
      rw [hk]
      simp
      intro e e2; exact absurd e e2
  · obtain ⟨w, x, e⟩ := snoc_of hb
    obtain ⟨wt, kv, fd⟩ := s
    simp only at e
    subst e
    obtain ⟨hn, hm, q⟩ := hI
    simp only at hm q
    rw [List.length_append] at hm
    simp only [List.length_singleton] at hm
    obtain ⟨hx, hx2⟩ := q.w x (by simp)
    have hxr := q.kr x hx
    refine Gd.bindE (Gd.opt (popL_snoc w x) rfl) (Gd.bindE (Gd.bindE (gd_nears ok) (Gd.bindE (Gd.ret rfl) (Gd.opt (nears_at hxr) rfl))) (Gd.bind (Gd.foldW (fun i s => s.2.1.length + 2 * free h.r s.1 + 1 ≤ n ∧ QIn h.r h.ds g v s.1 s.2.1 s.2.2 (· = x) ∧ x ∈ keysD s.1 ∧ ∀ j z, j < i → ((nearsM h.r h.ds).getD x.toNat [])[j]? = some z → z ∈ keysD s.1) ?_ (fun i o s hd hI => ?_) fun s hs => hs) fun s hs => Gd.ret ⟨n - 1, by omega, by omega, ?_, ?_⟩))
    · refine ⟨by show w.length + 2 * free h.r kv + 1 ≤ n; omega, ⟨q.nd, q.kr, q.vk, fun y m => q.w y (List.mem_append_left _ m), q.fnd, q.f, q.p, fun y m e => ?_⟩, hx, fun j _ hj => by omega⟩
      rcases q.clo y m e with z | z | z
      · rcases List.mem_append.mp z with z | z
        · exact .inl z
        · exact .inr (.inl (List.mem_singleton.mp z))
      · exact z.elim
      · exact .inr (.inr z)
    · obtain ⟨kv1, wt1, fd1⟩ := s
      obtain ⟨m1, q1, x1, d1⟩ := hI
      simp only at m1 q1 x1 d1
      have no : Near h.r h.ds x o := (near_nearsM ok hxr.1 hxr.2).mp (List.mem_of_getElem? hd)
      have hkl := keys_len q1.nd q1.kr
      have hkl2 : (keysD kv1).length = kv1.length := by unfold keysD; simp
      have hfl : fd1.length ≤ 9 := by
        have := nodup_len q1.fnd fun k m => q1.kr k ((q1.f k).mp m).1
        omega
      refine Gd.bindE (Gd.ret rfl) (Gd.cond (fun hc => ?_) fun hc => ?_)
      · have c1 : o ∉ keysD kv1 := by simpa using hc
        have hf := free_put (v := true) no.2.1 c1
        have hk : ∀ y, y ∈ keysD kv1 → y ∈ keysD (putD kv1 o true) := fun y m => mem_putD.mpr (.inr m)
        have dn : ∀ j z, j < i + 1 → ((nearsM h.r h.ds).getD x.toNat [])[j]? = some z → z ∈ keysD (putD kv1 o true) := fun j z hj hz => by
          by_cases e : j = i
          · subst e; rw [hd] at hz; cases hz; exact mem_putD.mpr (.inl rfl)
          · exact hk _ (d1 j z (by omega) hz)
        have qp := qin_put q1 x1 hx2 no c1
        refine Gd.bindE (Gd.ret rfl) (Gd.bindE (Gd.ret rfl) (Gd.bindE (Gd.grd (by show kv1.length < 100000; omega) rfl) (Gd.bindE (Gd.ret rfl) (Gd.cond (fun hg => ?_) fun hg => ?_))))
        · have hg := of_decide_eq_true hg
          refine Gd.bindE (Gd.ret rfl) (Gd.bindE (Gd.grd (by show wt1.length < 100000; omega) rfl) (Gd.ret ⟨?_, qp.1 hg, hk _ x1, dn⟩))
          show (wt1 ++ [o]).length + 2 * free h.r (putD kv1 o true) + 1 ≤ n
          rw [List.length_append]; simp; omega
        · have hg := of_decide_eq_false hg
          refine Gd.bindE (Gd.ret rfl) (Gd.bindE (Gd.grd (by show fd1.length < 100000; omega) rfl) (Gd.ret ⟨?_, qp.2 hg, hk _ x1, dn⟩))
          show wt1.length + 2 * free h.r (putD kv1 o true) + 1 ≤ n
          omega
      · have c1 : o ∈ keysD kv1 := by simpa using hc
        refine Gd.ret ⟨m1, q1, x1, fun j z hj hz => ?_⟩
        by_cases e : j = i
        · subst e; rw [hd] at hz; cases hz; exact c1
        · exact d1 j z (by omega) hz
    · show s.2.1.length + 2 * free h.r s.1 ≤ n - 1
      have := hs.1
      omega
    · obtain ⟨_, q1, x1, d1⟩ := hs
      refine ⟨q1.nd, q1.kr, q1.vk, q1.w, q1.fnd, q1.f, q1.p, fun y m e => ?_⟩
      rcases q1.clo y m e with z | z | z
      · exact .inl z
      · refine .inr (.inr fun u nu => ?_)
        have hu := (near_nearsM ok hxr.1 hxr.2).mpr (by rw [← z]; exact nu)
        obtain ⟨j, hj⟩ := List.mem_iff_getElem?.mp hu
        exact d1 j u (List.getElem?_eq_some_iff.mp hj).1 hj
      · exact .inr (.inr z)
  · obtain ⟨wt, kv, fd⟩ := s
    obtain ⟨_, _, q⟩ := hI
    have e : wt = [] := by
      have := of_decide_eq_false hb
      exact List.eq_nil_of_length_eq_zero (by simp only at this; omega)
    subst e
    simp only at q
    refine Gd.bindE (Gd.grd allOkI rfl) (Gd.ret ⟨strict_sort q.fnd, fun o => ?_⟩)
    show o ∈ sortO fd ↔ _
    rw [mem_sortO, q.f]
    constructor
    · rintro ⟨a, b, c⟩; exact ⟨b, c, q.p o a⟩
    · rintro ⟨b, c, a⟩
      exact ⟨a (· ∈ keysD kv) q.vk fun y hy e z n => (q.clo y hy e).elim (fun m => by cases m) fun z' => z'.elim False.elim fun c => c z n, b, c⟩
theorem pk_at {α β : Type} {T : α → Bool → Prop} {E : α → β → Prop} (ht : ∀ d, ¬ T d false) {ds : List α} {l : List β} (h : Pk T E ds l) : ∀ (i : Nat) d x, ds[i]? = some d → l[i]? = some x → E d x := by
  induction h with
  | nil => intro i d x h; simp at h
  | yes hp t e ih =>
    rename_i ds0 l0 d0 x0
    intro i d x hd hx
    have hl := hp.len ht
    by_cases q : i < ds0.length
    · rw [List.getElem?_append_left q] at hd
      rw [List.getElem?_append_left (by omega)] at hx
      exact ih i d x hd hx
    · have e1 := (List.getElem?_eq_some_iff.mp hd).1
      rw [List.length_append] at e1
      have ei : i = ds0.length := by simp at e1; omega
      subst ei
      rw [List.getElem?_append_right (Nat.le_refl _), Nat.sub_self] at hd
      rw [List.getElem?_append_right (by omega), show ds0.length - l0.length = 0 by omega] at hx
      simp at hd hx
      subst hd hx
      exact e
  | no hp t _ => exact absurd t (ht _)
theorem gd_beside_by (ok : HOk h) {row : List Int} (rok : RowOk h.r row) : Gd (M_beside_by h row) (TakenOk h.r h.ds row) := by
  have h9 := ok.2.1
  have hl : row.length = h.r.toNat := by rw [rok.2.2.length_eq, rngI_length]
  unfold M_beside_by
  refine Gd.bind (Q := fun d : Ls (List Int) => TakenOk h.r h.ds row d.l) (Gd.bindE (Gd.bindE (Gd.ret rfl) (Gd.ret rfl)) (Gd.lc (fun _ b => b = true) (fun d l => LotQ h.r h.ds (row.take d.1.toNat) d.2 l) (by rw [numL_length]; omega) (fun _ _ => Gd.ret rfl) (fun d m _ => ?_) fun l hp => ?_)) fun d hd => Gd.ret hd
  · obtain ⟨i, hi⟩ := List.mem_iff_getElem?.mp m
    have := numL_get hi
    have hv := mem_rngI.mp (rok.2.2.mem_iff.mp (List.mem_of_getElem? this.2))
    rw [cutL_head _ (by omega)]
    exact gd_reached_by ok (by omega)
  · have hlen := hp.len (fun _ z => by cases z)
    refine ⟨by show l.length = _; rw [hlen, numL_length], fun i v lot hv hlot => ?_⟩
    have := pk_at (fun _ z => by cases z) hp i _ _ (numL_at hv) hlot
    simpa using this
end
end Cl
namespace Cl
open PySem L2 Zw RZ
@[irreducible] def M_lots_of (a_rooms : Int) : Wm (Ls (List Int)) :=
  Wm.bind (Wm.grd (([([] : (List Int))] : List (List Int)).length ≤ 100000) (Ls.mk [([] : (List Int))])) fun x_found_1 => Wm.bind (Wm.bind (Wm.ret a_rooms) fun n3 => Wm.grd (-100000 ≤ n3 ∧ n3 ≤ 100000) (rngI 0 n3.toNat)) fun l33 => Wm.bind (foldW (fun x_room_9 (s11 : (List (List Int))) => Wm.bind (Wm.bind (Wm.ret (Ls.mk s11)) fun z18 => (Wm.bind (Wm.bind (Wm.bind (Wm.ret (Ls.mk s11)) fun l15 => Wm.ret l15.l) fun l9 => lcW (fun x_lot_17 => (Wm.ret true)) (fun x_lot_17 => (Wm.grd (x_lot_17.length + ([x_room_9] : (List Int)).length ≤ 100000) (x_lot_17 ++ ([x_room_9] : (List Int))))) l9) fun z19 => (Wm.grd (z18.l.length + z19.l.length ≤ 100000) (Ls.mk (z18.l ++ z19.l))))) fun x_found_20 => Wm.ret x_found_20.l) l33 x_found_1.l) fun s22 => (Wm.bind (Wm.bind (Wm.bind (Wm.bind (Wm.bind (Wm.ret (Ls.mk s22)) fun l24 => Wm.ret l24.l) fun l9 => lcW (fun x_lot_26 => (Wm.ret true)) (fun x_lot_26 => (Wm.ret ((x_lot_26.length : Int), x_lot_26))) l9) fun z27 => (Wm.grd (∀ d ∈ z27.l, PySrt.ok d) (Ls.mk (sortO z27.l)))) fun l28 => Wm.ret l28.l) fun l9 => lcW (fun d30 => (Wm.ret true)) (fun d30 => (Wm.ret d30.2)) l9)

@[irreducible] def M_best_rows {C : Addr} (a_house : (Hs C)) : Wm (DT (Int × (List Int))) :=
  Wm.bind (Wm.ret (DT.mk [(([] : (List Int)), ((0 : Int), ([] : (List Int))))])) fun x_found_1 => Wm.bind (Wm.bind (Wm.bind (M_lots_of a_house.r) fun z3 => (Wm.ret (Ls.mk (cutL z3.l (some (1 : Int)) none)))) fun l4 => Wm.ret l4.l) fun l54 => Wm.bind (foldW (fun x_lot_10 (s12 : (List (List Int × (Int × (List Int))))) => Wm.bind (Wm.ret (Ls.mk ([] : List (Int × (List Int))))) fun x_some_16 => Wm.bind (Wm.ret x_lot_10) fun l51 => Wm.bind (foldW (fun x_room_23 (s25 : (List (Int × (List Int)))) => Wm.bind (Wm.bind (Wm.bind (Wm.ret x_lot_10) fun l9 => lcW (fun x_other_30 => (Wm.ret (!decide (x_other_30 = x_room_23)))) (fun x_other_30 => (Wm.ret x_other_30)) l9) fun z31 => (Wm.ret z31.l)) fun x_rest_32 => Wm.bind (Wm.opt (lkD s12 x_rest_32)) fun z34 => Wm.bind (Wm.bind (Wm.bind (Wm.ret z34.1) fun z41 => (Wm.bind (Wm.bind (M_reached_by (C := C) a_house x_rest_32 x_room_23) fun z40 => (Wm.ret (z40.length : Int))) fun z42 => (Wm.ret (max z41 z42)))) fun z43 => (Wm.bind (Wm.grd (z34.2.length + ([x_room_23] : (List Int)).length ≤ 100000) (z34.2 ++ ([x_room_23] : (List Int)))) fun z44 => (Wm.ret (z43, z44)))) fun a45 => Wm.bind (Wm.grd (s25.length < 100000) (s25 ++ [a45])) fun x_some_39 => Wm.ret x_some_39) l51 x_some_16.l) fun s46 => Wm.bind (Wm.opt (sortO s46).head?) fun a49 => Wm.bind (Wm.ret x_lot_10) fun a50 => Wm.bind (Wm.grd (s12.length < 100000) (putD s12 a50 a49)) fun x_found_48 => Wm.ret x_found_48) l54 x_found_1.kv) fun s52 => Wm.ret (DT.mk s52)

@[irreducible] def M_best_row {C : Addr} (a_house : (Hs C)) : Wm (Int × (List Int)) :=
  (Wm.bind (M_best_rows (C := C) a_house) fun z1 => (Wm.bind (Wm.grd (-100000 ≤ a_house.r ∧ a_house.r ≤ 100000) (rngI 0 a_house.r.toNat)) fun z2 => (Wm.opt (lkD z1.kv z2))))

@[irreducible] def M_fewest_fast {C : Addr} (a_house : (Hs C)) : Wm Int :=
  (Wm.bind (Wm.bind (M_best_row (C := C) a_house) fun z1 => (Wm.ret z1.1)) fun z2 => (Wm.bind (Wm.ret (1 : Int)) fun z3 => (Wm.ret (z2 + z3))))

@[irreducible] def M_less {C : Addr} (a_house : (Hs C)) (a_a : Int) (a_b : Int) : Wm (Hs C) :=
  (Wm.bind (Wm.ret a_house.r) fun z4 => (Wm.bind (Wm.bind (Wm.bind (Wm.ret a_house.ds) fun l9 => lcW (fun x_door_2 => (Wm.ret (!decide (x_door_2 = (a_a, a_b))))) (fun x_door_2 => (Wm.ret x_door_2)) l9) fun z3 => (Wm.ret z3.l)) fun z5 => (hsM C z4 z5)))

@[irreducible] def M_numbered (a_room : Int) (a_gone : Int) : Wm Int :=
  (Wm.ret (if (decide (a_gone < a_room)) = true then (a_room - (1 : Int)) else a_room))

@[irreducible] def M_without {C : Addr} (a_house : (Hs C)) (a_a : Int) : Wm (Hs C) :=
  Wm.bind (Wm.bind (Wm.ret a_house.ds) fun l9 => lcW (fun d2 => (Wm.ret (!decide (a_a ∈ [(d2.1, d2.2).1, (d2.1, d2.2).2])))) (fun d2 => (Wm.bind (M_numbered d2.1 a_a) fun z5 => (Wm.bind (M_numbered d2.2 a_a) fun z6 => (Wm.ret (z5, z6))))) l9) fun x_doors_7 => (Wm.bind (Wm.ret (a_house.r - (1 : Int))) fun z10 => (Wm.bind (Wm.bind (Wm.grd (∀ d ∈ x_doors_7.l, PySrt.ok d) (Ls.mk (sortO x_doors_7.l))) fun z9 => (Wm.ret z9.l)) fun z11 => (hsM C z10 z11)))

@[irreducible] def M_one_of {C : Addr} (a_house : (Hs C)) (a_a : Int) (a_b : Int) : Wm (Hs C) :=
  Wm.bind (Wm.ret (DT.mk ([] : List (List Int × Bool)))) fun x_doors_1 => Wm.bind (Wm.ret a_house.ds) fun l40 => Wm.bind (foldW (fun d8 (s10 : (List (List Int × Bool))) => Wm.bind (Wm.bind (Wm.ret ([d8.1, d8.2] : (List Int))) fun l9 => lcW (fun x_room_19 => (Wm.ret true)) (fun x_room_19 => (Wm.ret (if (decide (x_room_19 = a_b)) = true then a_a else x_room_19))) l9) fun x_pair_21 => Wm.bind (Wm.bind (Wm.opt (L2.atI x_pair_21.l (0 : Int))) fun z23 => (Wm.bind (Wm.opt (L2.atI x_pair_21.l (1 : Int))) fun z24 => (Wm.ret (!decide (z23 = z24))))) fun b25 => cond b25 (Wm.bind (Wm.ret true) fun a32 => Wm.bind (Wm.bind (Wm.bind (Wm.bind (Wm.bind (Wm.ret x_pair_21) fun l26 => Wm.ret l26.l) fun l9 => lcW (fun x_room_28 => (Wm.ret true)) (fun x_room_28 => (M_numbered x_room_28 a_b)) l9) fun z29 => (Wm.grd (∀ d ∈ z29.l, PySrt.ok d) (Ls.mk (sortO z29.l)))) fun z30 => (Wm.ret z30.l)) fun a33 => Wm.bind (Wm.grd (s10.length < 100000) (putD s10 a33 a32)) fun x_doors_31 => Wm.ret x_doors_31) (Wm.ret s10)) l40 x_doors_1.kv) fun s34 => (Wm.bind (Wm.ret (a_house.r - (1 : Int))) fun z38 => (Wm.bind (Wm.bind (Wm.bind (Wm.grd (∀ d ∈ (keysD s34), PySrt.ok d) (Ls.mk (sortO (keysD s34)))) fun z36 => (Wm.ret z36.l)) fun z37 => (Wm.opt (pairsL z37))) fun z39 => (hsM C z38 z39)))

@[irreducible] def M_smaller {C : Addr} (a_house : (Hs C)) : Wm (Option ((Tr Str Int Int) ⊕ (Str × Int))) :=
  Wm.bind (M_fewest_fast (C := C) a_house) fun x_due_1 => Wm.bind (Wm.ret a_house.ds) fun l60 => Wm.bind (forW (R := (Option ((Tr Str Int Int) ⊕ (Str × Int)))) (fun d8 (s10 : Unit) => Wm.bind (Wm.bind (Wm.bind (M_less (C := C) a_house d8.1 d8.2) fun z17 => (M_fewest_fast (C := C) z17)) fun z18 => (Wm.bind (Wm.ret x_due_1) fun z19 => (Wm.ret (decide (z18 = z19))))) fun b20 => cond b20 (Wm.bind (Wm.ret (some (Sum.inl (Tr.mk ("door" : Str) d8.1 d8.2) : ((Tr Str Int Int) ⊕ (Str × Int))))) fun r => Wm.ret (Ctl.rt r)) (Wm.ret (Ctl.nx ()))) l60 ()) fun c9 => Ctl.go c9 Wm.ret fun s21 => Wm.bind (Wm.ret a_house.ds) fun l59 => Wm.bind (forW (R := (Option ((Tr Str Int Int) ⊕ (Str × Int)))) (fun d27 (s29 : Unit) => Wm.bind (Wm.bind (Wm.bind (M_one_of (C := C) a_house d27.1 d27.2) fun z36 => (M_fewest_fast (C := C) z36)) fun z37 => (Wm.bind (Wm.ret x_due_1) fun z38 => (Wm.ret (decide (z37 = z38))))) fun b39 => cond b39 (Wm.bind (Wm.ret (some (Sum.inl (Tr.mk ("one" : Str) d27.1 d27.2) : ((Tr Str Int Int) ⊕ (Str × Int))))) fun r => Wm.ret (Ctl.rt r)) (Wm.ret (Ctl.nx ()))) l59 ()) fun c9 => Ctl.go c9 Wm.ret fun s40 => Wm.bind (Wm.ret (decide ((1 : Int) < a_house.r))) fun b41 => cond b41 (Wm.bind (Wm.bind (Wm.ret a_house.r) fun n42 => Wm.grd (-100000 ≤ n42 ∧ n42 ≤ 100000) (rngI 0 n42.toNat)) fun l58 => Wm.bind (forW (R := (Option ((Tr Str Int Int) ⊕ (Str × Int)))) (fun x_a_48 (s50 : Unit) => Wm.bind (Wm.bind (Wm.bind (M_without (C := C) a_house x_a_48) fun z53 => (M_fewest_fast (C := C) z53)) fun z54 => (Wm.bind (Wm.ret x_due_1) fun z55 => (Wm.ret (decide (z54 = z55))))) fun b56 => cond b56 (Wm.bind (Wm.ret (some (Sum.inr (("room" : Str), x_a_48) : ((Tr Str Int Int) ⊕ (Str × Int))))) fun r => Wm.ret (Ctl.rt r)) (Wm.ret (Ctl.nx ()))) l58 ()) fun c9 => Ctl.go c9 Wm.ret fun s57 => (Wm.ret (none : (Option ((Tr Str Int Int) ⊕ (Str × Int)))))) ((Wm.ret (none : (Option ((Tr Str Int Int) ⊕ (Str × Int))))))

end Cl
/-! NP5: the best rows of the fast game, as a recursion over lots. -/
namespace Cl
open PySem L2 Zw RZ
/-- the lots of rooms in the order that lots_of tells them -/
def lotsRaw : Nat → List (List Int)
  | 0 => [[]]
  | n + 1 => lotsRaw n ++ (lotsRaw n).map fun l => l ++ [(n : Int)]
def lotsM (r : Int) : List (List Int) := (sortO ((lotsRaw r.toNat).map fun l => ((l.length : Int), l))).map fun d => d.2
theorem lotsRaw_len : ∀ n, (lotsRaw n).length = 2 ^ n
  | 0 => rfl
  | n + 1 => by unfold lotsRaw; rw [List.length_append, List.length_map, lotsRaw_len n, Nat.pow_succ]; omega
theorem lotsRaw_ok : ∀ n, ∀ l ∈ lotsRaw n, l.Pairwise (· < ·) ∧ ∀ x ∈ l, 0 ≤ x ∧ x < (n : Int)
  | 0, l, m => by
    rw [List.mem_singleton.mp m]
    exact ⟨List.Pairwise.nil, fun x m => by cases m⟩
  | n + 1, l, m => by
    unfold lotsRaw at m
    rcases List.mem_append.mp m with m | m
    · have := lotsRaw_ok n l m
      exact ⟨this.1, fun x hx => by have := this.2 x hx; omega⟩
    · obtain ⟨k, hk, rfl⟩ := List.mem_map.mp m
      have := lotsRaw_ok n k hk
      refine ⟨List.pairwise_append.mpr ⟨this.1, by simp, fun a ha b hb => ?_⟩, fun x hx => ?_⟩
      · rw [List.mem_singleton.mp hb]; exact (this.2 a ha).2
      · rcases List.mem_append.mp hx with hx | hx
        · have := this.2 x hx; omega
        · rw [List.mem_singleton.mp hx]; omega
theorem lotsRaw_all : ∀ (n : Nat) (l : List Int), l.Pairwise (· < ·) → (∀ x ∈ l, 0 ≤ x ∧ x < (n : Int)) → l ∈ lotsRaw n
  | 0, l, _, h => by
    cases l with
    | nil => simp [lotsRaw]
    | cons x l => have := h x List.mem_cons_self; omega
  | n + 1, l, hp, h => by
    unfold lotsRaw
    rcases List.eq_nil_or_concat l with e | ⟨k, z, e⟩
    · subst e
      exact List.mem_append_left _ (lotsRaw_all n [] hp fun x m => by cases m)
    · rw [List.concat_eq_append] at e
      subst e
      obtain ⟨p1, _, p3⟩ := List.pairwise_append.mp hp
      have hz := h z (by simp)
      by_cases q : z = (n : Int)
      · subst q
        refine List.mem_append_right _ (List.mem_map.mpr ⟨k, lotsRaw_all n k p1 fun x m => ?_, rfl⟩)
        have := h x (by simp [m])
        have := p3 x m n (by simp)
        omega
      · refine List.mem_append_left _ (lotsRaw_all n _ hp fun x m => ?_)
        have hx := h x m
        rcases List.mem_append.mp m with m | m
        · have := p3 x m z (by simp); omega
        · rw [List.mem_singleton] at m; omega
theorem mem_lotsM {r : Int} (h0 : 0 ≤ r) {l : List Int} : l ∈ lotsM r ↔ l.Pairwise (· < ·) ∧ ∀ x ∈ l, 0 ≤ x ∧ x < r := by
  unfold lotsM
  rw [List.mem_map]
  constructor
  · rintro ⟨d, m, rfl⟩
    obtain ⟨k, hk, rfl⟩ := List.mem_map.mp (mem_sortO.mp m)
    have := lotsRaw_ok _ k hk
    exact ⟨this.1, fun x hx => by have := this.2 x hx; omega⟩
  · rintro ⟨h1, h2⟩
    exact ⟨((l.length : Int), l), mem_sortO.mpr (List.mem_map.mpr ⟨l, lotsRaw_all _ l h1 fun x m => by have := h2 x m; omega, rfl⟩), rfl⟩
theorem gd_lots_of {r : Int} (h : 0 ≤ r ∧ r ≤ 9) : Gd (M_lots_of r) (· = Ls.mk (lotsM r)) := by
  unfold M_lots_of
  have key : ∀ i : Nat, i ≤ r.toNat → ((rngI 0 r.toNat).take i).length = i := fun i hi => by rw [List.length_take, rngI_length]; omega
  have p9 : ∀ n : Nat, n ≤ 9 → (2 : Nat) ^ n ≤ 512 := fun n hn => Nat.le_trans (Nat.pow_le_pow_right (by decide) hn) (by decide)
  refine Gd.bindE (Gd.grd (by simp) rfl) (Gd.bindE (Gd.bindE (Gd.ret rfl) (Gd.grd (by omega) rfl)) (Gd.bindE (a := lotsRaw r.toNat) (Gd.foldW (fun i s => s = lotsRaw i) rfl (fun i room s hr hs => ?_) fun s hs => by rw [hs, rngI_length]) ?_))
  · subst hs
    have hi := (List.getElem?_eq_some_iff.mp hr).1
    rw [rngI_length] at hi
    rw [rngI_at hi] at hr
    have er : room = (i : Int) := by cases hr; rfl
    subst er
    have hl := lotsRaw_len i
    have hp := p9 i (by omega)
    refine Gd.bindE (a := Ls.mk (lotsRaw (i + 1))) (Gd.bindE (Gd.ret rfl) (Gd.bindE (Gd.bindE (Gd.bindE (Gd.ret rfl) (Gd.ret rfl)) (Gd.lcM (fun l => l ++ [(i : Int)]) (by show (lotsRaw i).length ≤ _; omega) (fun l hm => ?_) rfl)) (Gd.grd (by show (lotsRaw i).length + ((lotsRaw i).map _).length ≤ _; rw [List.length_map]; omega) rfl))) (Gd.ret rfl)
    have h1 := lotsRaw_ok i l hm
    have h2 := nodup_len (r := (i : Int)) (h1.1.imp fun {a b} z => by omega) h1.2
    exact Gd.grd (by simp; omega) rfl
  · have hl := lotsRaw_len r.toNat
    have hp := p9 r.toNat (by omega)
    refine Gd.bindE (Gd.bindE (Gd.bindE (Gd.bindE (Gd.bindE (Gd.ret rfl) (Gd.ret rfl)) (Gd.lcM (fun l => ((l.length : Int), l)) (Nat.le_trans (Nat.le_of_eq hl) (by omega)) (fun _ _ => Gd.ret rfl) rfl)) (Gd.grd (fun _ _ => by show PyO.dep (List Int) ≤ 60; decide) rfl)) (Gd.ret rfl)) (Gd.lcM (fun d => d.2) (by rw [sortO_len, List.length_map]; exact Nat.le_trans (Nat.le_of_eq hl) (by omega)) (fun _ _ => Gd.ret rfl) rfl)
/-- how many rooms are left beside v -/
noncomputable def cardQ (r : Int) (ds : List (Int × Int)) (g : List Int) (v : Int) : Int := (((rngI 0 r.toNat).filter fun o => @decide (o ≠ v ∧ o ∉ g ∧ Pth r ds g v o) (Classical.propDecidable _)).length : Int)
theorem cardQ_of {r : Int} {ds : List (Int × Int)} {g l : List Int} {v : Int} (hv : 0 ≤ v ∧ v < r) (nd : l.Nodup) (h : ∀ o, o ∈ l ↔ o ≠ v ∧ o ∉ g ∧ Pth r ds g v o) : (l.length : Int) = cardQ r ds g v := by
  unfold cardQ
  have p : l.Perm ((rngI 0 r.toNat).filter fun o => @decide (o ≠ v ∧ o ∉ g ∧ Pth r ds g v o) (Classical.propDecidable _)) := (List.perm_ext_iff_of_nodup nd ((rngI_nodup _ _).sublist List.filter_sublist)).mpr fun o => by
    rw [h, List.mem_filter, mem_rngI]
    constructor
    · intro q
      have hr : 0 ≤ o ∧ o < r := q.2.2 (fun z => 0 ≤ z ∧ z < r) hv fun y _ _ z n => n.2.1
      exact ⟨by omega, @decide_eq_true _ (Classical.propDecidable _) q⟩
    · intro q; exact @of_decide_eq_true _ (Classical.propDecidable _) q.2
  rw [p.length_eq]
/-- the number of a lot: the least, over the room taken last, of the greatest number of rooms left beside one -/
noncomputable def bestN (r : Int) (ds : List (Int × Int)) : Nat → List Int → Int
  | 0, _ => 0
  | n + 1, lot => minL (lot.map fun room => max (bestN r ds n (lot.filter fun x => !decide (x = room))) (cardQ r ds (lot.filter fun x => !decide (x = room)) room))
noncomputable def bestV (r : Int) (ds : List (Int × Int)) (lot : List Int) : Int := bestN r ds lot.length lot
theorem rest_len {lot : List Int} {x : Int} (h : lot.Pairwise (· < ·)) (hx : x ∈ lot) : (lot.filter fun y => !decide (y = x)).length + 1 = lot.length := by
  have nd : lot.Nodup := h.imp fun {a b} z => by omega
  have p : lot.Perm (x :: lot.filter fun y => !decide (y = x)) := (List.perm_ext_iff_of_nodup nd (List.nodup_cons.mpr ⟨by simp, nd.sublist List.filter_sublist⟩)).mpr fun y => by
    rw [List.mem_cons, List.mem_filter]
    constructor
    · intro m
      by_cases e : y = x
      · exact .inl e
      · exact .inr ⟨m, by simp [e]⟩
    · rintro (e | m)
      · rw [e]; exact hx
      · exact m.1
  have := p.length_eq
  simp at this ⊢
  omega
theorem bestN_succ {r : Int} {ds : List (Int × Int)} {n : Nat} {lot : List Int} : bestN r ds (n + 1) lot = minL (lot.map fun room => max (bestN r ds n (lot.filter fun x => !decide (x = room))) (cardQ r ds (lot.filter fun x => !decide (x = room)) room)) := rfl
theorem bestV_eq {r : Int} {ds : List (Int × Int)} {lot : List Int} (h : lot.Pairwise (· < ·)) (hne : lot ≠ []) : bestV r ds lot = minL (lot.map fun room => max (bestV r ds (lot.filter fun x => !decide (x = room))) (cardQ r ds (lot.filter fun x => !decide (x = room)) room)) := by
  unfold bestV
  cases e : lot.length with
  | zero => exact absurd (List.eq_nil_of_length_eq_zero e) hne
  | succ n =>
    rw [bestN_succ]
    congr 1
    refine List.map_congr_left fun room hm => ?_
    have := rest_len h hm
    have hn : (lot.filter fun y => !decide (y = room)).length = n := by omega
    rw [hn]
end Cl
/-! NP6: the table of best rows. -/
namespace Cl
open PySem L2 Zw RZ
theorem lots_pair {r : Int} {i : Nat} {lot : List Int} (h : (lotsM r)[i]? = some lot) : (sortO ((lotsRaw r.toNat).map fun l => ((l.length : Int), l)))[i]? = some ((lot.length : Int), lot) := by
  unfold lotsM at h
  rw [List.getElem?_map] at h
  cases e : (sortO ((lotsRaw r.toNat).map fun l => ((l.length : Int), l)))[i]? with
  | none => rw [e] at h; cases h
  | some d =>
    rw [e] at h
    have hd : d.2 = lot := by simpa using h
    obtain ⟨l, _, el⟩ := List.mem_map.mp (mem_sortO.mp (List.mem_of_getElem? e))
    subst el
    simp only at hd
    rw [hd]
theorem lots_lt {r : Int} {i j : Nat} {l m : List Int} (hi : (lotsM r)[i]? = some l) (hj : (lotsM r)[j]? = some m) (h : l.length < m.length) : i < j := by
  have p1 := lots_pair hi
  have p2 := lots_pair hj
  rcases Nat.lt_trichotomy i j with q | q | q
  · exact q
  · subst q
    rw [hi] at hj
    cases hj
    omega
  · exfalso
    have hs := sortO_srtd ((lotsRaw r.toNat).map fun l => ((l.length : Int), l))
    obtain ⟨li, ei⟩ := List.getElem?_eq_some_iff.mp p1
    obtain ⟨lj, ej⟩ := List.getElem?_eq_some_iff.mp p2
    have := List.pairwise_iff_getElem.mp hs j i lj li q
    rw [ei, ej] at this
    have h2 : PyO.lt ((l.length : Int), l) ((m.length : Int), m) = true := by
      show (if (l.length : Int) = (m.length : Int) then PyO.lt l m else decide ((l.length : Int) < (m.length : Int))) = true
      rw [if_neg (by omega)]
      exact decide_eq_true (by omega)
    rw [h2] at this
    cases this
theorem rest_before {r : Int} (h0 : 0 ≤ r) {i : Nat} {lot : List Int} (h : (lotsM r)[i]? = some lot) {x : Int} (hx : x ∈ lot) : ∃ j, j < i ∧ (lotsM r)[j]? = some (lot.filter fun y => !decide (y = x)) := by
  have ok := (mem_lotsM h0).mp (List.mem_of_getElem? h)
  have hm : (lot.filter fun y => !decide (y = x)) ∈ lotsM r := (mem_lotsM h0).mpr ⟨ok.1.sublist List.filter_sublist, fun y m => ok.2 y (List.mem_filter.mp m).1⟩
  obtain ⟨j, hj⟩ := List.mem_iff_getElem?.mp hm
  have := rest_len ok.1 hx
  exact ⟨j, lots_lt hj h (by omega), hj⟩
theorem lots_first {r : Int} (h0 : 0 ≤ r) : (lotsM r)[0]? = some [] := by
  obtain ⟨j, hj⟩ := List.mem_iff_getElem?.mp ((mem_lotsM h0 (l := [])).mpr ⟨List.Pairwise.nil, fun x m => by cases m⟩)
  have hl := (List.getElem?_eq_some_iff.mp hj).1
  obtain ⟨l, hl0⟩ : ∃ l, (lotsM r)[0]? = some l := ⟨_, List.getElem?_eq_getElem (by omega)⟩
  cases l with
  | nil => exact hl0
  | cons x l => have := lots_lt hj hl0 (by simp); omega
theorem pair_head {l : List (Int × List Int)} {d : Int × List Int} (h : (sortO l).head? = some d) : d ∈ l ∧ d.1 = minL (l.map fun p => p.1) := by
  have hm : d ∈ l := mem_sortO.mp (List.mem_of_mem_head? (by rw [h]; rfl))
  refine ⟨hm, ?_⟩
  have hpos : 0 < (l.map fun p => p.1).length := by rw [List.length_map]; exact List.length_pos_of_mem hm
  refine min_uniq ⟨List.mem_map.mpr ⟨d, hm, rfl⟩, fun y hy => ?_⟩ (minL_spec hpos)
  obtain ⟨p, hp, rfl⟩ := List.mem_map.mp hy
  have hs := sortO_srtd l
  cases e : sortO l with
  | nil => rw [e] at h; cases h
  | cons z t =>
    rw [e] at h hs
    have ez : z = d := by simpa using h
    subst ez
    have hp2 := mem_sortO.mpr hp
    rw [e] at hp2
    rcases List.mem_cons.mp hp2 with q | q
    · rw [q]; exact Int.le_refl _
    · have := (List.pairwise_cons.mp hs).1 p q
      have h3 : (if p.1 = z.1 then PyO.lt p.2 z.2 else decide (p.1 < z.1)) = false := this
      by_cases q1 : p.1 = z.1
      · rw [q1]; exact Int.le_refl _
      · rw [if_neg q1] at h3
        have := of_decide_eq_false h3
        omega
theorem lotsRaw_nodup : ∀ n, (lotsRaw n).Nodup
  | 0 => by simp [lotsRaw]
  | n + 1 => by
    unfold lotsRaw
    have ih := lotsRaw_nodup n
    rw [List.nodup_append]
    refine ⟨ih, List.pairwise_map.mpr (ih.imp fun {a b} h e => h (List.append_inj_left' e rfl)), fun a ha b hb e => ?_⟩
    obtain ⟨l, _, rfl⟩ := List.mem_map.mp hb
    have := (lotsRaw_ok n a ha).2 (n : Int) (by rw [e]; simp)
    omega
theorem lotsM_nodup (r : Int) : (lotsM r).Nodup := by
  unfold lotsM
  have p := (sortO_perm ((lotsRaw r.toNat).map fun l => ((l.length : Int), l))).map (fun d => d.2)
  refine p.nodup_iff.mpr ?_
  rw [List.map_map]
  show ((lotsRaw r.toNat).map fun l => l).Nodup
  rw [List.map_id']
  exact lotsRaw_nodup _
theorem lotsM_len {r : Int} (h : 0 ≤ r ∧ r ≤ 9) : (lotsM r).length ≤ 512 := by
  unfold lotsM
  rw [List.length_map, sortO_len, List.length_map, lotsRaw_len]
  exact Nat.le_trans (Nat.pow_le_pow_right (by decide) (show r.toNat ≤ 9 by omega)) (by decide)
/-- what the table of best rows holds -/
def BTab (r : Int) (ds : List (Int × Int)) (n : Nat) (kv : List (List Int × (Int × List Int))) : Prop := kv.length ≤ n + 1 ∧ ∀ j lot, j ≤ n → (lotsM r)[j]? = some lot → ∃ row, lkD kv lot = some (bestV r ds lot, row) ∧ row.length ≤ lot.length
section
variable {C : Addr} {h : Hs C}
theorem gd_best_rows (ok : HOk h) : Gd (M_best_rows h) (fun d => ∀ lot ∈ lotsM h.r, ∃ row, lkD d.kv lot = some (bestV h.r h.ds lot, row)) := by
  have h9 := ok.2.1
  have h1 := ok.1
  have hL := lotsM_len (r := h.r) ⟨by omega, h9⟩
  unfold M_best_rows
  refine Gd.bindE (Gd.ret rfl) (Gd.bindE (a := (lotsM h.r).drop 1) (Gd.bindE (Gd.bindE (gd_lots_of ⟨by omega, h9⟩) (Gd.ret rfl)) (Gd.ret (by rw [← cutL_tail]))) (Gd.bind (Q := fun kv => BTab h.r h.ds ((lotsM h.r).length - 1) kv) (Gd.foldW (fun i kv => BTab h.r h.ds i kv) ?_ (fun i lot kv hlot hI => ?_) fun kv hk => by rw [List.length_drop] at hk; exact hk) fun kv hk => Gd.ret fun lot m => ?_))
  · refine ⟨Nat.le_refl _, fun j lot hj hl => ?_⟩
    have e : j = 0 := by omega
    subst e
    rw [lots_first (by omega)] at hl
    cases hl
    exact ⟨[], rfl, Nat.le_refl _⟩
  · rw [List.getElem?_drop] at hlot
    have hlot : (lotsM h.r)[i + 1]? = some lot := by rw [Nat.add_comm]; exact hlot
    have hil := (List.getElem?_eq_some_iff.mp hlot).1
    have lok := (mem_lotsM (by omega)).mp (List.mem_of_getElem? hlot)
    have lnd : lot.Nodup := lok.1.imp fun {a b} z => by omega
    have ll := nodup_len lnd lok.2
    have lne : lot ≠ [] := fun e => by
      subst e
      have := (List.getElem?_inj (by omega) (lotsM_nodup h.r)).mp (hlot.trans (lots_first (r := h.r) (by omega)).symm)
      omega
    refine Gd.bindE (Gd.ret rfl) (Gd.bindE (Gd.ret rfl) (Gd.bind (Q := fun s : List (Int × List Int) => s.map (fun p => p.1) = lot.map (fun room => max (bestV h.r h.ds (lot.filter fun x => !decide (x = room))) (cardQ h.r h.ds (lot.filter fun x => !decide (x = room)) room)) ∧ ∀ p ∈ s, p.2.length ≤ lot.length) (Gd.foldW (fun k s => s.map (fun p => p.1) = (lot.take k).map (fun room => max (bestV h.r h.ds (lot.filter fun x => !decide (x = room))) (cardQ h.r h.ds (lot.filter fun x => !decide (x = room)) room)) ∧ ∀ p ∈ s, p.2.length ≤ lot.length) ⟨rfl, fun p m => by cases m⟩ (fun k room s hr hs => ?_) fun s hs => by rw [List.take_length] at hs; exact hs) fun s hs => ?_))
    · have hm := List.mem_of_getElem? hr
      have hk := (List.getElem?_eq_some_iff.mp hr).1
      obtain ⟨j, hj, hrest⟩ := rest_before (r := h.r) (by omega) hlot hm
      obtain ⟨row, hrow, hrl⟩ := hI.2 j _ (by omega) hrest
      have rl := rest_len lok.1 hm
      have hsl : s.length = k := by have := congrArg List.length hs.1; rw [List.length_map, List.length_map, List.length_take] at this; omega
      refine Gd.bindE (a := lot.filter fun x => !decide (x = room)) (Gd.bindE (Gd.bindE (Gd.ret rfl) (Gd.lcE (fun x => !decide (x = room)) id (by omega) (fun _ _ => Gd.ret rfl) (fun _ _ _ => Gd.ret rfl) (by rw [List.map_id]))) (Gd.ret rfl)) (Gd.bindE (Gd.opt hrow rfl) ?_)
      refine Gd.bindE (a := (max (bestV h.r h.ds (lot.filter fun x => !decide (x = room))) (cardQ h.r h.ds (lot.filter fun x => !decide (x = room)) room), row ++ [room])) (Gd.bindE (Gd.bindE (Gd.ret rfl) (Gd.bind (Q := fun z : Int => z = cardQ h.r h.ds (lot.filter fun x => !decide (x = room)) room) (Gd.bind (gd_reached_by ok (lok.2 room hm)) fun l hl => Gd.ret (cardQ_of (lok.2 room hm) (hl.1.imp fun {a b} z => by omega) hl.2)) fun z hz => by rw [hz]; exact Gd.ret rfl)) (Gd.bindE (Gd.grd (by show row.length + 1 ≤ _; omega) rfl) (Gd.ret rfl))) (Gd.bindE (Gd.grd (by omega) rfl) (Gd.ret ⟨?_, fun p m => ?_⟩))
      · rw [List.map_append, hs.1, List.take_add_one, hr]; simp
      · rcases List.mem_append.mp m with m | m
        · exact hs.2 p m
        · rw [List.mem_singleton.mp m]
          show (row ++ [room]).length ≤ _
          rw [List.length_append]; simp; omega
    · have hne : s ≠ [] := fun e => by
        rw [e] at hs
        have := congrArg List.length hs.1
        rw [List.length_map, List.length_map] at this
        exact lne (List.eq_nil_of_length_eq_zero this.symm)
      obtain ⟨d, hd⟩ : ∃ d, (sortO s).head? = some d := by
        cases e : sortO s with
        | nil => exact absurd (List.eq_nil_of_length_eq_zero (by rw [← sortO_len s, e]; rfl)) hne
        | cons x l => exact ⟨x, rfl⟩
      obtain ⟨dm, dv⟩ := pair_head hd
      rw [hs.1, ← bestV_eq lok.1 lne] at dv
      have hkl := hI.1
      refine Gd.bindE (Gd.opt hd rfl) (Gd.bindE (Gd.ret rfl) (Gd.bindE (Gd.grd (by omega) rfl) (Gd.ret ⟨Nat.le_trans (putD_length _ _ _) (by omega), fun j l hj hl => ?_⟩)))
      rw [lkD_putD]
      split
      · rename_i e
        subst e
        exact ⟨d.2, by rw [← dv], hs.2 d dm⟩
      · rename_i ne
        refine hI.2 j l ?_ hl
        by_cases q : j = i + 1
        · subst q; rw [hlot] at hl; cases hl; exact absurd rfl ne
        · omega
  · obtain ⟨j, hj⟩ := List.mem_iff_getElem?.mp m
    have hjl := (List.getElem?_eq_some_iff.mp hj).1
    obtain ⟨row, hr, _⟩ := hk.2 j lot (by omega) hj
    exact ⟨row, hr⟩
theorem whole_lot {r : Int} (h0 : 0 ≤ r) : rngI 0 r.toNat ∈ lotsM r := (mem_lotsM h0).mpr ⟨rngI_lt _ _, fun x m => by have := mem_rngI.mp m; omega⟩
theorem gd_fewest_fast (ok : HOk h) : Gd (M_fewest_fast h) (· = bestV h.r h.ds (rngI 0 h.r.toNat) + 1) := by
  have h9 := ok.2.1
  have h1 := ok.1
  unfold M_fewest_fast M_best_row
  refine Gd.bind (Q := fun z : Int => z = bestV h.r h.ds (rngI 0 h.r.toNat)) (Gd.bind (Q := fun z : Int × List Int => z.1 = bestV h.r h.ds (rngI 0 h.r.toNat)) (Gd.bind (gd_best_rows ok) fun d hd => Gd.bindE (Gd.grd (by omega) rfl) ?_) fun z hz => Gd.ret hz) fun z hz => Gd.bindE (Gd.ret rfl) (Gd.ret (by rw [hz]))
  obtain ⟨row, e⟩ := hd _ (whole_lot (by omega))
  exact Gd.opt e rfl
end
end Cl
/-! NP7: houses with a door less, a room less. -/
namespace Cl
open PySem L2 Zw RZ
def numB (g x : Int) : Int := if g < x then x - 1 else x
def lessD (ds : List (Int × Int)) (a b : Int) : List (Int × Int) := ds.filter fun d => !decide (d = (a, b))
def withoutD (ds : List (Int × Int)) (a : Int) : List (Int × Int) := sortO ((ds.filter fun d => !decide (a ∈ [d.1, d.2])).map fun d => (numB a d.1, numB a d.2))
theorem less_ok {r : Int} {ds : List (Int × Int)} (ok : HOk' r ds) (a b : Int) : HOk' r (lessD ds a b) :=
  ⟨ok.1, ok.2.1, fun d m => ok.2.2.1 d (List.mem_filter.mp m).1, ok.2.2.2.1.sublist List.filter_sublist, Nat.le_trans (List.length_filter_le _ _) ok.2.2.2.2⟩
theorem pairs_nodup {r : Int} {ds : List (Int × Int)} (ok : HOk' r ds) : ds.Nodup := ok.2.2.2.1.imp fun {a b} h e => by
  subst e
  have := PyO.asym _ _ h
  rw [h] at this; cases this
theorem numB_lt {g x y : Int} (h : x < y) (hx : x ≠ g) (hy : y ≠ g) : numB g x < numB g y := by
  unfold numB; split <;> split <;> omega
theorem numB_inj {g x y : Int} (hx : x ≠ g) (hy : y ≠ g) (h : numB g x = numB g y) : x = y := by
  unfold numB at h; split at h <;> split at h <;> omega
theorem without_ok {r : Int} {ds : List (Int × Int)} (ok : HOk' r ds) {a : Int} (ha : 0 ≤ a ∧ a < r) (hr : 1 < r) : HOk' (r - 1) (withoutD ds a) := by
  have h9 := ok.2.1
  have hin : ∀ d ∈ ds.filter (fun d => !decide (a ∈ [d.1, d.2])), DoorOk r d ∧ d.1 ≠ a ∧ d.2 ≠ a := fun d m => by
    obtain ⟨m1, m2⟩ := List.mem_filter.mp m
    have m2 : a ∉ [d.1, d.2] := by simpa using m2
    simp only [List.mem_cons, List.not_mem_nil, or_false, not_or] at m2
    exact ⟨ok.2.2.1 d m1, fun e => m2.1 e.symm, fun e => m2.2 e.symm⟩
  refine ⟨by omega, by omega, fun d m => ?_, ?_, ?_⟩
  · obtain ⟨e, me, rfl⟩ := List.mem_map.mp (mem_sortO.mp m)
    obtain ⟨⟨h1, h2, h3⟩, n1, n2⟩ := hin e me
    refine ⟨?_, numB_lt h2 n1 n2, ?_⟩
    · show 0 ≤ numB a e.1
      unfold numB; split <;> omega
    · show numB a e.2 < r - 1
      unfold numB; split <;> omega
  · refine sortO_strict (List.pairwise_map.mpr (List.Pairwise.imp_of_mem (fun {d e} md me hne he => hne ?_) ((pairs_nodup ok).sublist List.filter_sublist)))
    obtain ⟨_, n1, n2⟩ := hin d md
    obtain ⟨_, k1, k2⟩ := hin e me
    injection he with e1 e2
    exact Prod.ext (numB_inj n1 k1 e1) (numB_inj n2 k2 e2)
  · unfold withoutD
    rw [sortO_len, List.length_map]
    exact Nat.le_trans (List.length_filter_le _ _) ok.2.2.2.2
section
variable {C : Addr} {h : Hs C}
theorem gd_less (ok : HOk h) (a b : Int) : Gd (M_less h a b) (· = Hs.mk h.r (lessD h.ds a b)) := by
  have hl := ok.2.2.2.2
  unfold M_less
  refine Gd.bindE (Gd.ret rfl) (Gd.bindE (a := lessD h.ds a b) (Gd.bindE (Gd.bindE (Gd.ret rfl) (Gd.lcE (fun d => !decide (d = (a, b))) id (by omega) (fun _ _ => Gd.ret rfl) (fun _ _ _ => Gd.ret rfl) (by rw [List.map_id]))) (Gd.ret rfl)) ?_)
  unfold hsM
  exact Gd.grd (less_ok ok a b) rfl
theorem gd_numbered (x g : Int) : Gd (M_numbered x g) (· = numB g x) := by
  unfold M_numbered
  refine Gd.ret ?_
  unfold numB
  by_cases q : g < x
  · rw [if_pos q, if_pos (decide_eq_true q)]
  · rw [if_neg q, if_neg (by rw [decide_eq_false q]; decide)]
theorem gd_without (ok : HOk h) {a : Int} (ha : 0 ≤ a ∧ a < h.r) (hr : 1 < h.r) : Gd (M_without h a) (· = Hs.mk (h.r - 1) (withoutD h.ds a)) := by
  have hl := ok.2.2.2.2
  unfold M_without
  refine Gd.bindE (Gd.bindE (Gd.ret rfl) (Gd.lcE (fun d => !decide (a ∈ [d.1, d.2])) (fun d => (numB a d.1, numB a d.2)) (by omega) (fun _ _ => Gd.ret rfl) (fun d _ _ => Gd.bindE (gd_numbered _ _) (Gd.bindE (gd_numbered _ _) (Gd.ret rfl))) rfl)) (Gd.bindE (Gd.ret rfl) (Gd.bindE (a := withoutD h.ds a) (Gd.bindE (Gd.grd (fun _ _ => by show PyO.dep Int ≤ 60; decide) rfl) (Gd.ret rfl)) ?_))
  unfold hsM
  exact Gd.grd (without_ok ok ha hr) rfl
end
end Cl
/-! NP8: two rooms made one. -/
namespace Cl
open PySem L2 Zw RZ
def toP : List Int → Int × Int
  | [a, b] => (a, b)
  | _ => (0, 0)
def renB (a b x : Int) : Int := if (decide (x = b)) = true then a else x
def keyB (a b : Int) (d : Int × Int) : Option (List Int) := if renB a b d.1 = renB a b d.2 then none else some (sortO [numB b (renB a b d.1), numB b (renB a b d.2)])
def stepB (a b : Int) (kv : List (List Int × Bool)) (d : Int × Int) : List (List Int × Bool) := match keyB a b d with
  | none => kv
  | some k => putD kv k true
def oneKV (a b : Int) (ds : List (Int × Int)) : List (List Int × Bool) := ds.foldl (stepB a b) []
def oneD (ds : List (Int × Int)) (a b : Int) : List (Int × Int) := (sortO (keysD (oneKV a b ds))).map toP
theorem sort2 (x y : Int) : sortO [x, y] = [min x y, max x y] := by
  by_cases h : x ≤ y
  · rw [sortO_id (by simp; exact h), Int.min_eq_left h, Int.max_eq_right h]
  · rw [sortO_of_perm (List.Perm.swap y x []), sortO_id (by simp; omega), Int.min_eq_right (by omega), Int.max_eq_left (by omega)]
theorem oneKV_snoc (a b : Int) (ds : List (Int × Int)) (d : Int × Int) : oneKV a b (ds ++ [d]) = stepB a b (oneKV a b ds) d := by
  unfold oneKV; rw [List.foldl_append]; rfl
theorem ren_ne {a b x : Int} (h : a < b) : renB a b x ≠ b := by
  unfold renB
  by_cases e : x = b
  · rw [if_pos (decide_eq_true e)]; omega
  · rw [if_neg (by simpa using e)]; exact e
theorem ren_in {a b x r : Int} (h : 0 ≤ a ∧ a < r) (hx : 0 ≤ x ∧ x < r) : 0 ≤ renB a b x ∧ renB a b x < r := by
  unfold renB; split <;> omega
theorem num_in {b x r : Int} (hb : 0 ≤ b ∧ b < r) (hx : 0 ≤ x ∧ x < r) (ne : x ≠ b) : 0 ≤ numB b x ∧ numB b x < r - 1 := by
  unfold numB; split <;> omega
theorem keyB_ok {r a b : Int} (h : 0 ≤ a ∧ a < b ∧ b < r) {d : Int × Int} (hd : DoorOk r d) {k : List Int} (hk : keyB a b d = some k) : ∃ x y, k = [x, y] ∧ 0 ≤ x ∧ x < y ∧ y < r - 1 := by
  unfold keyB at hk
  by_cases e : renB a b d.1 = renB a b d.2
  · rw [if_pos e] at hk; cases hk
  · rw [if_neg e] at hk
    cases hk
    obtain ⟨d0, d1, d2⟩ := hd
    have n1 := num_in (b := b) (x := renB a b d.1) ⟨by omega, h.2.2⟩ (ren_in ⟨h.1, by omega⟩ ⟨d0, by omega⟩) (ren_ne h.2.1)
    have n2 := num_in (b := b) (x := renB a b d.2) ⟨by omega, h.2.2⟩ (ren_in ⟨h.1, by omega⟩ ⟨by omega, d2⟩) (ren_ne h.2.1)
    have ne : numB b (renB a b d.1) ≠ numB b (renB a b d.2) := fun z => e (numB_inj (ren_ne h.2.1) (ren_ne h.2.1) z)
    refine ⟨_, _, sort2 _ _, ?_, ?_, ?_⟩ <;> omega
theorem stepB_kok {r a b : Int} (h : 0 ≤ a ∧ a < b ∧ b < r) {d : Int × Int} (hd : DoorOk r d) {kv : List (List Int × Bool)} (i : KOk (r - 1) kv) : KOk (r - 1) (stepB a b kv d) := by
  unfold stepB
  cases e : keyB a b d with
  | none => exact i
  | some k => exact kok_put i (keyB_ok h hd e)
theorem oneKV_ok {r a b : Int} (h : 0 ≤ a ∧ a < b ∧ b < r) {ds : List (Int × Int)} (hd : ∀ d ∈ ds, DoorOk r d) : KOk (r - 1) (oneKV a b ds) := by
  have key : ∀ (ds : List (Int × Int)) (kv : List (List Int × Bool)), (∀ d ∈ ds, DoorOk r d) → KOk (r - 1) kv → KOk (r - 1) (ds.foldl (stepB a b) kv) := fun ds => by
    induction ds with
    | nil => exact fun kv _ i => i
    | cons d l ih => exact fun kv hd i => ih _ (fun d m => hd d (List.mem_cons_of_mem _ m)) (stepB_kok h (hd d List.mem_cons_self) i)
  exact key ds [] hd ⟨List.nodup_nil, fun k m => by cases m⟩
theorem lt_list2 (a b c d : Int) : PyO.lt [a, b] [c, d] = PyO.lt (a, b) (c, d) := by
  show lexG PyO.lt [a, b] [c, d] = if a = c then decide (b < d) else decide (a < c)
  unfold lexG
  by_cases e : a = c
  · rw [if_pos e, if_pos e]
    unfold lexG
    by_cases e2 : b = d
    · rw [if_pos e2]
      unfold lexG
      rw [decide_eq_false (by omega)]
    · rw [if_neg e2]; rfl
  · rw [if_neg e, if_neg e]; rfl
theorem toP_back {l : List (List Int)} (h : ∀ k ∈ l, ∃ x y : Int, k = [x, y]) : (l.map toP).map (fun d => [d.1, d.2]) = l := by
  rw [List.map_map]
  conv => rhs; rw [← List.map_id l]
  refine List.map_congr_left fun k m => ?_
  obtain ⟨x, y, rfl⟩ := h k m
  rfl
theorem one_pairs {r : Int} {kv : List (List Int × Bool)} (h : KOk r kv) : pairsL (sortO (keysD kv)) = some ((sortO (keysD kv)).map toP) := by
  have := pairsL_map ((sortO (keysD kv)).map toP)
  rw [toP_back fun k m => by obtain ⟨x, y, e, _⟩ := h.2 k (mem_sortO.mp m); exact ⟨x, y, e⟩] at this
  exact this
theorem one_ok {r : Int} {ds : List (Int × Int)} (ok : HOk' r ds) {a b : Int} (h : 0 ≤ a ∧ a < b ∧ b < r) : HOk' (r - 1) (oneD ds a b) := by
  have i := oneKV_ok h ok.2.2.1
  have h9 := ok.2.1
  have hs : ∀ k ∈ sortO (keysD (oneKV a b ds)), ∃ x y, k = [x, y] ∧ 0 ≤ x ∧ x < y ∧ y < r - 1 := fun k m => i.2 k (mem_sortO.mp m)
  refine ⟨by omega, by omega, fun d m => ?_, ?_, ?_⟩
  · obtain ⟨k, mk, rfl⟩ := List.mem_map.mp m
    obtain ⟨x, y, rfl, q⟩ := hs k mk
    exact q
  · refine List.pairwise_map.mpr (List.Pairwise.imp_of_mem (fun {k k'} mk mk' z => ?_) (sortO_strict i.1))
    obtain ⟨x, y, rfl, _⟩ := hs k mk
    obtain ⟨x', y', rfl, _⟩ := hs k' mk'
    rw [lt_list2] at z
    exact z
  · unfold oneD
    rw [List.length_map, sortO_len]
    exact kok_len i (by omega)
section
variable {C : Addr} {h : Hs C}
theorem kv_len {kv : List (List Int × Bool)} {r : Int} (i : KOk r kv) (h9 : r ≤ 9) : kv.length ≤ 36 := by
  have := kok_len i h9
  unfold keysD at this
  rw [List.length_map] at this
  exact this
theorem gd_one_of (ok : HOk h) {a b : Int} (hab : 0 ≤ a ∧ a < b ∧ b < h.r) : Gd (M_one_of h a b) (· = Hs.mk (h.r - 1) (oneD h.ds a b)) := by
  have hl := ok.2.2.2.2
  have h9 := ok.2.1
  have i := oneKV_ok hab ok.2.2.1
  unfold M_one_of
  refine Gd.bindE (Gd.ret rfl) (Gd.bindE (Gd.ret rfl) (Gd.bindE (a := oneKV a b h.ds) (Gd.foldW (fun i s => s = oneKV a b (h.ds.take i)) rfl (fun i d s hd hI => ?_) fun s hs => by rw [hs, List.take_length]) ?_))
  · subst hI
    have hm := List.mem_of_getElem? hd
    have ik := oneKV_ok hab (ds := h.ds.take i) fun d m => ok.2.2.1 d (List.mem_of_mem_take m)
    have kl := kv_len ik (by omega)
    have es : oneKV a b (h.ds.take (i + 1)) = stepB a b (oneKV a b (h.ds.take i)) d := by
      rw [List.take_add_one, hd]; exact oneKV_snoc _ _ _ _
    refine Gd.bindE (a := Ls.mk [renB a b d.1, renB a b d.2]) (Gd.bindE (Gd.ret rfl) (Gd.lcM (renB a b) (by simp) (fun z _ => Gd.ret rfl) rfl)) ?_
    refine Gd.bindE (a := !decide (renB a b d.1 = renB a b d.2)) (Gd.bindE (Gd.opt rfl rfl) (Gd.bindE (Gd.opt rfl rfl) (Gd.ret rfl))) (Gd.cond (fun hc => ?_) fun hc => ?_)
    · have e : renB a b d.1 ≠ renB a b d.2 := by simpa using hc
      refine Gd.bindE (Gd.ret rfl) (Gd.bindE (a := sortO [numB b (renB a b d.1), numB b (renB a b d.2)]) (Gd.bindE (Gd.bindE (Gd.bindE (Gd.bindE (Gd.ret rfl) (Gd.ret rfl)) (Gd.lcM (numB b) (by simp) (fun z _ => gd_numbered _ _) rfl)) (Gd.grd allOkI rfl)) (Gd.ret rfl)) (Gd.bindE (Gd.grd (by omega) rfl) (Gd.ret ?_)))
      rw [es]; unfold stepB keyB; rw [if_neg e]
    · have e : renB a b d.1 = renB a b d.2 := by simpa using hc
      refine Gd.ret ?_
      rw [es]; unfold stepB keyB; rw [if_pos e]
  · refine Gd.bindE (Gd.ret rfl) (Gd.bindE (a := oneD h.ds a b) (Gd.bindE (Gd.bindE (Gd.grd (fun _ _ => trivial) rfl) (Gd.ret rfl)) (Gd.opt (one_pairs i) rfl)) ?_)
    unfold hsM
    exact Gd.grd (one_ok ok hab) rfl
end
end Cl
namespace Cl
open PySem L2 Zw RZ
@[irreducible] def M_law_house (a_hand : Hand) (a_most : Int) : Wm (Int × (List (Int × Int))) :=
  Wm.bind (Wm.bind (Wm.ret (1 : Int)) fun z1 => (Wm.bind (M_law_draw a_hand a_most) fun z2 => (Wm.ret (z1 + z2)))) fun x_rooms_3 => Wm.bind (Wm.ret (Ls.mk ([] : List (Int × Int)))) fun x_found_4 => Wm.bind (Wm.bind (Wm.ret (1 : Int)) fun z7 => (Wm.bind (M_law_draw a_hand (3 : Int)) fun z8 => (Wm.ret (z7 + z8)))) fun x_often_9 => Wm.bind (Wm.bind (Wm.ret x_rooms_3) fun n11 => Wm.grd (-100000 ≤ n11 ∧ n11 ≤ 100000) (rngI 0 n11.toNat)) fun l52 => Wm.bind (foldW (fun x_b_17 (s19 : (List (Int × Int))) => Wm.bind (Wm.bind (Wm.bind (Wm.ret x_b_17) fun n23 => Wm.grd (-100000 ≤ n23 ∧ n23 ≤ 100000) (rngI 0 n23.toNat)) fun l9 => lcW (fun x_a_25 => (Wm.bind (M_law_draw a_hand (4 : Int)) fun z26 => (Wm.bind (Wm.ret x_often_9) fun z27 => (Wm.ret (decide (z26 < z27)))))) (fun x_a_25 => (Wm.ret x_a_25)) l9) fun x_some_28 => Wm.bind (Wm.bind (Wm.bind (Wm.ret (decide ((x_some_28.l.length : Int) = (0 : Int)))) fun b33 => cond b33 (Wm.bind (Wm.ret (decide ((0 : Int) < x_b_17))) fun b32 => cond b32 (Wm.bind (M_law_draw a_hand (5 : Int)) fun z30 => (Wm.bind (Wm.ret (0 : Int)) fun z31 => (Wm.ret (decide (z31 < z30))))) (Wm.ret false)) (Wm.ret false)) fun b34 => cond b34 (Wm.bind (Wm.bind (M_law_draw a_hand x_b_17) fun z36 => (Wm.grd (([z36] : List Int).length ≤ 100000) (Ls.mk [z36]))) fun x_some_37 => Wm.ret x_some_37.l) (Wm.ret x_some_28.l)) fun s39 => Wm.bind (Wm.bind (Wm.bind (Wm.ret (Ls.mk s39)) fun l43 => Wm.ret l43.l) fun l9 => lcW (fun x_a_45 => (Wm.ret true)) (fun x_a_45 => (Wm.ret (x_a_45, x_b_17))) l9) fun a46 => Wm.bind (Wm.grd (s19.length + a46.l.length ≤ 100000) (s19 ++ a46.l)) fun x_found_42 => Wm.ret x_found_42) l52 x_found_4.l) fun s47 => (Wm.bind (Wm.ret x_rooms_3) fun z50 => (Wm.bind (Wm.bind (Wm.grd (∀ d ∈ s47, PySrt.ok d) (Ls.mk (sortO s47))) fun z49 => (Wm.ret z49.l)) fun z51 => (Wm.ret (z50, z51))))

@[irreducible] def M_law_nears (a_parts : (Int × (List (Int × Int)))) : Wm (Ls (List Int)) :=
  Wm.bind (Wm.ret a_parts) fun z1 => Wm.bind (Wm.ret (Ls.mk ([] : List (List Int)))) fun x_found_6 => Wm.bind (Wm.bind (Wm.ret z1.1) fun n8 => Wm.grd (-100000 ≤ n8 ∧ n8 ≤ 100000) (rngI 0 n8.toNat)) fun l29 => Wm.bind (foldW (fun x_room_14 (s16 : (List (List Int))) => Wm.bind (Wm.bind (Wm.bind (Wm.ret z1.1) fun n20 => Wm.grd (-100000 ≤ n20 ∧ n20 ≤ 100000) (rngI 0 n20.toNat)) fun l9 => lcW (fun x_one_22 => (Wm.ret ((decide (x_one_22 = x_room_14)) || (memD ((min x_one_22 x_room_14), (max x_one_22 x_room_14)) z1.2)))) (fun x_one_22 => (Wm.ret x_one_22)) l9) fun x_some_23 => Wm.bind (Wm.ret x_some_23.l) fun a26 => Wm.bind (Wm.grd (s16.length < 100000) (s16 ++ [a26])) fun x_found_25 => Wm.ret x_found_25) l29 x_found_6.l) fun s27 => Wm.ret (Ls.mk s27)

@[irreducible] def M_law_made {C : Addr} (a_parts : (Int × (List (Int × Int)))) : Wm (Hs C) :=
  (hsM C a_parts.1 a_parts.2)

@[irreducible] def M_law_lots (a_rooms : Int) : Wm (Ls (List Int)) :=
  Wm.bind (Wm.grd (([([] : (List Int))] : List (List Int)).length ≤ 100000) (Ls.mk [([] : (List Int))])) fun x_found_1 => Wm.bind (Wm.bind (Wm.ret a_rooms) fun n3 => Wm.grd (-100000 ≤ n3 ∧ n3 ≤ 100000) (rngI 0 n3.toNat)) fun l33 => Wm.bind (foldW (fun x_room_9 (s11 : (List (List Int))) => Wm.bind (Wm.bind (Wm.ret (Ls.mk s11)) fun z18 => (Wm.bind (Wm.bind (Wm.bind (Wm.ret (Ls.mk s11)) fun l15 => Wm.ret l15.l) fun l9 => lcW (fun x_lot_17 => (Wm.ret true)) (fun x_lot_17 => (Wm.grd (x_lot_17.length + ([x_room_9] : (List Int)).length ≤ 100000) (x_lot_17 ++ ([x_room_9] : (List Int))))) l9) fun z19 => (Wm.grd (z18.l.length + z19.l.length ≤ 100000) (Ls.mk (z18.l ++ z19.l))))) fun x_found_20 => Wm.ret x_found_20.l) l33 x_found_1.l) fun s22 => (Wm.bind (Wm.bind (Wm.bind (Wm.bind (Wm.bind (Wm.ret (Ls.mk s22)) fun l24 => Wm.ret l24.l) fun l9 => lcW (fun x_lot_26 => (Wm.ret true)) (fun x_lot_26 => (Wm.ret ((x_lot_26.length : Int), x_lot_26))) l9) fun z27 => (Wm.grd (∀ d ∈ z27.l, PySrt.ok d) (Ls.mk (sortO z27.l)))) fun l28 => Wm.ret l28.l) fun l9 => lcW (fun d30 => (Wm.ret true)) (fun d30 => (Wm.ret d30.2)) l9)

@[irreducible] def M_law_by (a_nears_v : (Ls (List Int))) (a_gone : (List Int)) (a_room : Int) : Wm (Ls Int) :=
  Wm.bind (Wm.ret (Ls.mk ([] : List Int))) fun x_found_1 => Wm.bind (Wm.ret (DI.mk [(a_room, true)])) fun x_met_2 => Wm.bind (Wm.grd (([a_room] : List Int).length ≤ 100000) (Ls.mk [a_room])) fun x_waiting_3 => Wm.bind (whileW (R := (Ls Int)) (fun (s11 : (List Int) × (List (Int × Bool)) × (List Int)) => (Wm.ret (decide ((0 : Int) < (s11.1.length : Int))))) (fun s11 => Wm.bind (Wm.opt (popL s11.1)) fun z21 => Wm.bind (Wm.opt (L2.atI a_nears_v.l z21.2)) fun l58 => Wm.bind (foldW (fun x_other_31 (s33 : (List (Int × Bool)) × (List Int) × (List Int)) => Wm.bind (Wm.ret (!decide (x_other_31 ∈ keysD s33.1))) fun b42 => cond b42 (Wm.bind (Wm.ret true) fun a49 => Wm.bind (Wm.ret x_other_31) fun a50 => Wm.bind (Wm.grd (s33.1.length < 100000) (putD s33.1 a50 a49)) fun x_met_43 => Wm.bind (Wm.ret (decide (x_other_31 ∈ a_gone))) fun b44 => cond b44 (Wm.bind (Wm.ret x_other_31) fun a46 => Wm.bind (Wm.grd (s33.2.1.length < 100000) (s33.2.1 ++ [a46])) fun x_waiting_45 => Wm.ret (x_met_43, x_waiting_45, s33.2.2)) (Wm.bind (Wm.ret x_other_31) fun a48 => Wm.bind (Wm.grd (s33.2.2.length < 100000) (s33.2.2 ++ [a48])) fun x_found_47 => Wm.ret (x_met_43, s33.2.1, x_found_47))) (Wm.ret (s33.1, s33.2.1, s33.2.2))) l58 (s11.2.1, z21.1, s11.2.2)) fun s51 => Wm.ret (Ctl.nx (s51.2.1, s51.1, s51.2.2))) (x_waiting_3.l, x_met_2.kv, x_found_1.l)) fun c9 => Ctl.go c9 Wm.ret fun s12 => Wm.ret (Ls.mk s12.2.2)

@[irreducible] def M_law_fast (a_nears_v : (Ls (List Int))) : Wm Int :=
  Wm.bind (Wm.ret (DT.mk [(([] : (List Int)), (0 : Int))])) fun x_best_1 => Wm.bind (Wm.bind (Wm.bind (M_law_lots (a_nears_v.l.length : Int)) fun z3 => (Wm.ret (Ls.mk (cutL z3.l (some (1 : Int)) none)))) fun l4 => Wm.ret l4.l) fun l52 => Wm.bind (foldW (fun x_lot_10 (s12 : (List (List Int × Int))) => Wm.bind (Wm.ret (Ls.mk ([] : List Int))) fun x_some_16 => Wm.bind (Wm.ret x_lot_10) fun l44 => Wm.bind (foldW (fun x_room_23 (s25 : (List Int)) => Wm.bind (Wm.bind (Wm.bind (Wm.ret x_lot_10) fun l9 => lcW (fun x_other_30 => (Wm.ret (!decide (x_other_30 = x_room_23)))) (fun x_other_30 => (Wm.ret x_other_30)) l9) fun z31 => (Wm.ret z31.l)) fun x_rest_32 => Wm.bind (Wm.bind (Wm.opt (lkD s12 x_rest_32)) fun z36 => (Wm.bind (Wm.bind (M_law_by a_nears_v x_rest_32 x_room_23) fun z35 => (Wm.ret (z35.l.length : Int))) fun z37 => (Wm.ret (max z36 z37)))) fun a38 => Wm.bind (Wm.grd (s25.length < 100000) (s25 ++ [a38])) fun x_some_34 => Wm.ret x_some_34) l44 x_some_16.l) fun s39 => Wm.bind (Wm.grd (0 < s39.length) (minL s39)) fun a42 => Wm.bind (Wm.ret x_lot_10) fun a43 => Wm.bind (Wm.grd (s12.length < 100000) (putD s12 a43 a42)) fun x_best_41 => Wm.ret x_best_41) l52 x_best_1.kv) fun s45 => (Wm.bind (Wm.ret (1 : Int)) fun z50 => (Wm.bind (Wm.bind (Wm.ret (DT.mk s45)) fun z48 => (Wm.bind (Wm.bind (Wm.grd (-100000 ≤ (a_nears_v.l.length : Int) ∧ (a_nears_v.l.length : Int) ≤ 100000) (Ls.mk (rngI 0 (a_nears_v.l.length : Int).toNat))) fun z47 => (Wm.ret z47.l)) fun z49 => (Wm.opt (lkD z48.kv z49)))) fun z51 => (Wm.ret (z50 + z51))))

@[irreducible] def M_law_one (a_parts : (Int × (List (Int × Int)))) (a_a : Int) (a_b : Int) : Wm (Int × (List (Int × Int))) :=
  Wm.bind (Wm.ret (DT.mk ([] : List (List Int × Bool)))) fun x_found_1 => Wm.bind (Wm.ret a_parts.2) fun l37 => Wm.bind (foldW (fun d8 (s10 : (List (List Int × Bool))) => Wm.bind (Wm.bind (Wm.ret ([d8.1, d8.2] : (List Int))) fun l9 => lcW (fun x_room_19 => (Wm.ret true)) (fun x_room_19 => (Wm.ret (if (decide (x_room_19 = a_b)) = true then a_a else (x_room_19 - (if (decide (a_b < x_room_19)) = true then (1 : Int) else 0))))) l9) fun x_pair_21 => Wm.bind (Wm.bind (Wm.opt (L2.atI x_pair_21.l (0 : Int))) fun z23 => (Wm.bind (Wm.opt (L2.atI x_pair_21.l (1 : Int))) fun z24 => (Wm.ret (!decide (z23 = z24))))) fun b25 => cond b25 (Wm.bind (Wm.ret true) fun a29 => Wm.bind (Wm.bind (Wm.grd (0 < x_pair_21.l.length) (minL x_pair_21.l)) fun z26 => (Wm.bind (Wm.grd (0 < x_pair_21.l.length) (maxL x_pair_21.l)) fun z27 => (Wm.ret ([z26, z27] : (List Int))))) fun a30 => Wm.bind (Wm.grd (s10.length < 100000) (putD s10 a30 a29)) fun x_found_28 => Wm.ret x_found_28) (Wm.ret s10)) l37 x_found_1.kv) fun s31 => (Wm.bind (Wm.ret (a_parts.1 - (1 : Int))) fun z35 => (Wm.bind (Wm.bind (Wm.bind (Wm.grd (∀ d ∈ (keysD s31), PySrt.ok d) (Ls.mk (sortO (keysD s31)))) fun z33 => (Wm.ret z33.l)) fun z34 => (Wm.opt (pairsL z34))) fun z36 => (Wm.ret (z35, z36))))

@[irreducible] def M_law_steps (a_parts : (Int × (List (Int × Int)))) : Wm (Ls (((Tr Str Int Int) ⊕ (Str × Int)) × (Int × (List (Int × Int))))) :=
  Wm.bind (Wm.ret (Ls.mk ([] : List (((Tr Str Int Int) ⊕ (Str × Int)) × (Int × (List (Int × Int))))))) fun x_found_1 => Wm.bind (Wm.ret a_parts.2) fun l80 => Wm.bind (foldW (fun d8 (s10 : (List (((Tr Str Int Int) ⊕ (Str × Int)) × (Int × (List (Int × Int)))))) => Wm.bind (Wm.bind (Wm.ret (Sum.inl (Tr.mk ("door" : Str) d8.1 d8.2) : ((Tr Str Int Int) ⊕ (Str × Int)))) fun z24 => (Wm.bind (Wm.bind (Wm.ret a_parts.1) fun z22 => (Wm.bind (Wm.bind (Wm.bind (Wm.ret a_parts.2) fun l9 => lcW (fun x_door_20 => (Wm.ret (!decide (x_door_20 = (d8.1, d8.2))))) (fun x_door_20 => (Wm.ret x_door_20)) l9) fun z21 => (Wm.ret z21.l)) fun z23 => (Wm.ret (z22, z23)))) fun z25 => (Wm.ret (z24, z25)))) fun a26 => Wm.bind (Wm.grd (s10.length < 100000) (s10 ++ [a26])) fun x_found_18 => Wm.ret x_found_18) l80 x_found_1.l) fun s27 => Wm.bind (Wm.ret a_parts.2) fun l79 => Wm.bind (foldW (fun d34 (s36 : (List (((Tr Str Int Int) ⊕ (Str × Int)) × (Int × (List (Int × Int)))))) => Wm.bind (Wm.bind (Wm.ret (Sum.inl (Tr.mk ("one" : Str) d34.1 d34.2) : ((Tr Str Int Int) ⊕ (Str × Int)))) fun z45 => (Wm.bind (M_law_one a_parts d34.1 d34.2) fun z46 => (Wm.ret (z45, z46)))) fun a47 => Wm.bind (Wm.grd (s36.length < 100000) (s36 ++ [a47])) fun x_found_44 => Wm.ret x_found_44) l79 s27) fun s48 => Wm.bind (Wm.bind (Wm.bind (Wm.ret (decide ((1 : Int) < a_parts.1))) fun b50 => cond b50 (Wm.grd (-100000 ≤ a_parts.1 ∧ a_parts.1 ≤ 100000) (Ls.mk (rngI 0 a_parts.1.toNat))) (Wm.ret (Ls.mk ([] : List Int)))) fun l51 => Wm.ret l51.l) fun l78 => Wm.bind (foldW (fun x_gone_57 (s59 : (List (((Tr Str Int Int) ⊕ (Str × Int)) × (Int × (List (Int × Int)))))) => Wm.bind (Wm.bind (Wm.ret a_parts.2) fun l9 => lcW (fun d64 => (Wm.ret (!decide (x_gone_57 ∈ [(d64.1, d64.2).1, (d64.1, d64.2).2])))) (fun d64 => (Wm.ret ((d64.1 - (if (decide (x_gone_57 < d64.1)) = true then (1 : Int) else 0)), (d64.2 - (if (decide (x_gone_57 < d64.2)) = true then (1 : Int) else 0))))) l9) fun x_doors_67 => Wm.bind (Wm.bind (Wm.ret (Sum.inr (("room" : Str), x_gone_57) : ((Tr Str Int Int) ⊕ (Str × Int)))) fun z73 => (Wm.bind (Wm.bind (Wm.ret (a_parts.1 - (1 : Int))) fun z71 => (Wm.bind (Wm.bind (Wm.grd (∀ d ∈ x_doors_67.l, PySrt.ok d) (Ls.mk (sortO x_doors_67.l))) fun z70 => (Wm.ret z70.l)) fun z72 => (Wm.ret (z71, z72)))) fun z74 => (Wm.ret (z73, z74)))) fun a75 => Wm.bind (Wm.grd (s59.length < 100000) (s59 ++ [a75])) fun x_found_69 => Wm.ret x_found_69) l78 s48) fun s76 => Wm.ret (Ls.mk s76)

end Cl
/-! NH26: the drawn houses of the k09 family. -/
namespace Cl
open PySem L2 Zw RZ
theorem gd_draw9 {hd : Hand} {n : Int} (h : 1 ≤ n ∧ n < 1073741824) : Gd (M_law_draw hd n) (fun d => 0 ≤ d ∧ d < n) := by
  unfold M_law_draw
  exact Gd.draw h fun d hd => hd
theorem gd_house9 {hd : Hand} {most : Int} (hm : 1 ≤ most ∧ most ≤ 8) : Gd (M_law_house hd most) (fun d => 1 ≤ d.1 ∧ d.1 ≤ most ∧ DoorsOk d.1 d.2) := by
  unfold M_law_house
  refine Gd.bind (Q := fun r : Int => 1 ≤ r ∧ r ≤ most) (Gd.bindE (Gd.ret rfl) (Gd.bind (gd_draw9 (by omega)) fun d hd => Gd.ret (by omega))) fun rooms hr => ?_
  refine Gd.bindE (Gd.ret rfl) (Gd.bind (Q := fun _ => True) (Gd.bindE (Gd.ret rfl) (Gd.bind (gd_draw9 (by decide)) fun d _ => Gd.ret trivial)) fun often _ => ?_)
  refine Gd.bindE (Gd.bindE (Gd.ret rfl) (Gd.grd (by omega) rfl)) ?_
  refine Gd.bind (Q := fun fl => FOk rooms.toNat fl) (Gd.foldW (fun n fl => FOk n fl) ⟨List.nodup_nil, (fun d m => by cases m), Nat.le_refl _⟩ (fun n b fl hb fok => ?_) fun fl h => by rw [rngI_length] at h; exact h) fun fl fok => ?_
  · have hi := (List.getElem?_eq_some_iff.mp hb).1
    rw [rngI_length] at hi
    rw [rngI_at hi] at hb
    have eb : b = (n : Int) := by cases hb; rfl
    have tl := tri_le n (by omega)
    refine Gd.bind (Q := fun d : Ls Int => SOk n d.l) (Gd.bindE (Gd.bindE (Gd.ret rfl) (Gd.grd (by omega) rfl)) (Gd.lc (fun _ _ => True) (fun d x => x = d) (by rw [rngI_length]; omega) (fun d _ => Gd.bind (gd_draw9 (by decide)) fun z _ => Gd.bindE (Gd.ret rfl) (Gd.ret trivial)) (fun d _ _ => Gd.ret rfl) fun l pk => ?_)) fun some hsome => ?_
    · have hs := pk.sub (v := fun d => d)
      rw [List.map_id'] at hs
      refine ⟨hs.nodup (rngI_nodup _ _), fun z hz => ?_, ?_⟩
      · have := mem_rngI.mp (hs.subset hz); omega
      · have := hs.length_le; rw [rngI_length] at this; show l.length ≤ n; omega
    refine Gd.bind (Q := fun l : List Int => SOk n l) (Gd.bind (Q := fun c : Bool => c = true → 0 < b) (Gd.bindE (Gd.ret rfl) (Gd.cond (fun _ => Gd.bindE (Gd.ret rfl) (Gd.cond (fun h => Gd.bind (gd_draw9 (by decide)) fun z _ => Gd.bindE (Gd.ret rfl) (Gd.ret fun _ => of_decide_eq_true h)) fun _ => Gd.ret fun z => by cases z)) fun _ => Gd.ret fun z => by cases z)) fun c hc => Gd.cond (fun h => ?_) fun _ => Gd.ret hsome) fun l hl => ?_
    · have hb0 := hc h
      refine Gd.bind (Q := fun d : Ls Int => SOk n d.l) (Gd.bind (gd_draw9 (by omega)) fun z hz => Gd.grd (by simp) ⟨by simp, fun x m => by rw [List.mem_singleton.mp m]; omega, by show 1 ≤ n; omega⟩) fun d hd => Gd.ret hd
    · refine Gd.bindE (a := Ls.mk (l.map fun a => (a, b))) (Gd.bindE (Gd.bindE (Gd.ret rfl) (Gd.ret rfl)) (Gd.lcM (fun a => (a, b)) (by have := hl.2.2; show l.length ≤ _; omega) (fun _ _ => Gd.ret rfl) rfl)) (Gd.bindE (Gd.grd ?_ rfl) (Gd.ret (fok_step fok hl eb)))
      have h1 := fok.2.2
      have h2 := hl.2.2
      show fl.length + (l.map fun a => (a, b)).length ≤ _
      rw [List.length_map]
      omega
  · refine Gd.bindE (Gd.ret rfl) (Gd.bindE (Gd.bindE (Gd.grd (fun _ _ => by show PyO.dep Int ≤ 60; decide) rfl) (Gd.ret rfl)) (Gd.ret ⟨hr.1, hr.2, fok_doors fok (by omega)⟩))
theorem gd_nears9 {d : Int × List (Int × Int)} (h : 1 ≤ d.1 ∧ d.1 ≤ 9) : Gd (M_law_nears d) (· = Ls.mk (lawNears d)) := by
  unfold M_law_nears
  refine Gd.bindE (Gd.ret rfl) (Gd.bindE (Gd.ret rfl) (Gd.bindE (Gd.bindE (Gd.ret rfl) (Gd.grd (by omega) rfl)) (Gd.bindE (a := lawNears d) (Gd.foldW (fun i s => s = ((rngI 0 d.1.toNat).take i).map fun room => (rngI 0 d.1.toNat).filter fun one => decide (one = room) || memD (min one room, max one room) d.2) rfl (fun i room s hr hs => ?_) fun s hs => ?_) (Gd.ret rfl))))
  · subst hs
    have hi := (List.getElem?_eq_some_iff.mp hr).1
    rw [rngI_length] at hi
    refine Gd.bindE (Gd.bindE (Gd.bindE (Gd.ret rfl) (Gd.grd (by omega) rfl)) (Gd.lcE (fun one => decide (one = room) || memD (min one room, max one room) d.2) id (by rw [rngI_length]; omega) (fun _ _ => Gd.ret rfl) (fun _ _ _ => Gd.ret rfl) (by rw [List.map_id]))) (Gd.bindE (Gd.ret rfl) (Gd.bindE (Gd.grd (by rw [List.length_map, List.length_take]; omega) rfl) (Gd.ret ?_)))
    rw [List.take_add_one, hr]; simp
  · rw [hs, List.take_length]
    unfold lawNears
    refine List.map_congr_left fun room _ => List.filter_congr fun one _ => ?_
    have : memD (min one room, max one room) d.2 = decide ((min one room, max one room) ∈ d.2) := by
      rw [Bool.eq_iff_iff, memD_iff, decide_eq_true_iff]
    rw [this]
theorem lawNears_at {r : Int} {ds : List (Int × Int)} {x : Int} (hx : 0 ≤ x ∧ x < r) : L2.atI (lawNears (r, ds)) x = some ((lawNears (r, ds)).getD x.toNat []) := by
  have hl : (lawNears (r, ds)).length = r.toNat := by unfold lawNears; rw [List.length_map, rngI_length]
  unfold L2.atI ixN
  rw [if_pos hx.1, if_pos (by omega)]
  show (lawNears (r, ds))[x.toNat]? = _
  rw [List.getD_eq_getElem?_getD, List.getElem?_eq_getElem (by omega)]
  rfl
/-- the law's own rooms left beside a room: those of LotQ, in some order -/
theorem gd_law_by {r : Int} {ds : List (Int × Int)} (ok : HOk' r ds) {g : List Int} {v : Int} (hv : 0 ≤ v ∧ v < r) : Gd (M_law_by (Ls.mk (lawNears (r, ds))) g v) (fun l => l.l.Nodup ∧ ∀ o, o ∈ l.l ↔ o ≠ v ∧ o ∉ g ∧ Pth r ds g v o) := by
  have h9 := ok.2.1
  unfold M_law_by
  refine Gd.bindE (Gd.ret rfl) (Gd.bindE (Gd.ret rfl) (Gd.bindE (Gd.grd (by simp) rfl) ?_))
  refine Gd.whileW (n0 := 1000) (fun n s => n ≤ 1000 ∧ s.1.length + 2 * free r s.2.1 ≤ n ∧ QIn r ds g v s.2.1 s.1 s.2.2 (fun _ => False)) (fun s => decide ((0 : Int) < (s.1.length : Int))) (fun _ => False) ?_ (fun _ _ _ => rfl) (fun n s hI hb => ?_) (fun n s hI hb => ?_) fun _ z => z.elim
  · have := free_le r [(v, true)]
    have hk : ∀ k, k ∈ keysD [(v, true)] ↔ k = v := fun k => by simp [keysD]
    refine ⟨Nat.le_refl _, by show [v].length + 2 * free r [(v, true)] ≤ _; simp; omega, ⟨by simp [keysD], fun k m => by rw [(hk k).mp m]; exact hv, (hk v).mpr rfl, fun y m => ?_, List.nodup_nil, fun o => ?_, fun k m => by rw [(hk k).mp m]; exact Pth.base, fun y m _ => .inl (by rw [(hk y).mp m]; simp)⟩⟩
    · have e : y = v := List.mem_singleton.mp m
      exact ⟨(hk y).mpr e, .inl e⟩
    · show o ∈ ([] : List Int) ↔ _
      rw [hk]
      simp
      intro e e2; exact absurd e e2
  · obtain ⟨w, x, e⟩ := snoc_of hb
    obtain ⟨wt, kv, fd⟩ := s
    simp only at e
    subst e
    obtain ⟨hn, hm, q⟩ := hI
    simp only at hm q
    rw [List.length_append] at hm
    simp only [List.length_singleton] at hm
    obtain ⟨hx, hx2⟩ := q.w x (by simp)
    have hxr := q.kr x hx
    refine Gd.bindE (Gd.opt (popL_snoc w x) rfl) (Gd.bindE (Gd.opt (lawNears_at hxr) rfl) (Gd.bind (Gd.foldW (fun i s => s.2.1.length + 2 * free r s.1 + 1 ≤ n ∧ QIn r ds g v s.1 s.2.1 s.2.2 (· = x) ∧ x ∈ keysD s.1 ∧ ∀ j z, j < i → ((lawNears (r, ds)).getD x.toNat [])[j]? = some z → z ∈ keysD s.1) ?_ (fun i o s hd hI => ?_) fun s hs => hs) fun s hs => Gd.ret ⟨n - 1, by omega, by omega, ?_, ?_⟩))
    · refine ⟨by show w.length + 2 * free r kv + 1 ≤ n; omega, ⟨q.nd, q.kr, q.vk, fun y m => q.w y (List.mem_append_left _ m), q.fnd, q.f, q.p, fun y m e => ?_⟩, hx, fun j _ hj => by omega⟩
      rcases q.clo y m e with z | z | z
      · rcases List.mem_append.mp z with z | z
        · exact .inl z
        · exact .inr (.inl (List.mem_singleton.mp z))
      · exact z.elim
      · exact .inr (.inr z)
    · obtain ⟨kv1, wt1, fd1⟩ := s
      obtain ⟨m1, q1, x1, d1⟩ := hI
      simp only at m1 q1 x1 d1
      have no : Near r ds x o := (near_law ok.2.2.1 hxr.1 hxr.2).mp (List.mem_of_getElem? hd)
      have hkl := keys_len q1.nd q1.kr
      have hkl2 : (keysD kv1).length = kv1.length := by unfold keysD; simp
      have hfl : fd1.length ≤ 9 := by
        have := nodup_len q1.fnd fun k m => q1.kr k ((q1.f k).mp m).1
        omega
      refine Gd.bindE (Gd.ret rfl) (Gd.cond (fun hc => ?_) fun hc => ?_)
      · have c1 : o ∉ keysD kv1 := by simpa using hc
        have hf := free_put (v := true) no.2.1 c1
        have hk : ∀ y, y ∈ keysD kv1 → y ∈ keysD (putD kv1 o true) := fun y m => mem_putD.mpr (.inr m)
        have dn : ∀ j z, j < i + 1 → ((lawNears (r, ds)).getD x.toNat [])[j]? = some z → z ∈ keysD (putD kv1 o true) := fun j z hj hz => by
          by_cases e : j = i
          · subst e; rw [hd] at hz; cases hz; exact mem_putD.mpr (.inl rfl)
          · exact hk _ (d1 j z (by omega) hz)
        have qp := qin_put q1 x1 hx2 no c1
        refine Gd.bindE (Gd.ret rfl) (Gd.bindE (Gd.ret rfl) (Gd.bindE (Gd.grd (by show kv1.length < 100000; omega) rfl) (Gd.bindE (Gd.ret rfl) (Gd.cond (fun hg => ?_) fun hg => ?_))))
        · have hg := of_decide_eq_true hg
          refine Gd.bindE (Gd.ret rfl) (Gd.bindE (Gd.grd (by show wt1.length < 100000; omega) rfl) (Gd.ret ⟨?_, qp.1 hg, hk _ x1, dn⟩))
          show (wt1 ++ [o]).length + 2 * free r (putD kv1 o true) + 1 ≤ n
          rw [List.length_append]; simp; omega
        · have hg := of_decide_eq_false hg
          refine Gd.bindE (Gd.ret rfl) (Gd.bindE (Gd.grd (by show fd1.length < 100000; omega) rfl) (Gd.ret ⟨?_, qp.2 hg, hk _ x1, dn⟩))
          show wt1.length + 2 * free r (putD kv1 o true) + 1 ≤ n
          omega
      · have c1 : o ∈ keysD kv1 := by simpa using hc
        refine Gd.ret ⟨m1, q1, x1, fun j z hj hz => ?_⟩
        by_cases e : j = i
        · subst e; rw [hd] at hz; cases hz; exact c1
        · exact d1 j z (by omega) hz
    · show s.2.1.length + 2 * free r s.1 ≤ n - 1
      have := hs.1
      omega
    · obtain ⟨_, q1, x1, d1⟩ := hs
      refine ⟨q1.nd, q1.kr, q1.vk, q1.w, q1.fnd, q1.f, q1.p, fun y m e => ?_⟩
      rcases q1.clo y m e with z | z | z
      · exact .inl z
      · refine .inr (.inr fun u nu => ?_)
        have hu := (near_law (ds := ds) ok.2.2.1 hxr.1 hxr.2).mpr (by rw [← z]; exact nu)
        obtain ⟨j, hj⟩ := List.mem_iff_getElem?.mp hu
        exact d1 j u (List.getElem?_eq_some_iff.mp hj).1 hj
      · exact .inr (.inr z)
  · obtain ⟨wt, kv, fd⟩ := s
    obtain ⟨_, _, q⟩ := hI
    have e : wt = [] := by
      have := of_decide_eq_false hb
      exact List.eq_nil_of_length_eq_zero (by simp only at this; omega)
    subst e
    simp only at q
    refine Gd.ret ⟨q.fnd, fun o => ?_⟩
    show o ∈ fd ↔ _
    rw [q.f]
    constructor
    · rintro ⟨a, b, c⟩; exact ⟨b, c, q.p o a⟩
    · rintro ⟨b, c, a⟩
      exact ⟨a (· ∈ keysD kv) q.vk fun y hy e z n => (q.clo y hy e).elim (fun m => by cases m) fun z' => z'.elim False.elim fun c => c z n, b, c⟩
end Cl
/-! NH27: the law's own best number. -/
namespace Cl
open PySem L2 Zw RZ
theorem gd_law_lots {r : Int} (h : 0 ≤ r ∧ r ≤ 9) : Gd (M_law_lots r) (· = Ls.mk (lotsM r)) := by
  have := gd_lots_of h
  unfold M_lots_of at this
  unfold M_law_lots
  exact this
theorem gd_law_fast {r : Int} {ds : List (Int × Int)} (ok : HOk' r ds) : Gd (M_law_fast (Ls.mk (lawNears (r, ds)))) (· = 1 + bestV r ds (rngI 0 r.toNat)) := by
  have h9 := ok.2.1
  have h1 := ok.1
  have hL := lotsM_len (r := r) ⟨by omega, h9⟩
  have hlen : ((Ls.mk (lawNears (r, ds))).l.length : Int) = r := by
    show ((lawNears (r, ds)).length : Int) = r
    unfold lawNears; rw [List.length_map, rngI_length]
    show (r.toNat : Int) = r
    omega
  unfold M_law_fast
  rw [hlen]
  refine Gd.bindE (Gd.ret rfl) (Gd.bindE (a := (lotsM r).drop 1) (Gd.bindE (Gd.bindE (gd_law_lots ⟨by omega, h9⟩) (Gd.ret rfl)) (Gd.ret (by rw [← cutL_tail]))) (Gd.bind (Q := fun kv : List (List Int × Int) => ∀ lot ∈ lotsM r, lkD kv lot = some (bestV r ds lot)) (Gd.foldW (fun i (kv : List (List Int × Int)) => kv.length ≤ i + 1 ∧ ∀ j lot, j ≤ i → (lotsM r)[j]? = some lot → lkD kv lot = some (bestV r ds lot)) ?_ (fun i lot kv hlot hI => ?_) fun kv hk lot m => ?_) fun kv hk => ?_))
  · refine ⟨Nat.le_refl _, fun j lot hj hl => ?_⟩
    have e : j = 0 := by omega
    subst e
    rw [lots_first (by omega)] at hl
    cases hl
    rfl
  · rw [List.getElem?_drop] at hlot
    have hlot : (lotsM r)[i + 1]? = some lot := by rw [Nat.add_comm]; exact hlot
    have hil := (List.getElem?_eq_some_iff.mp hlot).1
    have lok := (mem_lotsM (by omega)).mp (List.mem_of_getElem? hlot)
    have lnd : lot.Nodup := lok.1.imp fun {a b} z => by omega
    have ll := nodup_len lnd lok.2
    have lne : lot ≠ [] := fun e => by
      subst e
      have := (List.getElem?_inj (by omega) (lotsM_nodup r)).mp (hlot.trans (lots_first (r := r) (by omega)).symm)
      omega
    refine Gd.bindE (Gd.ret rfl) (Gd.bindE (Gd.ret rfl) (Gd.bindE (a := lot.map (fun room => max (bestV r ds (lot.filter fun x => !decide (x = room))) (cardQ r ds (lot.filter fun x => !decide (x = room)) room))) (Gd.foldW (fun k s => s = (lot.take k).map (fun room => max (bestV r ds (lot.filter fun x => !decide (x = room))) (cardQ r ds (lot.filter fun x => !decide (x = room)) room))) rfl (fun k room s hr hs => ?_) fun s hs => by rw [hs, List.take_length]) ?_))
    · subst hs
      have hm := List.mem_of_getElem? hr
      have hk := (List.getElem?_eq_some_iff.mp hr).1
      obtain ⟨j, hj, hrest⟩ := rest_before (r := r) (by omega) hlot hm
      have hrow := hI.2 j _ (by omega) hrest
      refine Gd.bindE (a := lot.filter fun x => !decide (x = room)) (Gd.bindE (Gd.bindE (Gd.ret rfl) (Gd.lcE (fun x => !decide (x = room)) id (by omega) (fun _ _ => Gd.ret rfl) (fun _ _ _ => Gd.ret rfl) (by rw [List.map_id]))) (Gd.ret rfl)) ?_
      refine Gd.bindE (a := max (bestV r ds (lot.filter fun x => !decide (x = room))) (cardQ r ds (lot.filter fun x => !decide (x = room)) room)) (Gd.bindE (Gd.opt hrow rfl) (Gd.bind (Q := fun z : Int => z = cardQ r ds (lot.filter fun x => !decide (x = room)) room) (Gd.bind (gd_law_by ok (lok.2 room hm)) fun l hl => Gd.ret (cardQ_of (lok.2 room hm) hl.1 hl.2)) fun z hz => by rw [hz]; exact Gd.ret rfl)) (Gd.bindE (Gd.grd (by rw [List.length_map, List.length_take]; omega) rfl) (Gd.ret ?_))
      rw [List.take_add_one, hr]; simp
    · rw [← bestV_eq lok.1 lne] at *
      have hkl := hI.1
      have hpos : 0 < lot.length := List.length_pos_iff.mpr lne
      refine Gd.bindE (Gd.grd (by rw [List.length_map]; exact hpos) rfl) (Gd.bindE (Gd.ret rfl) (Gd.bindE (Gd.grd (by omega) rfl) (Gd.ret ⟨Nat.le_trans (putD_length _ _ _) (by omega), fun j l hj hl => ?_⟩)))
      rw [lkD_putD]
      split
      · rename_i e
        subst e
        rw [bestV_eq lok.1 lne]
      · rename_i ne
        refine hI.2 j l ?_ hl
        by_cases q : j = i + 1
        · subst q; rw [hlot] at hl; cases hl; exact absurd rfl ne
        · omega
  · obtain ⟨j, hj⟩ := List.mem_iff_getElem?.mp m
    have hjl := (List.getElem?_eq_some_iff.mp hj).1
    exact hk.2 j lot (by rw [List.length_drop]; omega) hj
  · exact Gd.bindE (Gd.ret rfl) (Gd.bindE (Gd.bindE (Gd.ret rfl) (Gd.bindE (Gd.bindE (Gd.grd (by omega) rfl) (Gd.ret rfl)) (Gd.opt (hk _ (whole_lot (by omega))) rfl))) (Gd.ret rfl))
end Cl
/-! NH28: the law's own steps. -/
namespace Cl
open PySem L2 Zw RZ
theorem law_ren {a b x : Int} (h : a < b) : (if (decide (x = b)) = true then a else (x - (if (decide (b < x)) = true then (1 : Int) else 0))) = numB b (renB a b x) := by
  unfold renB numB
  simp only [decide_eq_true_eq]
  by_cases e : x = b
  · simp only [if_pos e]; split <;> omega
  · simp only [if_neg e]; split <;> omega
theorem gd_law_one {r : Int} {ds : List (Int × Int)} (ok : HOk' r ds) {a b : Int} (hab : 0 ≤ a ∧ a < b ∧ b < r) : Gd (M_law_one (r, ds) a b) (· = (r - 1, oneD ds a b)) := by
  have hl := ok.2.2.2.2
  have h9 := ok.2.1
  have i := oneKV_ok hab ok.2.2.1
  unfold M_law_one
  refine Gd.bindE (Gd.ret rfl) (Gd.bindE (Gd.ret rfl) (Gd.bindE (a := oneKV a b ds) (Gd.foldW (fun i s => s = oneKV a b (ds.take i)) rfl (fun i d s hd hI => ?_) fun s hs => by rw [hs]; show oneKV a b (ds.take ds.length) = _; rw [List.take_length]) ?_))
  · subst hI
    have hd : ds[i]? = some d := hd
    have ik := oneKV_ok hab (ds := ds.take i) fun d m => ok.2.2.1 d (List.mem_of_mem_take m)
    have kl := kv_len ik (by omega)
    have es : oneKV a b (ds.take (i + 1)) = stepB a b (oneKV a b (ds.take i)) d := by
      rw [List.take_add_one, hd]; exact oneKV_snoc _ _ _ _
    refine Gd.bindE (a := Ls.mk [numB b (renB a b d.1), numB b (renB a b d.2)]) (Gd.bindE (Gd.ret rfl) (Gd.lcM (fun z => numB b (renB a b z)) (by simp) (fun z _ => Gd.ret (law_ren hab.2.1)) rfl)) ?_
    have iff : numB b (renB a b d.1) = numB b (renB a b d.2) ↔ renB a b d.1 = renB a b d.2 := ⟨numB_inj (ren_ne hab.2.1) (ren_ne hab.2.1), fun e => by rw [e]⟩
    refine Gd.bindE (a := !decide (numB b (renB a b d.1) = numB b (renB a b d.2))) (Gd.bindE (Gd.opt rfl rfl) (Gd.bindE (Gd.opt rfl rfl) (Gd.ret rfl))) (Gd.cond (fun hc => ?_) fun hc => ?_)
    · have e : ¬ renB a b d.1 = renB a b d.2 := by rw [← iff]; simpa using hc
      refine Gd.bindE (Gd.ret rfl) (Gd.bindE (a := sortO [numB b (renB a b d.1), numB b (renB a b d.2)]) (Gd.bindE (Gd.grd (by simp) rfl) (Gd.bindE (Gd.grd (by simp) rfl) (Gd.ret (sort2 _ _).symm))) (Gd.bindE (Gd.grd (by omega) rfl) (Gd.ret ?_)))
      rw [es]; unfold stepB keyB; rw [if_neg e]
    · have e : renB a b d.1 = renB a b d.2 := by rw [← iff]; simpa using hc
      refine Gd.ret ?_
      rw [es]; unfold stepB keyB; rw [if_pos e]
  · exact Gd.bindE (Gd.ret rfl) (Gd.bindE (a := oneD ds a b) (Gd.bindE (Gd.bindE (Gd.grd (fun _ _ => trivial) rfl) (Gd.ret rfl)) (Gd.opt (one_pairs i) rfl)) (Gd.ret rfl))
abbrev Stp := (Tr Str Int Int) ⊕ (Str × Int)
def sDoor (d : Int × Int) : Stp := Sum.inl (Tr.mk ("door" : Str) d.1 d.2)
def sOne (d : Int × Int) : Stp := Sum.inl (Tr.mk ("one" : Str) d.1 d.2)
def sRoom (x : Int) : Stp := Sum.inr (("room" : Str), x)
def stepsL (r : Int) (ds : List (Int × Int)) : List (Stp × (Int × List (Int × Int))) :=
  ds.map (fun d => (sDoor d, (r, lessD ds d.1 d.2))) ++ ds.map (fun d => (sOne d, (r - 1, oneD ds d.1 d.2))) ++ (if 1 < r then rngI 0 r.toNat else []).map fun x => (sRoom x, (r - 1, withoutD ds x))
theorem stepsL_ok {r : Int} {ds : List (Int × Int)} (ok : HOk' r ds) : ∀ s ∈ stepsL r ds, HOk' s.2.1 s.2.2 := fun s m => by
  unfold stepsL at m
  rcases List.mem_append.mp m with m | m
  · rcases List.mem_append.mp m with m | m
    · obtain ⟨d, _, rfl⟩ := List.mem_map.mp m
      exact less_ok ok _ _
    · obtain ⟨d, md, rfl⟩ := List.mem_map.mp m
      exact one_ok ok (ok.2.2.1 d md)
  · obtain ⟨x, mx, rfl⟩ := List.mem_map.mp m
    by_cases h : 1 < r
    · rw [if_pos h] at mx
      have := mem_rngI.mp mx
      exact without_ok ok (by omega) h
    · rw [if_neg h] at mx; cases mx
theorem stepsL_len {r : Int} {ds : List (Int × Int)} (ok : HOk' r ds) : (stepsL r ds).length ≤ 100 := by
  have := ok.2.2.2.2
  have h9 := ok.2.1
  unfold stepsL
  rw [List.length_append, List.length_append, List.length_map, List.length_map, List.length_map]
  split
  · rw [rngI_length]; omega
  · simp; omega
theorem gd_law_steps {r : Int} {ds : List (Int × Int)} (ok : HOk' r ds) : Gd (M_law_steps (r, ds)) (· = Ls.mk (stepsL r ds)) := by
  have hl := ok.2.2.2.2
  have h9 := ok.2.1
  unfold M_law_steps
  refine Gd.bindE (Gd.ret rfl) (Gd.bindE (Gd.ret rfl) (Gd.bindE (a := ds.map (fun d => (sDoor d, (r, lessD ds d.1 d.2)))) (Gd.foldW (fun i s => s = (ds.take i).map (fun d => (sDoor d, (r, lessD ds d.1 d.2)))) rfl (fun i d s hd hI => ?_) fun s hs => by rw [hs]; show List.map _ (ds.take ds.length) = _; rw [List.take_length]) ?_))
  · subst hI
    have hd : ds[i]? = some d := hd
    refine Gd.bindE (a := (sDoor d, (r, lessD ds d.1 d.2))) (Gd.bindE (Gd.ret rfl) (Gd.bindE (a := (r, lessD ds d.1 d.2)) (Gd.bindE (Gd.ret rfl) (Gd.bindE (a := lessD ds d.1 d.2) (Gd.bindE (Gd.bindE (Gd.ret rfl) (Gd.lcE (fun z => !decide (z = (d.1, d.2))) id (by show ds.length ≤ _; omega) (fun _ _ => Gd.ret rfl) (fun _ _ _ => Gd.ret rfl) (by rw [List.map_id]))) (Gd.ret rfl)) (Gd.ret rfl))) (Gd.ret rfl))) (Gd.bindE (Gd.grd (by rw [List.length_map, List.length_take]; omega) rfl) (Gd.ret ?_))
    rw [List.take_add_one, hd]; simp
  refine Gd.bindE (Gd.ret rfl) (Gd.bindE (a := ds.map (fun d => (sDoor d, (r, lessD ds d.1 d.2))) ++ ds.map (fun d => (sOne d, (r - 1, oneD ds d.1 d.2)))) (Gd.foldW (fun i s => s = ds.map (fun d => (sDoor d, (r, lessD ds d.1 d.2))) ++ (ds.take i).map (fun d => (sOne d, (r - 1, oneD ds d.1 d.2)))) (by simp) (fun i d s hd hI => ?_) fun s hs => by rw [hs]; show _ ++ List.map _ (ds.take ds.length) = _; rw [List.take_length]) ?_)
  · subst hI
    have hd : ds[i]? = some d := hd
    have hm := List.mem_of_getElem? hd
    refine Gd.bindE (a := (sOne d, (r - 1, oneD ds d.1 d.2))) (Gd.bindE (Gd.ret rfl) (Gd.bindE (gd_law_one ok (ok.2.2.1 d hm)) (Gd.ret rfl))) (Gd.bindE (Gd.grd (by rw [List.length_append, List.length_map, List.length_map, List.length_take]; omega) rfl) (Gd.ret ?_))
    rw [List.take_add_one, hd]; simp
  have hll : (if 1 < r then rngI 0 r.toNat else []).length ≤ 9 := by
    split
    · rw [rngI_length]; omega
    · simp
  refine Gd.bindE (a := if 1 < r then rngI 0 r.toNat else []) (Gd.bindE (a := Ls.mk (if 1 < r then rngI 0 r.toNat else [])) (Gd.bindE (Gd.ret rfl) (Gd.cond (fun hc => ?_) fun hc => ?_)) (Gd.ret rfl)) ?_
  · have hc : 1 < r := of_decide_eq_true hc
    rw [if_pos hc]
    exact Gd.grd (by show -100000 ≤ r ∧ r ≤ 100000; omega) rfl
  · have hc : ¬ 1 < r := of_decide_eq_false hc
    rw [if_neg hc]
    exact Gd.ret rfl
  refine Gd.bindE (a := stepsL r ds) (Gd.foldW (fun i s => s = ds.map (fun d => (sDoor d, (r, lessD ds d.1 d.2))) ++ ds.map (fun d => (sOne d, (r - 1, oneD ds d.1 d.2))) ++ ((if 1 < r then rngI 0 r.toNat else []).take i).map fun x => (sRoom x, (r - 1, withoutD ds x))) (by simp) (fun i g s hd hI => ?_) fun s hs => by rw [hs, List.take_length]; rfl) (Gd.ret rfl)
  subst hI
  refine Gd.bindE (a := Ls.mk ((ds.filter fun d => !decide (g ∈ [d.1, d.2])).map fun d => (numB g d.1, numB g d.2))) (Gd.bindE (Gd.ret rfl) (Gd.lcE (fun d => !decide (g ∈ [d.1, d.2])) (fun d => (numB g d.1, numB g d.2)) (by show ds.length ≤ _; omega) (fun _ _ => Gd.ret rfl) (fun d _ hf => Gd.ret ?_) rfl)) ?_
  · have key : ∀ x : Int, x - (if (decide (g < x)) = true then (1 : Int) else 0) = numB g x := fun x => by
      unfold numB
      by_cases q : g < x
      · rw [if_pos (decide_eq_true q), if_pos q]
      · rw [if_neg (by simpa using q), if_neg q]; omega
    rw [key, key]
  · refine Gd.bindE (a := (sRoom g, (r - 1, withoutD ds g))) (Gd.bindE (Gd.ret rfl) (Gd.bindE (Gd.bindE (Gd.ret rfl) (Gd.bindE (a := withoutD ds g) (Gd.bindE (Gd.grd (fun _ _ => by show PyO.dep Int ≤ 60; decide) rfl) (Gd.ret rfl)) (Gd.ret rfl))) (Gd.ret rfl))) (Gd.bindE (Gd.grd (by rw [List.length_append, List.length_append, List.length_map, List.length_map, List.length_map, List.length_take]; omega) rfl) (Gd.ret ?_))
    rw [List.take_add_one, hd]; simp
end Cl
/-! NC: numbers of known houses, by reckoning. -/
namespace Cl
open PySem L2 Zw RZ
def nearB (r : Int) (ds : List (Int × Int)) (w o : Int) : Bool := decide (0 ≤ w) && decide (w < r) && decide (0 ≤ o) && decide (o < r) && (decide (o = w) || decide ((w, o) ∈ ds) || decide ((o, w) ∈ ds))
theorem nearB_iff {r : Int} {ds : List (Int × Int)} {w o : Int} : nearB r ds w o = true ↔ Near r ds w o := by
  unfold nearB Near
  simp only [Bool.and_eq_true, Bool.or_eq_true, decide_eq_true_eq]
  constructor
  · rintro ⟨⟨⟨⟨a, b⟩, c⟩, d⟩, e⟩
    exact ⟨⟨a, b⟩, ⟨c, d⟩, e.elim (fun z => z.elim .inl fun m => .inr (.inl m)) fun m => .inr (.inr m)⟩
  · rintro ⟨⟨a, b⟩, ⟨c, d⟩, e⟩
    exact ⟨⟨⟨⟨a, b⟩, c⟩, d⟩, e.elim (fun z => .inl (.inl z)) fun z => z.elim (fun m => .inl (.inr m)) .inr⟩
def growB (r : Int) (ds : List (Int × Int)) (g : List Int) (v : Int) : List Int → List Int → Bool
  | _, [] => true
  | acc, x :: l => (decide (x = v) || acc.any fun y => (decide (y = v) || decide (y ∈ g)) && nearB r ds y x) && growB r ds g v (acc ++ [x]) l
theorem growB_ok {r : Int} {ds : List (Int × Int)} {g : List Int} {v : Int} : ∀ l acc, growB r ds g v acc l = true → (∀ x ∈ acc, Pth r ds g v x) → ∀ x ∈ l, Pth r ds g v x
  | [], _, _, _, _, m => by cases m
  | x :: l, acc, h, ha, y, m => by
    unfold growB at h
    rw [Bool.and_eq_true, Bool.or_eq_true, decide_eq_true_eq, List.any_eq_true] at h
    have hx : Pth r ds g v x := by
      rcases h.1 with e | ⟨y, my, q⟩
      · rw [e]; exact Pth.base
      · rw [Bool.and_eq_true, Bool.or_eq_true, decide_eq_true_eq, decide_eq_true_eq] at q
        exact (ha y my).step q.1 (nearB_iff.mp q.2)
    rcases List.mem_cons.mp m with e | m
    · rw [e]; exact hx
    · refine growB_ok l (acc ++ [x]) h.2 (fun z mz => ?_) y m
      rcases List.mem_append.mp mz with mz | mz
      · exact ha z mz
      · rw [List.mem_singleton.mp mz]; exact hx
def closB (r : Int) (ds : List (Int × Int)) (g : List Int) (v : Int) (C : List Int) : Bool := decide (v ∈ C) && C.all fun y => !(decide (y = v) || decide (y ∈ g)) || (rngI 0 r.toNat).all fun z => !nearB r ds y z || decide (z ∈ C)
theorem closB_ok {r : Int} {ds : List (Int × Int)} {g : List Int} {v : Int} {C : List Int} (h : closB r ds g v C = true) {x : Int} (p : Pth r ds g v x) : x ∈ C := by
  unfold closB at h
  rw [Bool.and_eq_true, decide_eq_true_eq, List.all_eq_true] at h
  refine p (· ∈ C) h.1 fun y hy e z n => ?_
  have := h.2 y hy
  have e1 : (decide (y = v) || decide (y ∈ g)) = true := by rw [Bool.or_eq_true, decide_eq_true_eq, decide_eq_true_eq]; exact e
  rw [e1] at this
  have this : (rngI 0 r.toNat).all (fun z => !nearB r ds y z || decide (z ∈ C)) = true := this
  rw [List.all_eq_true] at this
  have := this z (mem_rngI.mpr (by have := n.2.1; omega))
  rw [nearB_iff.mpr n] at this
  simpa using this
def reachC (r : Int) (ds : List (Int × Int)) (g : List Int) (v : Int) : Nat → List Int
  | 0 => [v]
  | n + 1 => reachC r ds g v n ++ (rngI 0 r.toNat).filter fun z => !decide (z ∈ reachC r ds g v n) && (reachC r ds g v n).any fun y => (decide (y = v) || decide (y ∈ g)) && nearB r ds y z
def cardC (r : Int) (ds : List (Int × Int)) (g : List Int) (v : Int) : Int := (((rngI 0 r.toNat).filter fun o => !decide (o = v) && !decide (o ∈ g) && decide (o ∈ reachC r ds g v r.toNat)).length : Int)
def okC (r : Int) (ds : List (Int × Int)) (g : List Int) (v : Int) : Bool := decide (0 ≤ v) && decide (v < r) && growB r ds g v [] (reachC r ds g v r.toNat) && closB r ds g v (reachC r ds g v r.toNat)
theorem cardQ_C {r : Int} {ds : List (Int × Int)} {g : List Int} {v : Int} (h : okC r ds g v = true) : cardQ r ds g v = cardC r ds g v := by
  unfold okC at h
  simp only [Bool.and_eq_true, decide_eq_true_eq] at h
  obtain ⟨⟨hv, h1⟩, h2⟩ := h
  refine (cardQ_of hv (List.Nodup.sublist List.filter_sublist (rngI_nodup _ _)) fun o => ?_).symm
  rw [List.mem_filter, mem_rngI]
  simp only [Bool.and_eq_true, Bool.not_eq_true', decide_eq_false_iff_not, decide_eq_true_eq]
  constructor
  · rintro ⟨_, ⟨a, b⟩, c⟩
    exact ⟨a, b, growB_ok _ [] h1 (fun _ m => by cases m) o c⟩
  · rintro ⟨a, b, p⟩
    have hr : 0 ≤ o ∧ o < r := p (fun z => 0 ≤ z ∧ z < r) hv fun y _ _ z n => n.2.1
    exact ⟨by omega, ⟨a, b⟩, closB_ok h2 p⟩
def bestC (r : Int) (ds : List (Int × Int)) : Nat → List Int → Int
  | 0, _ => 0
  | n + 1, lot => minL (lot.map fun room => max (bestC r ds n (lot.filter fun x => !decide (x = room))) (cardC r ds (lot.filter fun x => !decide (x = room)) room))
def okB (r : Int) (ds : List (Int × Int)) : Nat → List Int → Bool
  | 0, _ => true
  | n + 1, lot => lot.all fun room => okB r ds n (lot.filter fun x => !decide (x = room)) && okC r ds (lot.filter fun x => !decide (x = room)) room
theorem bestN_C {r : Int} {ds : List (Int × Int)} : ∀ (n : Nat) (lot : List Int), okB r ds n lot = true → bestN r ds n lot = bestC r ds n lot
  | 0, _, _ => rfl
  | n + 1, lot, h => by
    rw [bestN_succ]
    show _ = minL _
    congr 1
    unfold okB at h
    rw [List.all_eq_true] at h
    refine List.map_congr_left fun room m => ?_
    have := h room m
    rw [Bool.and_eq_true] at this
    rw [bestN_C n _ this.1, cardQ_C this.2]
noncomputable def wholeV (r : Int) (ds : List (Int × Int)) : Int := bestV r ds (rngI 0 r.toNat)
def chkV (r : Int) (ds : List (Int × Int)) (k : Int) : Bool := okB r ds (rngI 0 r.toNat).length (rngI 0 r.toNat) && decide (bestC r ds (rngI 0 r.toNat).length (rngI 0 r.toNat) = k)
theorem whole_by {r : Int} {ds : List (Int × Int)} {k : Int} (h : chkV r ds k = true) : wholeV r ds = k := by
  unfold chkV at h
  rw [Bool.and_eq_true, decide_eq_true_eq] at h
  unfold wholeV bestV
  rw [bestN_C _ _ h.1, h.2]
end Cl
/-! NP9: the first step with as many watchers. -/
namespace Zw
open PySem L2 RZ
/-- a loop that answers with the first good one -/
theorem Gd.findW {α R ρ : Type} {body : α → Unit → Wm (Ctl Unit R)} {ds : List α} {g : R → Wm ρ} {rest : Unit → Wm ρ} {Q : ρ → Prop} (good : α → Bool) (f : α → R)
    (hb : ∀ d ∈ ds, Gd (body d ()) (· = if good d = true then Ctl.rt (f d) else Ctl.nx ()))
    (hR : ∀ d l, ds.filter good = d :: l → Gd (g (f d)) Q) (hQ : ds.filter good = [] → Gd (rest ()) Q) : Gd (Wm.bind (Zw.forW body ds ()) fun c => Ctl.go c g rest) Q := by
  refine Gd.forW (fun i _ => (ds.take i).filter good = []) (fun _ => False) (fun r => ∃ d l, ds.filter good = d :: l ∧ r = f d) (by simp) (fun i d s hd hI => ?_) (fun s hI => by rw [List.take_length] at hI; exact hQ hI) (fun _ z => z.elim) fun r ⟨d, l, e, hr⟩ => by rw [hr]; exact hR d l e
  refine (hb d (List.mem_of_getElem? hd)).mono fun c hc => ?_
  subst hc
  have hi := (List.getElem?_eq_some_iff.mp hd).1
  have et : ds.take (i + 1) = ds.take i ++ [d] := by rw [List.take_add_one, hd]; rfl
  by_cases q : good d = true
  · rw [if_pos q]
    refine ⟨d, (ds.drop (i + 1)).filter good, ?_, rfl⟩
    conv => lhs; rw [← List.take_append_drop (i + 1) ds]
    rw [et, List.filter_append, List.filter_append, hI]
    simp [q]
  · rw [if_neg q]
    show (ds.take (i + 1)).filter good = []
    rw [et, List.filter_append, hI]
    simp [q]
end Zw
namespace Cl
open PySem L2 Zw RZ
noncomputable def goodS (r : Int) (ds : List (Int × Int)) (p : Int × List (Int × Int)) : Bool := decide (wholeV p.1 p.2 = wholeV r ds)
noncomputable def smaD (r : Int) (ds : List (Int × Int)) : Option Stp := (((stepsL r ds).filter fun s => goodS r ds s.2).map fun s => s.1).head?
theorem smaD_eq (r : Int) (ds : List (Int × Int)) : smaD r ds = ((ds.filter fun d => goodS r ds (r, lessD ds d.1 d.2)).map sDoor ++ ((ds.filter fun d => goodS r ds (r - 1, oneD ds d.1 d.2)).map sOne ++ ((if 1 < r then rngI 0 r.toNat else []).filter fun x => goodS r ds (r - 1, withoutD ds x)).map sRoom)).head? := by
  unfold smaD stepsL
  rw [List.append_assoc, List.filter_append, List.filter_append, List.map_append, List.map_append, List.filter_map, List.filter_map, List.filter_map, List.map_map, List.map_map, List.map_map]
  rfl
section
variable {C : Addr} {h : Hs C}
theorem gd_smaller (ok : HOk h) : Gd (M_smaller h) (· = smaD h.r h.ds) := by
  have h9 := ok.2.1
  have e0 := smaD_eq h.r h.ds
  have eqd : ∀ p : Int × List (Int × Int), decide (bestV p.1 p.2 (rngI 0 p.1.toNat) + 1 = bestV h.r h.ds (rngI 0 h.r.toNat) + 1) = goodS h.r h.ds p := fun p => by
    unfold goodS wholeV
    rw [decide_eq_decide]
    omega
  unfold M_smaller
  refine Gd.bindE (gd_fewest_fast ok) (Gd.bindE (Gd.ret rfl) (Gd.findW (fun d => goodS h.r h.ds (h.r, lessD h.ds d.1 d.2)) (fun d => some (sDoor d)) (fun d m => ?_) (fun d l e => Gd.ret ?_) fun e1 => ?_))
  · exact Gd.bindE (Gd.bindE (Gd.bindE (gd_less ok _ _) (gd_fewest_fast (h := (Hs.mk h.r (lessD h.ds d.1 d.2) : Hs C)) (less_ok ok _ _))) (Gd.bindE (Gd.ret rfl) (Gd.ret (eqd (h.r, lessD h.ds d.1 d.2))))) (Gd.cond (fun hc => Gd.bindE (Gd.ret rfl) (Gd.ret (by rw [if_pos hc]; rfl))) fun hc => Gd.ret (by rw [if_neg (by rw [hc]; decide)]))
  · rw [e0, e]; rfl
  refine Gd.bindE (Gd.ret rfl) (Gd.findW (fun d => goodS h.r h.ds (h.r - 1, oneD h.ds d.1 d.2)) (fun d => some (sOne d)) (fun d m => ?_) (fun d l e => Gd.ret ?_) fun e2 => ?_)
  · exact Gd.bindE (Gd.bindE (Gd.bindE (gd_one_of ok (ok.2.2.1 d m)) (gd_fewest_fast (h := (Hs.mk (h.r - 1) (oneD h.ds d.1 d.2) : Hs C)) (one_ok ok (ok.2.2.1 d m)))) (Gd.bindE (Gd.ret rfl) (Gd.ret (eqd (h.r - 1, oneD h.ds d.1 d.2))))) (Gd.cond (fun hc => Gd.bindE (Gd.ret rfl) (Gd.ret (by rw [if_pos hc]; rfl))) fun hc => Gd.ret (by rw [if_neg (by rw [hc]; decide)]))
  · rw [e0, e1, e]; rfl
  refine Gd.bindE (Gd.ret rfl) (Gd.cond (fun hc => ?_) fun hc => Gd.ret ?_)
  · have hc := of_decide_eq_true hc
    rw [if_pos hc] at e0
    refine Gd.bindE (Gd.bindE (Gd.ret rfl) (Gd.grd (by omega) rfl)) (Gd.findW (fun x => goodS h.r h.ds (h.r - 1, withoutD h.ds x)) (fun x => some (sRoom x)) (fun x m => ?_) (fun x l e => Gd.ret ?_) fun e3 => Gd.ret ?_)
    · have hx := mem_rngI.mp m
      have hx : 0 ≤ x ∧ x < h.r := by omega
      exact Gd.bindE (Gd.bindE (Gd.bindE (gd_without ok hx hc) (gd_fewest_fast (h := (Hs.mk (h.r - 1) (withoutD h.ds x) : Hs C)) (without_ok ok hx hc))) (Gd.bindE (Gd.ret rfl) (Gd.ret (eqd (h.r - 1, withoutD h.ds x))))) (Gd.cond (fun hc => Gd.bindE (Gd.ret rfl) (Gd.ret (by rw [if_pos hc]; rfl))) fun hc => Gd.ret (by rw [if_neg (by rw [hc]; decide)]))
    · rw [e0, e1, e2, e]; rfl
    · rw [e0, e1, e2, e3]; rfl
  · have hc := of_decide_eq_false hc
    rw [if_neg hc] at e0
    rw [e0, e1, e2]; rfl
end
end Cl
namespace Cl
open PySem L2 Zw RZ
@[irreducible] def M_law {K : PySem.W.Frag} {C : Addr} (a_script : (Scr K)) : Wm Bool :=
  Wm.bind (M_law_hand a_script) fun x_hand_1 => Wm.bind (Wm.bind (Wm.ret (2 : Int)) fun n3 => Wm.grd (-100000 ≤ n3 ∧ n3 ≤ 100000) (rngI 0 n3.toNat)) fun l50 => Wm.bind (forW (R := Bool) (fun x_turn_9 (s11 : Unit) => Wm.bind (M_law_house x_hand_1 (6 : Int)) fun x_parts_14 => Wm.bind (M_law_made (C := C) x_parts_14) fun x_house_17 => Wm.bind (Wm.bind (M_law_nears x_parts_14) fun z16 => (M_law_fast z16)) fun x_many_18 => Wm.bind (Wm.bind (Wm.bind (M_law_steps x_parts_14) fun l21 => Wm.ret l21.l) fun l9 => lcW (fun d23 => (Wm.bind (Wm.bind (M_law_nears d23.2) fun z26 => (M_law_fast z26)) fun z27 => (Wm.bind (Wm.ret x_many_18) fun z28 => (Wm.ret (decide (z27 = z28)))))) (fun d23 => (Wm.ret d23.1)) l9) fun x_good_29 => Wm.bind (Wm.bind (Wm.bind (Wm.bind (Wm.bind (M_smaller (C := C) x_house_17) fun z31 => (Wm.ret (Dq.mk (K := K) (ToQ.toQ z31)))) fun z34 => (Wm.bind (Wm.bind (Wm.ret (decide ((0 : Int) < (x_good_29.l.length : Int)))) fun b33 => cond b33 (Wm.bind (Wm.opt (L2.atI x_good_29.l (0 : Int))) fun z32 => (Wm.ret (Dq.mk (K := K) (ToQ.toQ z32)))) (Wm.ret (Dq.mk (K := K) PyData.none))) fun z35 => (M_law_is z34 z35))) fun b36 => Wm.ret (!b36)) fun b41 => cond b41 (Wm.ret true) (Wm.bind (Wm.bind (Wm.bind (M_fewest_fast (C := C) x_house_17) fun z37 => (Wm.ret (Dq.mk (K := K) (ToQ.toQ z37)))) fun z38 => (Wm.bind (Wm.ret (Dq.mk (K := K) (ToQ.toQ x_many_18))) fun z39 => (M_law_is z38 z39))) fun b40 => Wm.ret (!b40))) fun b42 => cond b42 (Wm.bind (Wm.ret false) fun r => Wm.ret (Ctl.rt r)) (Wm.ret (Ctl.nx ()))) l50 ()) fun c9 => Ctl.go c9 Wm.ret fun s43 => (Wm.bind (Wm.bind (Wm.bind (hsM C (3 : Int) ([((0 : Int), (1 : Int)), ((0 : Int), (2 : Int)), ((1 : Int), (2 : Int))] : (List (Int × Int)))) fun z44 => (M_smaller (C := C) z44)) fun z45 => (Wm.ret (z45.isNone))) fun b49 => cond b49 (Wm.bind (Wm.bind (hsM C (2 : Int) ([] : (List (Int × Int)))) fun z46 => (M_smaller (C := C) z46)) fun z47 => (Wm.bind (Wm.ret (some (Sum.inr (("room" : Str), (0 : Int)) : ((Tr Str Int Int) ⊕ (Str × Int))))) fun z48 => (Wm.grd (SeqAt.shaped (ToQ.toQ z47) = true ∧ SeqAt.shaped (ToQ.toQ z48) = true) (PyData.eqv (ToQ.toQ z47) (ToQ.toQ z48))))) (Wm.ret false))

end Cl
/-! NL26: the law. -/
namespace Cl
open PySem L2 Zw RZ
theorem steps_pln {r : Int} {ds : List (Int × Int)} : ∀ s ∈ stepsL r ds, Pln 2 (ToQ.toQ s.1) := fun s m => by
  unfold stepsL at m
  rcases List.mem_append.mp m with m | m
  · rcases List.mem_append.mp m with m | m
    · obtain ⟨d, _, rfl⟩ := List.mem_map.mp m
      show Pln 2 (.tuple [.str "door", .int d.1, .int d.2])
      simp [Pln]
      decide +kernel
    · obtain ⟨d, _, rfl⟩ := List.mem_map.mp m
      show Pln 2 (.tuple [.str "one", .int d.1, .int d.2])
      simp [Pln]
      decide +kernel
  · obtain ⟨x, _, rfl⟩ := List.mem_map.mp m
    show Pln 2 (.tuple [.str "room", .int x])
    simp [Pln]
    decide +kernel
theorem sma_pln (r : Int) (ds : List (Int × Int)) : Pln 2 (ToQ.toQ (smaD r ds)) := by
  cases e : smaD r ds with
  | none => exact trivial
  | some x =>
    unfold smaD at e
    have m := List.mem_of_mem_head? e
    obtain ⟨s, hs, rfl⟩ := List.mem_map.mp m
    exact steps_pln s (List.mem_filter.mp hs).1
theorem hok_tri : HOk' 3 [(0, 1), (0, 2), (1, 2)] := ⟨by decide, by decide, by unfold DoorOk; decide, by decide, by decide⟩
theorem hok_two : HOk' 2 [] := ⟨by decide, by decide, by unfold DoorOk; decide, by decide, by decide⟩
theorem steps_tri : stepsL 3 [(0, 1), (0, 2), (1, 2)] = [(sDoor (0, 1), (3, [(0, 2), (1, 2)])), (sDoor (0, 2), (3, [(0, 1), (1, 2)])), (sDoor (1, 2), (3, [(0, 1), (0, 2)])), (sOne (0, 1), (2, [(0, 1)])), (sOne (0, 2), (2, [(0, 1)])), (sOne (1, 2), (2, [(0, 1)])), (sRoom 0, (2, [(0, 1)])), (sRoom 1, (2, [(0, 1)])), (sRoom 2, (2, [(0, 1)]))] := by
  unfold stepsL oneD oneKV withoutD
  simp only [sortO_ins]
  unfold stepB keyB
  simp only [sortO_ins]
  decide +kernel
theorem steps_two : stepsL 2 [] = [(sRoom 0, (1, [])), (sRoom 1, (1, []))] := by
  unfold stepsL oneD oneKV withoutD
  simp only [sortO_ins]
  decide +kernel
theorem sma_tri : smaD 3 [(0, 1), (0, 2), (1, 2)] = none := by
  unfold smaD
  have h0 : wholeV 3 [(0, 1), (0, 2), (1, 2)] = 2 := whole_by (by decide +kernel)
  have h1 : ∀ s ∈ stepsL 3 [(0, 1), (0, 2), (1, 2)], wholeV s.2.1 s.2.2 = 1 := by
    rw [steps_tri]
    intro s m
    have : ∀ s ∈ [(sDoor (0, 1), ((3 : Int), [((0 : Int), (2 : Int)), (1, 2)])), (sDoor (0, 2), (3, [(0, 1), (1, 2)])), (sDoor (1, 2), (3, [(0, 1), (0, 2)])), (sOne (0, 1), (2, [(0, 1)])), (sOne (0, 2), (2, [(0, 1)])), (sOne (1, 2), (2, [(0, 1)])), (sRoom 0, (2, [(0, 1)])), (sRoom 1, (2, [(0, 1)])), (sRoom 2, (2, [(0, 1)]))], chkV s.2.1 s.2.2 1 = true := by decide +kernel
    exact whole_by (this s m)
  rw [List.filter_eq_nil_iff.mpr fun s m => by unfold goodS; rw [h1 s m, h0]; decide]
  rfl
theorem sma_two : smaD 2 [] = some (sRoom 0) := by
  unfold smaD
  have h0 : wholeV 2 [] = 0 := whole_by (by decide +kernel)
  have h1 : wholeV 1 [] = 0 := whole_by (by decide +kernel)
  rw [steps_two]
  have g : goodS 2 [] ((1 : Int), ([] : List (Int × Int))) = true := by unfold goodS; exact decide_eq_true (h1.trans h0.symm)
  simp only [List.filter_cons, g]
  rfl
theorem law_true {K : PySem.W.Frag} {C : Addr} (s : Scr K) : Gd (M_law (K := K) (C := C) s) (· = true) := by
  unfold M_law
  refine Gd.bind (Q := fun _ => True) (by unfold M_law_hand; exact Gd.ret trivial) fun hd _ => ?_
  refine Gd.bindE (Gd.bindE (Gd.ret rfl) (Gd.grd (by decide) rfl)) ?_
  refine Gd.forW (fun _ _ => True) (fun _ => False) (fun _ => False) trivial (fun _ _ _ _ _ => ?_) (fun _ _ => ?_) (fun _ z => z.elim) fun _ z => z.elim
  · refine Gd.bind (gd_house9 (by decide)) fun p hp => ?_
    obtain ⟨r, ds⟩ := p
    have hp1 : 1 ≤ r := hp.1
    have hp2 : r ≤ 6 := hp.2.1
    have ok : HOk' r ds := ⟨hp1, by omega, hp.2.2⟩
    have fast : ∀ p : Int × List (Int × Int), HOk' p.1 p.2 → Gd (Wm.bind (M_law_nears p) fun z => M_law_fast z) (· = 1 + wholeV p.1 p.2) := fun p okp => Gd.bindE (gd_nears9 ⟨okp.1, okp.2.1⟩) (gd_law_fast okp)
    refine Gd.bindE (a := (Hs.mk r ds : Hs C)) (by unfold M_law_made hsM; exact Gd.grd ok rfl) (Gd.bindE (fast (r, ds) ok) ?_)
    refine Gd.bindE (a := Ls.mk (((stepsL r ds).filter fun s => goodS r ds s.2).map fun s => s.1)) (Gd.bindE (Gd.bindE (gd_law_steps ok) (Gd.ret rfl)) (Gd.lcE (fun s => goodS r ds s.2) (fun s => s.1) (by have := stepsL_len ok; show (stepsL r ds).length ≤ _; omega) (fun s m => Gd.bindE (fast s.2 (stepsL_ok ok s m)) (Gd.bindE (Gd.ret rfl) (Gd.ret ?_))) (fun _ _ _ => Gd.ret rfl) rfl)) ?_
    · unfold goodS
      rw [decide_eq_decide]
      show 1 + wholeV s.2.1 s.2.2 = 1 + wholeV r ds ↔ _
      omega
    refine Gd.bindE (a := false) (Gd.bindE (a := false) (Gd.bindE (a := true) (Gd.bindE (a := Dq.mk (ToQ.toQ (smaD r ds))) (Gd.bindE (gd_smaller (h := (Hs.mk r ds : Hs C)) ok) (Gd.ret rfl)) (Gd.bindE (a := Dq.mk (ToQ.toQ (smaD r ds))) (Gd.bindE (Gd.ret rfl) (Gd.cond (fun hc => ?_) fun hc => ?_)) ?_)) (Gd.ret rfl)) (Gd.condF (Gd.bindE (a := true) (Gd.bindE (a := Dq.mk (.int (wholeV r ds + 1))) (Gd.bindE (gd_fewest_fast (h := (Hs.mk r ds : Hs C)) ok) (Gd.ret rfl)) (Gd.bindE (a := Dq.mk (.int (wholeV r ds + 1))) (Gd.ret ?_) ?_)) (Gd.ret rfl)))) (Gd.condF (Gd.ret trivial))
    · have hc := of_decide_eq_true hc
      obtain ⟨x, hx⟩ : ∃ x, smaD r ds = some x := by
        unfold smaD
        cases e : ((stepsL r ds).filter fun s => goodS r ds s.2).map fun s => s.1 with
        | nil => rw [e] at hc; exact absurd hc (by decide)
        | cons x l => exact ⟨x, rfl⟩
      refine Gd.bindE (Gd.opt (d := x) ?_ rfl) (Gd.ret (by rw [hx]; rfl))
      unfold smaD at hx
      show L2.atI (((stepsL r ds).filter fun s => goodS r ds s.2).map fun s => s.1) 0 = some x
      cases e : ((stepsL r ds).filter fun s => goodS r ds s.2).map fun s => s.1 with
      | nil => rw [e] at hx; cases hx
      | cons y l => rw [e] at hx; cases hx; unfold L2.atI ixN; rw [if_pos (by decide), if_pos (by simp)]; rfl
    · have hc := of_decide_eq_false hc
      refine Gd.ret ?_
      have hx : smaD r ds = none := by
        unfold smaD
        cases e : ((stepsL r ds).filter fun s => goodS r ds s.2).map fun s => s.1 with
        | nil => rfl
        | cons x l => rw [e] at hc; exact absurd (by show (0 : Int) < ((x :: l).length : Int); simp) hc
      rw [hx]; rfl
    · unfold M_law_is
      exact Gd.grd ⟨rfl, sma_pln r ds⟩ rfl
    · show Dq.mk (PyData.int (1 + wholeV r ds)) = _
      rw [Int.add_comm]
    · unfold M_law_is
      exact Gd.grd ⟨rfl, by simp [Pln]⟩ rfl
  · refine Gd.bindE (a := true) (Gd.bindE (Gd.bindE (by unfold hsM; exact Gd.grd hok_tri rfl) (gd_smaller (h := (Hs.mk 3 [(0, 1), (0, 2), (1, 2)] : Hs C)) hok_tri)) (Gd.ret (by rw [sma_tri]; rfl))) (Gd.condT ?_)
    refine Gd.bindE (Gd.bindE (by unfold hsM; exact Gd.grd hok_two rfl) (gd_smaller (h := (Hs.mk 2 [] : Hs C)) hok_two)) (Gd.bindE (Gd.ret rfl) ?_)
    rw [sma_two]
    exact Gd.grd (by constructor <;> decide +kernel) (by decide +kernel)
end Cl
namespace Cl
open PySem L2 Zw RZ
def top (i : Nat) : Stmt := PySem.Challenge.pw_sweptrooms_k26_whole_smaller.main.body.getD i (.Pass ⟨0, 0, 0, 0⟩)
abbrev st_is_integer : Stmt := top 4
theorem sc_is_integer : FnScope ["thing"] ["thing"] (defScope st_is_integer) := ⟨rfl, rfl, rfl, by decide +kernel, rfl, by decide +kernel, by decide +kernel⟩

abbrev st_is_within : Stmt := top 5
theorem sc_is_within : FnScope ["thing", "low", "high"] ["thing", "low", "high"] (defScope st_is_within) := ⟨rfl, rfl, rfl, by decide +kernel, rfl, by decide +kernel, by decide +kernel⟩

abbrev st_is_tuple : Stmt := top 6
theorem sc_is_tuple : FnScope ["thing", "least", "most"] ["thing", "least", "most"] (defScope st_is_tuple) := ⟨rfl, rfl, rfl, by decide +kernel, rfl, by decide +kernel, by decide +kernel⟩

abbrev st_is_door : Stmt := top 9
theorem sc_is_door : FnScope ["rooms", "thing", "room"] ["rooms", "thing"] (defScope st_is_door) := ⟨rfl, rfl, rfl, by decide +kernel, rfl, by decide +kernel, by decide +kernel⟩

abbrev st_are_doors : Stmt := top 10
theorem sc_are_doors : FnScope ["rooms", "thing", "door", "one", "other"] ["rooms", "thing"] (defScope st_are_doors) := ⟨rfl, rfl, rfl, by decide +kernel, rfl, by decide +kernel, by decide +kernel⟩

abbrev st_House___init__ : Stmt := inClass (top 11) 0
theorem sc_House___init__ : FnScope ["self", "rooms", "doors"] ["self", "rooms", "doors"] (defScope st_House___init__) := ⟨rfl, rfl, rfl, by decide +kernel, rfl, by decide +kernel, by decide +kernel⟩

abbrev st_besides : Stmt := top 12
theorem sc_besides : FnScope ["house", "found", "room", "a", "b", "row"] ["house"] (defScope st_besides) := ⟨rfl, rfl, rfl, by decide +kernel, rfl, by decide +kernel, by decide +kernel⟩

abbrev st_nears : Stmt := top 13
theorem sc_nears : FnScope ["house", "room", "row"] ["house"] (defScope st_nears) := ⟨rfl, rfl, rfl, by decide +kernel, rfl, by decide +kernel, by decide +kernel⟩

abbrev st_reached_by : Stmt := top 15
theorem sc_reached_by : FnScope ["house", "gone", "room", "found", "met", "waiting", "here", "other"] ["house", "gone", "room"] (defScope st_reached_by) := ⟨rfl, rfl, rfl, by decide +kernel, rfl, by decide +kernel, by decide +kernel⟩

abbrev st_lots_of : Stmt := top 16
theorem sc_lots_of : FnScope ["rooms", "found", "room", "lot", "size"] ["rooms"] (defScope st_lots_of) := ⟨rfl, rfl, rfl, by decide +kernel, rfl, by decide +kernel, by decide +kernel⟩

abbrev st_best_rows : Stmt := top 17
theorem sc_best_rows : FnScope ["house", "found", "lot", "some", "room", "rest", "other", "many", "row"] ["house"] (defScope st_best_rows) := ⟨rfl, rfl, rfl, by decide +kernel, rfl, by decide +kernel, by decide +kernel⟩

abbrev st_best_row : Stmt := top 18
theorem sc_best_row : FnScope ["house"] ["house"] (defScope st_best_row) := ⟨rfl, rfl, rfl, by decide +kernel, rfl, by decide +kernel, by decide +kernel⟩

abbrev st_fewest_fast : Stmt := top 19
theorem sc_fewest_fast : FnScope ["house"] ["house"] (defScope st_fewest_fast) := ⟨rfl, rfl, rfl, by decide +kernel, rfl, by decide +kernel, by decide +kernel⟩

abbrev st_less : Stmt := top 21
theorem sc_less : FnScope ["house", "a", "b", "door"] ["house", "a", "b"] (defScope st_less) := ⟨rfl, rfl, rfl, by decide +kernel, rfl, by decide +kernel, by decide +kernel⟩

abbrev st_numbered : Stmt := top 22
theorem sc_numbered : FnScope ["room", "gone"] ["room", "gone"] (defScope st_numbered) := ⟨rfl, rfl, rfl, by decide +kernel, rfl, by decide +kernel, by decide +kernel⟩

abbrev st_without : Stmt := top 23
theorem sc_without : FnScope ["house", "a", "doors", "one", "other"] ["house", "a"] (defScope st_without) := ⟨rfl, rfl, rfl, by decide +kernel, rfl, by decide +kernel, by decide +kernel⟩

abbrev st_one_of : Stmt := top 24
theorem sc_one_of : FnScope ["house", "a", "b", "doors", "one", "other", "pair", "room"] ["house", "a", "b"] (defScope st_one_of) := ⟨rfl, rfl, rfl, by decide +kernel, rfl, by decide +kernel, by decide +kernel⟩

abbrev st_smaller : Stmt := top 25
theorem sc_smaller : FnScope ["house", "due", "a", "b"] ["house"] (defScope st_smaller) := ⟨rfl, rfl, rfl, by decide +kernel, rfl, by decide +kernel, by decide +kernel⟩

abbrev st_law_hand : Stmt := top 27
theorem sc_law_hand : FnScope ["script", "cells", "cell"] ["script"] (defScope st_law_hand) := ⟨rfl, rfl, rfl, by decide +kernel, rfl, by decide +kernel, by decide +kernel⟩

abbrev st_law_draw : Stmt := top 28
theorem sc_law_draw : FnScope ["hand", "many", "cell", "digit", "number"] ["hand", "many"] (defScope st_law_draw) := ⟨rfl, rfl, rfl, by decide +kernel, rfl, by decide +kernel, by decide +kernel⟩

abbrev st_law_is : Stmt := top 29
theorem sc_law_is : FnScope ["one", "other", "mine", "yours", "key"] ["one", "other"] (defScope st_law_is) := ⟨rfl, rfl, rfl, by decide +kernel, rfl, by decide +kernel, by decide +kernel⟩

abbrev st_law_house : Stmt := top 30
theorem sc_law_house : FnScope ["hand", "most", "rooms", "found", "often", "b", "some", "a"] ["hand", "most"] (defScope st_law_house) := ⟨rfl, rfl, rfl, by decide +kernel, rfl, by decide +kernel, by decide +kernel⟩

abbrev st_law_nears : Stmt := top 31
theorem sc_law_nears : FnScope ["parts", "rooms", "doors", "found", "room", "some", "one"] ["parts"] (defScope st_law_nears) := ⟨rfl, rfl, rfl, by decide +kernel, rfl, by decide +kernel, by decide +kernel⟩

abbrev st_law_made : Stmt := top 32
theorem sc_law_made : FnScope ["parts"] ["parts"] (defScope st_law_made) := ⟨rfl, rfl, rfl, by decide +kernel, rfl, by decide +kernel, by decide +kernel⟩

abbrev st_law_lots : Stmt := top 33
theorem sc_law_lots : FnScope ["rooms", "found", "room", "lot", "size"] ["rooms"] (defScope st_law_lots) := ⟨rfl, rfl, rfl, by decide +kernel, rfl, by decide +kernel, by decide +kernel⟩

abbrev st_law_by : Stmt := top 34
theorem sc_law_by : FnScope ["nears_v", "gone", "room", "found", "met", "waiting", "other"] ["nears_v", "gone", "room"] (defScope st_law_by) := ⟨rfl, rfl, rfl, by decide +kernel, rfl, by decide +kernel, by decide +kernel⟩

abbrev st_law_fast : Stmt := top 35
theorem sc_law_fast : FnScope ["nears_v", "best", "lot", "some", "room", "rest", "other"] ["nears_v"] (defScope st_law_fast) := ⟨rfl, rfl, rfl, by decide +kernel, rfl, by decide +kernel, by decide +kernel⟩

abbrev st_law_one : Stmt := top 36
theorem sc_law_one : FnScope ["parts", "a", "b", "found", "one", "other", "pair", "room"] ["parts", "a", "b"] (defScope st_law_one) := ⟨rfl, rfl, rfl, by decide +kernel, rfl, by decide +kernel, by decide +kernel⟩

abbrev st_law_steps : Stmt := top 37
theorem sc_law_steps : FnScope ["parts", "found", "a", "b", "door", "gone", "doors"] ["parts"] (defScope st_law_steps) := ⟨rfl, rfl, rfl, by decide +kernel, rfl, by decide +kernel, by decide +kernel⟩

abbrev st_law : Stmt := top 38
theorem sc_law : FnScope ["script", "hand", "turn", "parts", "house", "many", "good", "step", "less_v"] ["script"] (defScope st_law) := ⟨rfl, rfl, rfl, by decide +kernel, rfl, by decide +kernel, by decide +kernel⟩

structure Ctx (K : PySem.W.Frag) (mg : Str → Option Value) where
  n_abs : mg "abs" = none
  n_all : mg "all" = none
  n_bool : mg "bool" = none
  n_dict : mg "dict" = none
  n_enumerate : mg "enumerate" = none
  n_int : mg "int" = none
  n_isinstance : mg "isinstance" = none
  n_len : mg "len" = none
  n_list : mg "list" = none
  n_max : mg "max" = none
  n_min : mg "min" = none
  n_range : mg "range" = none
  n_sorted : mg "sorted" = none
  n_tuple : mg "tuple" = none
  n_zip : mg "zip" = none
  c_MOST_ROOMS : ∃ t, mg "MOST_ROOMS" = some (.int 9 t)
  C_House : Addr
  m_House : mg "House" = some (.ref C_House)
  cl_House : Cls K C_House
  na_House_rooms : NoAttr K C_House "rooms"
  na_House_doors : NoAttr K C_House "doors"
  na_House_looked : NoAttr K C_House "looked"
  a_is_integer : Addr
  fd_is_integer : FuncData
  F_is_integer : Fun K "is_integer" "is_integer" st_is_integer a_is_integer fd_is_integer
  b_is_integer : Binds K fd_is_integer ["thing"] []
  m_is_integer : mg "is_integer" = some (.ref a_is_integer)
  a_is_within : Addr
  fd_is_within : FuncData
  F_is_within : Fun K "is_within" "is_within" st_is_within a_is_within fd_is_within
  b_is_within : Binds K fd_is_within ["thing", "low", "high"] []
  m_is_within : mg "is_within" = some (.ref a_is_within)
  a_is_tuple : Addr
  fd_is_tuple : FuncData
  F_is_tuple : Fun K "is_tuple" "is_tuple" st_is_tuple a_is_tuple fd_is_tuple
  b_is_tuple : Binds K fd_is_tuple ["thing", "least", "most"] []
  m_is_tuple : mg "is_tuple" = some (.ref a_is_tuple)
  a_is_door : Addr
  fd_is_door : FuncData
  F_is_door : Fun K "is_door" "is_door" st_is_door a_is_door fd_is_door
  b_is_door : Binds K fd_is_door ["rooms", "thing"] []
  m_is_door : mg "is_door" = some (.ref a_is_door)
  a_are_doors : Addr
  fd_are_doors : FuncData
  F_are_doors : Fun K "are_doors" "are_doors" st_are_doors a_are_doors fd_are_doors
  b_are_doors : Binds K fd_are_doors ["rooms", "thing"] []
  m_are_doors : mg "are_doors" = some (.ref a_are_doors)
  a_House___init__ : Addr
  fd_House___init__ : FuncData
  F_House___init__ : Fun K "__init__" "House.__init__" st_House___init__ a_House___init__ fd_House___init__
  b_House___init__ : Binds K fd_House___init__ ["self", "rooms", "doors"] []
  mk_House : Mk K C_House a_House___init__
  a_besides : Addr
  fd_besides : FuncData
  F_besides : Fun K "besides" "besides" st_besides a_besides fd_besides
  b_besides : Binds K fd_besides ["house"] []
  m_besides : mg "besides" = some (.ref a_besides)
  a_nears : Addr
  fd_nears : FuncData
  F_nears : Fun K "nears" "nears" st_nears a_nears fd_nears
  b_nears : Binds K fd_nears ["house"] []
  m_nears : mg "nears" = some (.ref a_nears)
  a_reached_by : Addr
  fd_reached_by : FuncData
  F_reached_by : Fun K "reached_by" "reached_by" st_reached_by a_reached_by fd_reached_by
  b_reached_by : Binds K fd_reached_by ["house", "gone", "room"] []
  m_reached_by : mg "reached_by" = some (.ref a_reached_by)
  a_lots_of : Addr
  fd_lots_of : FuncData
  F_lots_of : Fun K "lots_of" "lots_of" st_lots_of a_lots_of fd_lots_of
  b_lots_of : Binds K fd_lots_of ["rooms"] []
  m_lots_of : mg "lots_of" = some (.ref a_lots_of)
  a_best_rows : Addr
  fd_best_rows : FuncData
  F_best_rows : Fun K "best_rows" "best_rows" st_best_rows a_best_rows fd_best_rows
  b_best_rows : Binds K fd_best_rows ["house"] []
  m_best_rows : mg "best_rows" = some (.ref a_best_rows)
  a_best_row : Addr
  fd_best_row : FuncData
  F_best_row : Fun K "best_row" "best_row" st_best_row a_best_row fd_best_row
  b_best_row : Binds K fd_best_row ["house"] []
  m_best_row : mg "best_row" = some (.ref a_best_row)
  a_fewest_fast : Addr
  fd_fewest_fast : FuncData
  F_fewest_fast : Fun K "fewest_fast" "fewest_fast" st_fewest_fast a_fewest_fast fd_fewest_fast
  b_fewest_fast : Binds K fd_fewest_fast ["house"] []
  m_fewest_fast : mg "fewest_fast" = some (.ref a_fewest_fast)
  a_less : Addr
  fd_less : FuncData
  F_less : Fun K "less" "less" st_less a_less fd_less
  b_less : Binds K fd_less ["house", "a", "b"] []
  m_less : mg "less" = some (.ref a_less)
  a_numbered : Addr
  fd_numbered : FuncData
  F_numbered : Fun K "numbered" "numbered" st_numbered a_numbered fd_numbered
  b_numbered : Binds K fd_numbered ["room", "gone"] []
  m_numbered : mg "numbered" = some (.ref a_numbered)
  a_without : Addr
  fd_without : FuncData
  F_without : Fun K "without" "without" st_without a_without fd_without
  b_without : Binds K fd_without ["house", "a"] []
  m_without : mg "without" = some (.ref a_without)
  a_one_of : Addr
  fd_one_of : FuncData
  F_one_of : Fun K "one_of" "one_of" st_one_of a_one_of fd_one_of
  b_one_of : Binds K fd_one_of ["house", "a", "b"] []
  m_one_of : mg "one_of" = some (.ref a_one_of)
  a_smaller : Addr
  fd_smaller : FuncData
  F_smaller : Fun K "smaller" "smaller" st_smaller a_smaller fd_smaller
  b_smaller : Binds K fd_smaller ["house"] []
  m_smaller : mg "smaller" = some (.ref a_smaller)
  a_law_hand : Addr
  fd_law_hand : FuncData
  F_law_hand : Fun K "_law_hand" "_law_hand" st_law_hand a_law_hand fd_law_hand
  b_law_hand : Binds K fd_law_hand ["script"] []
  m_law_hand : mg "_law_hand" = some (.ref a_law_hand)
  a_law_draw : Addr
  fd_law_draw : FuncData
  F_law_draw : Fun K "_law_draw" "_law_draw" st_law_draw a_law_draw fd_law_draw
  b_law_draw : Binds K fd_law_draw ["hand", "many"] []
  m_law_draw : mg "_law_draw" = some (.ref a_law_draw)
  a_law_is : Addr
  fd_law_is : FuncData
  F_law_is : Fun K "_law_is" "_law_is" st_law_is a_law_is fd_law_is
  b_law_is : Binds K fd_law_is ["one", "other"] []
  m_law_is : mg "_law_is" = some (.ref a_law_is)
  a_law_house : Addr
  fd_law_house : FuncData
  F_law_house : Fun K "_law_house" "_law_house" st_law_house a_law_house fd_law_house
  b_law_house : Binds K fd_law_house ["hand", "most"] []
  m_law_house : mg "_law_house" = some (.ref a_law_house)
  a_law_nears : Addr
  fd_law_nears : FuncData
  F_law_nears : Fun K "_law_nears" "_law_nears" st_law_nears a_law_nears fd_law_nears
  b_law_nears : Binds K fd_law_nears ["parts"] []
  m_law_nears : mg "_law_nears" = some (.ref a_law_nears)
  a_law_made : Addr
  fd_law_made : FuncData
  F_law_made : Fun K "_law_made" "_law_made" st_law_made a_law_made fd_law_made
  b_law_made : Binds K fd_law_made ["parts"] []
  m_law_made : mg "_law_made" = some (.ref a_law_made)
  a_law_lots : Addr
  fd_law_lots : FuncData
  F_law_lots : Fun K "_law_lots" "_law_lots" st_law_lots a_law_lots fd_law_lots
  b_law_lots : Binds K fd_law_lots ["rooms"] []
  m_law_lots : mg "_law_lots" = some (.ref a_law_lots)
  a_law_by : Addr
  fd_law_by : FuncData
  F_law_by : Fun K "_law_by" "_law_by" st_law_by a_law_by fd_law_by
  b_law_by : Binds K fd_law_by ["nears_v", "gone", "room"] []
  m_law_by : mg "_law_by" = some (.ref a_law_by)
  a_law_fast : Addr
  fd_law_fast : FuncData
  F_law_fast : Fun K "_law_fast" "_law_fast" st_law_fast a_law_fast fd_law_fast
  b_law_fast : Binds K fd_law_fast ["nears_v"] []
  m_law_fast : mg "_law_fast" = some (.ref a_law_fast)
  a_law_one : Addr
  fd_law_one : FuncData
  F_law_one : Fun K "_law_one" "_law_one" st_law_one a_law_one fd_law_one
  b_law_one : Binds K fd_law_one ["parts", "a", "b"] []
  m_law_one : mg "_law_one" = some (.ref a_law_one)
  a_law_steps : Addr
  fd_law_steps : FuncData
  F_law_steps : Fun K "_law_steps" "_law_steps" st_law_steps a_law_steps fd_law_steps
  b_law_steps : Binds K fd_law_steps ["parts"] []
  m_law_steps : mg "_law_steps" = some (.ref a_law_steps)
  a_law : Addr
  fd_law : FuncData
  F_law : Fun K "law" "law" st_law a_law fd_law
  b_law : Binds K fd_law ["script"] []
  m_law : mg "law" = some (.ref a_law)

section
variable {P : Program} {w : World} {K : PySem.W.Frag} {mg : Str → Option Value} {base : Heap}
theorem ok_is_integer (T : Ctx K mg) : FnOk P w K mg base CX0 1 T.a_is_integer T.fd_is_integer ["thing"] (Sp1 (fun (_ : Int) => True) (fun _ (d : Bool) => d = true)) := by
  refine T.F_is_integer.ok sc_is_integer (fun vs H Q E h => h.len) (fun cdv A outer s H vs Q E hr h => ?_)
  obtain ⟨v, a, rfl, ra, -, k⟩ := h
  refine ⟨_, (pss_one (ps_ret (pe_and (pe_callB (k_isi (K := K) rfl) (by rfl) T.n_isinstance (by decide +kernel) (pa_cons (pv 0) (pa_cons (pe_bltn (v := .ty "int") (u := .type "int") (by rfl) T.n_int (by decide +kernel) rfl) pa_nil))) (pe_one (pe_not (pe_callB (k_isi (K := K) rfl) (by rfl) T.n_isinstance (by decide +kernel) (pa_cons (pv 0) (pa_cons (pe_bltn (v := .ty "bool") (u := .type "bool") (by rfl) T.n_bool (by decide +kernel) rfl) pa_nil)))))))), ?_⟩
  exact s_retE (ev_andV (ev_isi (b := true) (ev_var rfl ra) (by decide +kernel)) fun _ => ev_not (ev_isi (b := false) (ev_var rfl ra) (by decide +kernel))) fun v H1 g r => k _ v H1 rfl g r

theorem ok_is_within (T : Ctx K mg) : FnOk P w K mg base CX0 2 T.a_is_within T.fd_is_within ["thing", "low", "high"] (Sp3 (fun (_ _ _ : Int) => True) (fun t lo hi (d : Bool) => d = (decide (lo ≤ t) && decide (t ≤ hi)))) := by
  have G_is_integer := ok_is_integer (P := P) (w := w) (base := base) T
  refine T.F_is_within.ok sc_is_within (fun vs H Q E h => h.len) (fun cdv A outer s H vs Q E hr h => ?_)
  obtain ⟨v, v', v'', a, b, c, rfl, ra, rb, rc, -, k⟩ := h
  refine ⟨_, (pss_one (ps_ret (pe_and (pe_call (G_is_integer) (hr.mono (by first | decide | omega)) (by rfl) T.m_is_integer T.F_is_integer.kp T.b_is_integer .nil pass0 (pa_cons (pv 0) pa_nil)) (pe_one (pe_chain op_le op_le (pv 1) (pv 0) (pv 2)))))), ?_⟩
  exact s_retE (ev_andV (a := true) (ed_call1 (ev_var rfl ra) (fun _ _ => trivial) (fun _ _ _ p => p)) fun _ => ev_chain (ev_var rfl rb) (ev_var rfl ra) (ev_var rfl rc) ro_le ro_le) fun v H1 g r => k _ v H1 (by simp) g r

theorem ok_is_tuple (T : Ctx K mg) : FnOk P w K mg base CX0 1 T.a_is_tuple T.fd_is_tuple ["thing", "least", "most"] (Sp3 (fun (_ : TupN) (_ _ : Int) => True) (fun t lo hi (d : Bool) => d = (decide (lo ≤ (t.n : Int)) && decide ((t.n : Int) ≤ hi)))) := by
  refine T.F_is_tuple.ok sc_is_tuple (fun vs H Q E h => h.len) (fun cdv A outer s H vs Q E hr h => ?_)
  obtain ⟨v, v', v'', a, b, c, rfl, ra, rb, rc, -, k⟩ := h
  refine ⟨_, (pss_one (ps_ret (pe_and (pe_callB (k_isi (K := K) rfl) (by rfl) T.n_isinstance (by decide +kernel) (pa_cons (pv 0) (pa_cons (pe_bltn (v := .ty "tuple") (u := .type "tuple") (by rfl) T.n_tuple (by decide +kernel) rfl) pa_nil))) (pe_one (pe_chain op_le op_le (pv 1) (pe_callB (k_len (K := K) rfl) (by rfl) T.n_len (by decide +kernel) (pa_cons (pv 0) pa_nil)) (pv 2)))))), ?_⟩
  exact s_retE (ev_andV (ev_isi (b := true) (ev_var rfl ra) (by decide +kernel)) fun _ => ev_chain (ev_var rfl rb) (ev_lenN (ev_var rfl ra)) (ev_var rfl rc) ro_le ro_le) fun v H1 g r => k _ v H1 (by simp) g r

theorem ok_is_door (T : Ctx K mg) : FnOk P w K mg base CX0 3 T.a_is_door T.fd_is_door ["rooms", "thing"] (Sp2 (fun (rooms : Int) (t : Int × Int) => DoorOk rooms t) (fun _ _ (d : Bool) => d = true)) := by
  have G_is_tuple := ok_is_tuple (P := P) (w := w) (base := base) T
  have G_is_within := ok_is_within (P := P) (w := w) (base := base) T
  refine T.F_is_door.ok sc_is_door (fun vs H Q E h => h.len) (fun cdv A outer s H vs Q E hr h => ?_)
  obtain ⟨v, v', rooms, t, rfl, ra, rb, ⟨h1, h2, h3⟩, k⟩ := h
  refine ⟨_, (pss_cons (ps_if (PW.pt (pw_or (pt_not (pt_val (pe_call (G_is_tuple) (hr.mono (by first | decide | omega)) (by rfl) T.m_is_tuple T.F_is_tuple.kp T.b_is_tuple .nil pass0 (pa_cons (pv 1) (pa_cons pe_int (pa_cons pe_int pa_nil)))))) (pw_or1 (pt_not (pt_val (pe_callB (k_all (K := K) rfl rfl) (by rfl) T.n_all (by decide +kernel) (pa_cons (pe_lc (own := [("room", 2)]) rfl sc_is_door.nd (k_pi_tup (K := K) rfl (pv 1)) (blkOk_by (by kernel_rfl)) (fun _ _ _ _ _ => (pg_name (i := 2) sc_is_door.nd rfl (Or.inl rfl) (Or.inr rfl))) (fun _ _ _ _ _ => pts_nil) (fun _ _ _ _ _ => (pe_call (G_is_within) (hr.mono (by first | decide | omega)) (by rfl) T.m_is_within T.F_is_within.kp T.b_is_within .nil pass0 (pa_cons (pv 2) (pa_cons pe_int (pa_cons (pe_op op_sub (pv 0) pe_int) pa_nil)))))) pa_nil))))))) (pss_one (ps_ret pe_bl)) pss_nil)
      (pss_one (ps_ret (pe_cmpR op_lt (pe_ix (k_ix_tup (K := K) rfl) (pv 1) pe_int (fun _ _ => rfl)) (pe_ix (k_ix_tup (K := K) rfl) (pv 1) pe_int (fun _ _ => rfl)) (nomark _))))), ?_⟩
  refine q_when (b := !true || !((List.map (fun _ => true) [t.1, t.2]).all id)) (et_or (et_not (et_B (ed_call3 (ev_cast (b := TupN.mk 2) (ev_var rfl rb) fun v H' r => tupN_pair r) ev_int ev_int (fun _ _ _ _ _ _ => trivial) (fun a b c d ea eb ec p => by subst ea eb ec; exact p)))) fun _ => et_not (et_B (ev_all (el_mapN (src_tup (ev_cast (b := [t.1, t.2]) (ev_var rfl rb) fun v H' r => pair_list r)).src (by simp) (fun _ => rfl) fun d x H' m g rx =>
      ed_call3 (ev_var rfl rx) ev_int (ev_sub (ev_var rfl (Py.mono g ra)) ev_int) (fun _ _ _ _ _ _ => trivial) (fun a b c d' ea eb ec p => by subst ea eb ec; simp at m; rw [p]; rcases m with m | m <;> subst m <;> simp <;> omega))))) (fun hb => absurd hb (by simp)) fun _ H1 g1 => ?_
  exact s_retE (ev_lt (ev_fst (ev_var rfl (Py.mono g1 rb))) (ev_snd (ev_var rfl (Py.mono g1 rb)))) fun v H2 g r => k _ v H2 (by simp; omega) (g1.trans g) r

theorem ok_are_doors (T : Ctx K mg) : FnOk P w K mg base CX0 4 T.a_are_doors T.fd_are_doors ["rooms", "thing"] (Sp2 (fun (rooms : Int) (ds : List (Int × Int)) => DoorsOk rooms ds) (fun _ _ (d : Bool) => d = true)) := by
  have G_is_door := ok_is_door (P := P) (w := w) (base := base) T
  refine T.F_are_doors.ok sc_are_doors (fun vs H Q E h => h.len) (fun cdv A outer s H vs Q E hr h => ?_)
  obtain ⟨v, v', rooms, ds, rfl, ra, rb, ⟨h1, h2, h3⟩, k⟩ := h
  refine ⟨_, (pss_cons (ps_if (PW.pt (pw_or (pt_not (pt_val (pe_callB (k_isi (K := K) rfl) (by rfl) T.n_isinstance (by decide +kernel) (pa_cons (pv 1) (pa_cons (pe_bltn (v := .ty "tuple") (u := .type "tuple") (by rfl) T.n_tuple (by decide +kernel) rfl) pa_nil))))) (pw_or1 (pt_not (pt_val (pe_callB (k_all (K := K) rfl rfl) (by rfl) T.n_all (by decide +kernel) (pa_cons (pe_lc (own := [("door", 2)]) rfl sc_are_doors.nd (k_pi_tup (K := K) rfl (pv 1)) (blkOk_by (by kernel_rfl)) (fun _ _ _ _ _ => (pg_name (i := 2) sc_are_doors.nd rfl (Or.inl rfl) (Or.inr rfl))) (fun _ _ _ _ _ => pts_nil) (fun _ _ _ _ _ => (pe_call (G_is_door) (hr.mono (by first | decide | omega)) (by rfl) T.m_is_door T.F_is_door.kp T.b_is_door .nil pass0 (pa_cons (pv 0) (pa_cons (pv 2) pa_nil))))) pa_nil))))))) (pss_one (ps_ret pe_bl)) pss_nil)
      (pss_one (ps_ret (pe_callB (k_all (K := K) rfl rfl) (by rfl) T.n_all (by decide +kernel) (pa_cons (pe_lc (own := [("one", 3), ("other", 4)]) rfl sc_are_doors.nd (k_pi_zip (K := K) rfl (by rfl) T.n_zip (pa_cons (pv 1) (pa_cons (pe_slice (k_sl_tup (K := K) rfl) (pv 1) (po_some pe_int) po_none) pa_nil))) (blkOk_by (by kernel_rfl)) (fun _ _ _ _ _ => (k_pg_tup (K := K) (n := 2) rfl rfl (pgs_cons (pg_name (i := 3) sc_are_doors.nd rfl (Or.inl rfl) (Or.inr rfl)) (pgs_cons (pg_name (i := 4) sc_are_doors.nd rfl (Or.inl rfl) (Or.inr rfl)) pgs_nil)) rfl)) (fun _ _ _ _ _ => pts_nil) (fun _ _ _ _ _ => (pe_cmpR (op_ltG hr.units) (pv 3) (pv 4) (nomark _)))) pa_nil))))), ?_⟩
  refine q_when (b := !true || !((List.map (fun _ => true) ds).all id)) (et_or (et_not (et_B (ev_isi (b := true) (ev_var rfl rb) (by decide +kernel)))) fun _ => et_not (et_B (ev_all (el_mapN (src_tup (ev_var rfl rb)).src (by omega) (fun _ => rfl) fun d x H' m g rx =>
      ed_call2 (ev_var rfl (Py.mono g ra)) (ev_var rfl rx) (fun _ _ ea eb => by subst ea eb; exact h1 _ m) (fun _ _ _ _ _ p => p))))) (fun hb => absurd hb (by simp)) fun _ H1 g1 => ?_
  refine s_retE (ev_all (el_mapP (src_zipT (ev_var rfl (Py.mono g1 rb)) (ev_slT (ev_var rfl (Py.mono g1 rb)) (eo_some ev_int) eo_none)).src (by rw [List.length_zip]; omega) (fun _ _ => rfl) fun d x y H' m g rx ry => ev_ltG (ev_var rfl rx) (ev_var rfl ry))) fun v H2 g r => k _ v H2 ?_ (g1.trans g) r
  exact lt_all h2

end
end Cl
namespace Cl
open PySem L2 Zw RZ
section
variable {P : Program} {w : World} {K : PySem.W.Frag} {mg : Str → Option Value} {base : Heap}
theorem ok_House___init__ (T : Ctx K mg) : FnOk P w K mg base CX0 5 T.a_House___init__ T.fd_House___init__ ["self", "rooms", "doors"] (spInit T.C_House) := by
  have G_are_doors := ok_are_doors (P := P) (w := w) (base := base) T
  have G_is_within := ok_is_within (P := P) (w := w) (base := base) T
  obtain ⟨t_MOST_ROOMS, c_MOST_ROOMS⟩ := T.c_MOST_ROOMS
  refine T.F_House___init__.ok sc_House___init__ (fun vs H Q E h => spInit_len h) (fun cdv A outer s H vs Q E hr h => ?_)
  obtain ⟨H0, p, dx, v, v', r, ds, rfl, np, nd, hneat, g0, hp, ra, rb, hr1, hr2, hok, k⟩ := h
  refine ⟨_, (pss_cons (ps_if (pt_not (pt_val (pe_call (G_is_within) (hr.mono (by first | decide | omega)) (by rfl) T.m_is_within T.F_is_within.kp T.b_is_within .nil pass0 (pa_cons (pv 1) (pa_cons pe_int (pa_cons (pe_glob (v := .int (9)) (by rfl) c_MOST_ROOMS ⟨_, rfl⟩) pa_nil)))))) (pss_one ps_never) pss_nil)
      (pss_cons (ps_if (pt_not (pt_val (pe_call (G_are_doors) (hr.mono (by first | decide | omega)) (by rfl) T.m_are_doors T.F_are_doors.kp T.b_are_doors .nil pass0 (pa_cons (pv 1) (pa_cons (pv 2) pa_nil))))) (pss_one ps_never) pss_nil)
      (pss_cons (ps_asg (pe_tup (pa_cons (pv 1) (pa_cons (pv 2) pa_nil))) (k_pg_tup (K := K) (n := 2) rfl rfl (pgs_cons (k_pg_attr (K := K) rfl (pv 0)) (pgs_cons (k_pg_attr (K := K) rfl (pv 0)) pgs_nil)) rfl))
      (pss_one (k_ps_fld (K := K) rfl (pv 0) pe_dnewK rfl))))), ?_⟩
  refine q_when (b := !(decide ((1 : Int) ≤ r) && decide (r ≤ 9))) (et_not (et_B (ed_call3 (ev_var rfl ra) ev_int (ev_c rfl) (fun _ _ _ _ _ _ => trivial) (fun a b c d ea eb ec p => by subst ea eb ec; exact p)))) (fun hb => absurd hb (by simp; omega)) fun _ H1 g1 => ?_
  refine q_when (b := !true) (et_not (et_B (ed_call2 (ev_var rfl (Py.mono g1 ra)) (ev_var rfl (Py.mono g1 rb)) (fun _ _ ea eb => by subst ea eb; exact hok) (fun _ _ _ _ _ p => p)))) (fun hb => absurd hb (by simp)) fun _ H2 g2 => ?_
  have hp2 := (g1.trans g2).ins hp
  have ra2 : v = .int r := ra
  subst ra2
  have ra3 : Py.rep r (.int r) H2 := rfl
  have rb3 := Py.mono (g1.trans g2) rb
  obtain ⟨td, xs, e2, ht, rd⟩ := id rb3
  subst e2
  have hea := ea_2 (σ := L2.start ["self", "rooms", "doors"] [.ref p, .int r, .ref td]) (ev_var (i := 1) rfl ra3) (ev_var (i := 2) rfl rb3)
  unfold tSeq tAsg tTup
  refine hea H2 (Gr.refl _) _ fun vs H3 g3 z => ?_
  obtain ⟨w, w', d, d', ev, p1, p2, r1, r2⟩ := z
  refine ⟨by subst ev; show 2 ≤ sizeLine; decide, fun q hq => ?_⟩
  subst ev p1 p2
  have ew : w = .int d := r1
  subst ew
  obtain ⟨td', xs', e2', ht', rd'⟩ := r2
  subst e2'
  have hp3 := g3.ins hp2
  refine ⟨q, _, rfl, .of upd_same, rfl, _, _, rfl, ?_⟩
  have npq : p ≠ q := ne_of_none hp3 hq
  refine ⟨_, rfl, p, T.C_House, dx, [], rfl, by rw [upd_ne npq]; exact hp3, T.cl_House, T.na_House_rooms, by decide, ?_⟩
  refine ⟨_, _, rfl, ⟨_, rfl, p, T.C_House, dx, _, rfl, upd_same, T.cl_House, T.na_House_doors, (show (1 : Nat) < 1000 by decide), rfl, ?_⟩⟩
  intro l hl
  have npl : p ≠ l := ne_of_none upd_same hl
  have hl3 : H3 l = none := by
    rw [upd_ne (Ne.symm npl), upd_ne (Ne.symm npl)] at hl
    by_cases hlq : l = q
    · rw [hlq, upd_same] at hl; cases hl
    · rw [upd_ne hlq] at hl; exact hl
  refine ⟨_, rfl, p, T.C_House, dx, _, rfl, by rw [upd_ne npl]; exact upd_same, T.cl_House, T.na_House_looked, (by show (2 : Nat) < 1000; decide), ?_⟩
  have g03 : Gr H0 H3 := (g0.trans (g1.trans g2)).trans g3
  have gq : Gr H0 (upd H3 q (.tup [V.int d, V.ref td'])) := g03.trans (Gr.new hq)
  have hpq : (upd H3 q (.tup [V.int d, V.ref td'])) p = some (.ins T.C_House dx []) := by rw [upd_ne npq]; exact hp3
  have nhA : ∀ (a : V), NotH (.ins T.C_House dx (putF "rooms" a [])) := fun a C' dx' r' t' l' z => by injection z with _ _ z; cases z
  have nhB : ∀ (a b : V), NotH (.ins T.C_House dx (putF "doors" a (putF "rooms" b []))) := fun a b C' dx' r' t' l' z => by injection z with _ _ z; cases z
  have gA := gq.mut (o := .ins T.C_House dx (putF "rooms" (V.int d) [])) np hpq (fun _ z => nomatch z) (nhA _)
  have gB := gA.mut (o := .ins T.C_House dx (putF "doors" (V.ref td') (putF "rooms" (V.int d) []))) np upd_same (fun _ z => nomatch z) (nhB _ _)
  have gC := gB.trans (Gr.new (o := .dK []) hl)
  have hpC : (upd (upd (upd (upd H3 q (.tup [V.int d, V.ref td'])) p (.ins T.C_House dx (putF "rooms" (V.int d) []))) p (.ins T.C_House dx (putF "doors" (V.ref td') (putF "rooms" (V.int d) [])))) l (.dK [])) p = some (.ins T.C_House dx (putF "doors" (V.ref td') (putF "rooms" (V.int d) []))) := by rw [upd_ne npl]; exact upd_same
  have hfin := Neat.fresh (C := T.C_House) (dx := dx) (r := d) (t := td') (gB.neat hneat) hl upd_same
  have gD := gC.mutN (o := .ins T.C_House dx (putF "looked" (V.ref l) (putF "doors" (V.ref td') (putF "rooms" (V.int d) [])))) np hpC (fun _ z => nomatch z) (fun _ => by rw [putF_house]; exact hfin) (fun C' dx' r' t' l' e => by rw [putF_house] at e; injection e with _ _ e; rw [← (hF_inj e).2.2]; exact gB.back hl)
  refine k _ gD ⟨p, dx, td', l, rfl, ?_, gD.neat hneat, ?_, .inl (by rw [upd_ne (Ne.symm npl)]; exact upd_same)⟩
  · rw [upd_same, putF_house]
  · have tk : TupK H3 (upd (upd (upd (upd (upd H3 q (.tup [V.int d, V.ref td'])) p (.ins T.C_House dx (putF "rooms" (V.int d) []))) p (.ins T.C_House dx (putF "doors" (V.ref td') (putF "rooms" (V.int d) [])))) l (.dK [])) p (.ins T.C_House dx (putF "looked" (V.ref l) (putF "doors" (V.ref td') (putF "rooms" (V.int d) []))))) :=
      ((((TupK.new hq).trans (TupK.put hpq (by intro _ z; cases z))).trans (TupK.put upd_same (by intro _ z; cases z))).trans (TupK.new hl)).trans (TupK.put hpC (by intro _ z; cases z))
    exact PyI.keep tk ⟨td', xs', rfl, ht', rd'⟩

theorem ok_besides (T : Ctx K mg) : FnOk P w K mg base CX0 1 T.a_besides T.fd_besides ["house"] (Sp1 (fun (h : Hs T.C_House) => HOk h) (fun h (d : List (List Int)) => d = besM h.r h.ds)) := by
  refine T.F_besides.ok sc_besides (fun vs H Q E h => h.len) (fun cdv A outer s H vs Q E hr h => ?_)
  obtain ⟨v, h, rfl, ra, ⟨h1, h2, h3, h4, h5⟩, k⟩ := h
  refine ⟨_, (pss_cons (ps_if (pt_cmp (pc_dnotin (hu_of hr) pe_str (k_fld (K := K) rfl (pv 0) rfl)) (by rfl)) (pss_cons (ps_setLc (i := 1) (own := [("room", 2)]) rfl sc_besides.nd rfl rfl (sw_true rfl rfl rfl (by decide +kernel)) (pi_range1 (by rfl) T.n_range (pa_cons (k_fld (K := K) rfl (pv 0) rfl) pa_nil)) (blkOk_by (by kernel_rfl)) (fun _ _ _ _ _ => (pg_name (i := 2) sc_besides.nd rfl (Or.inl rfl) (Or.inr rfl))) (fun _ _ _ _ _ => pts_nil) (fun _ _ _ _ _ => (pe_lst pa_nil)))
      (pss_cons (ps_for PassesOwn.never rfl (k_pi_tup (K := K) rfl (k_fld (K := K) rfl (pv 0) rfl)) (k_pg_tup (K := K) (n := 2) rfl rfl (pgs_cons (pg_name (i := 3) sc_besides.nd rfl (Or.inl rfl) (Or.inr rfl)) (pgs_cons (pg_name (i := 4) sc_besides.nd rfl (Or.inl rfl) (Or.inr rfl)) pgs_nil)) rfl)
      (pss_cons (ps_expr (k_bm (K := K) rfl PySem.F.plainAttrs_list PySem.F.slot_list_append PySem.F.type_list_append mt_append (pe_ix (k_ix_list (K := K) rfl) (pv 1) (pv 3) (fun _ _ => rfl)) (pa_cons (pv 4) pa_nil)))
      (pss_one (ps_expr (k_bm (K := K) rfl PySem.F.plainAttrs_list PySem.F.slot_list_append PySem.F.type_list_append mt_append (pe_ix (k_ix_list (K := K) rfl) (pv 1) (pv 4) (fun _ _ => rfl)) (pa_cons (pv 3) pa_nil))))))
      (pss_one (ps_dput (hu_of hr) (k_fld (K := K) rfl (pv 0) rfl) pe_str (pe_callTy (k_tuple_of (K := K) rfl) (by rfl) T.n_tuple (by decide +kernel) (pa_cons (pe_lc (own := [("row", 5)]) rfl sc_besides.nd (k_pi_list (K := K) rfl (pv 1)) (blkOk_by (by kernel_rfl)) (fun _ _ _ _ _ => (pg_name (i := 5) sc_besides.nd rfl (Or.inl rfl) (Or.inr rfl))) (fun _ _ _ _ _ => pts_nil) (fun _ _ _ _ _ => (pe_callTy (k_tuple_of (K := K) rfl) (by rfl) T.n_tuple (by decide +kernel) (pa_cons (pe_callB (cr_sortedG rfl hr.units) (by rfl) T.n_sorted (by decide +kernel) (pa_cons (pv 5) pa_nil)) pa_nil)))) pa_nil)) rfl)))) pss_nil)
      (pss_one (ps_ret (pe_dget (hu_of hr) (k_fld (K := K) rfl (pv 0) rfl) pe_str (fun _ _ => rfl))))), ?_⟩
  have fin : ∀ σ1 H1, σ1[0]? = some (some v) → Gr H H1 → Warm h v H1 → tRet (tDGet (tFld K (tVar 0) "looked") (tC (.str "beside"))) { nx := fun _ H' => Q .non H', rt := Q } σ1 H1 := fun σ1 H1 e g w =>
    s_retE (ev_bes T.cl_House T.na_House_looked e w) fun x H2 g2 r => k _ _ H2 rfl (g.trans g2) r
  refine q_cold T.cl_House T.na_House_looked rfl ra ?_ (fun w => fin _ _ rfl (Gr.refl _) w)
  refine q_nest (α := Int) (src_rng1 (ev_rooms T.cl_House T.na_House_rooms (ev_var rfl ra)) (by omega)).src (by rw [rngI_length]; omega) (fun _ => rfl) fun A as H2 g2 N => ?_
  rw [rngI_length, ← nbAll_nil] at N
  refine q_forT (src_tup (ev_doors T.cl_House T.na_House_doors (ev_var rfl (Py.mono g2 ra)))) fun H3 g3 => ?_
  refine ⟨fun i σ' H' => Gr H H' ∧ TupK H3 H' ∧ Nest H H' A as (nbAll h.r (h.ds.take i)) ∧ σ'[0]? = some (some v) ∧ σ'[1]? = some (some (.ref A)) ∧ σ'.length = 6, ⟨g2.trans g3, TupK.refl _, by simpa using N.gr g3, rfl, rfl, rfl⟩, fun i σ' H' p => p.2.1, ?_, ?_⟩
  · rintro i ⟨a, b⟩ x σ' H' H'' hd ⟨g4, tk, N4, s0, s1, sl⟩ g5 rx
    refine gTup2 rx fun y z ry rz => ?_
    have hm := List.mem_of_getElem? hd
    obtain ⟨o1, o2, o3⟩ := h3 _ hm
    have hi := (List.getElem?_eq_some_iff.mp hd).1
    have htk : h.ds.take (i + 1) = h.ds.take i ++ [(a, b)] := by rw [List.take_add_one, hd]; rfl
    have hle : (h.ds.take i).length ≤ 40000 := by rw [List.length_take]; omega
    simp only [] at o1 o2 o3
    have v1 := nbAll_get (r := h.r) (l := h.ds.take i) (a := a) o1 (by omega)
    have l1 := nbrs_length a (h.ds.take i)
    have l2 := nbrs_length b (h.ds.take i)
    have e3 : ((σ'.set 3 (some y)).set 4 (some z))[3]? = some (some y) := by simp [sl]
    have e4 : ((σ'.set 3 (some y)).set 4 (some z))[4]? = some (some z) := by simp [sl]
    have e1 : ((σ'.set 3 (some y)).set 4 (some z))[1]? = some (some (.ref A)) := sne (by decide) (sne (by decide) s1)
    refine q_nestApp (d := b) (N4.gr g5) (g4.trans g5) e1 (ev_var e3 ry) (ev_var e4 rz) o1 v1 (by omega) fun H5 g6 tk6 N5 => ?_
    have v2 : ((nbAll h.r (h.ds.take i)).set a.toNat (nbrs a (h.ds.take i) ++ [b]))[b.toNat]? = some (nbrs b (h.ds.take i)) := by
      rw [List.getElem?_set_ne (by omega)]; exact nbAll_get (by omega) (by omega)
    refine s_nestApp (d := a) N5 g6 e1 (ev_var e4 (PyI.keep tk6 rz)) (ev_var e3 (PyI.keep tk6 ry)) (by omega) v2 (by omega) fun H6 g7 tk7 N6 => ?_
    rw [nbAll_snoc o1 (by omega) (by omega) o3 (by omega)] at N6
    refine ⟨g7, ((tk.trans g5.tup).trans tk6).trans tk7, by rw [htk]; exact N6, sne (by decide) (sne (by decide) s0), e1, by simp [sl]⟩
  · rintro σ' H' ⟨g4, tk, N4, s0, s1, sl⟩
    rw [List.take_length] at N4
    have hw : ∀ x, wipe ((wipe σ' [5]).set 5 (some x)) [5] = wipe σ' [5] := fun x => by simp [wipe]
    refine s_warm T.cl_House T.na_House_looked s0 (Py.mono g4 ra) (ev_is (ev_tupL (el_mapN (v := fun (l : Ls Int) => sortO l.l) (src_lstG (ev_var s1 N4.rep)) (by simp [nbAll]; omega) hw fun d x H5 m g5 rx => ev_tupL (ev_sortedL (ev_var (by simp [wipe, sl]) rx) (fun _ _ => trivial)))) ?_) fun H1 g w => fin _ _ s0 (g4.trans g) w
    rw [List.map_map, ← besM_nb]; rfl

end
end Cl
namespace Cl
open PySem L2 Zw RZ
section
variable {P : Program} {w : World} {K : PySem.W.Frag} {mg : Str → Option Value} {base : Heap}

theorem ok0_law_draw (T : Ctx K mg) : FnOk P w K mg base CX0 1 T.a_law_draw T.fd_law_draw ["hand", "many"] (spDraw) := by
  refine T.F_law_draw.ok sc_law_draw (fun vs H Q E h => spDraw_len h) (fun cdv A outer s H vs Q E hr h => ?_)
  obtain ⟨t, c, ns, i, l, m, n, many, rfl, ht, hc, hi, hm1, hm2, k⟩ := h
  have tc : c ≠ t := fun z => by rw [z, ht] at hc; cases ns <;> cases hc
  refine ⟨_, (pss_cons (ps_if (PW.pt (pw_and (pt_cmpR op_eq (pe_ix (k_ix_list (K := K) rfl) (pv 0) pe_int (fun _ _ => rfl)) pe_int (nomark _)) (pw_and1 (pt_cmpR op_lt (pe_ix (k_ix_list (K := K) rfl) (pv 0) pe_int (fun _ _ => rfl)) (pe_callB (k_len (K := K) rfl) (by rfl) T.n_len (by decide +kernel) (pa_cons (pe_ix (k_ix_list (K := K) rfl) (pv 0) pe_int (fun _ _ => rfl)) pa_nil)) (nomark _))))) (pss_cons (ps_set (i := 2) sc_law_draw.nd rfl (Or.inl rfl) (pe_ix (k_ix_list (K := K) rfl) (pe_ix (k_ix_list (K := K) rfl) (pv 0) pe_int (fun _ _ => rfl)) (pe_ix (k_ix_list (K := K) rfl) (pv 0) pe_int (fun _ _ => rfl)) (fun _ _ => rfl)))
      (pss_cons (ps_asg (pe_op op_add (pe_ix (k_ix_list (K := K) rfl) (pv 0) pe_int (fun _ _ => rfl)) pe_int) (pg_sub (pv 0) pe_int set_list))
      (pss_cons (ps_asg (pe_op op_modN (pe_callTy call_int1 (by rfl) T.n_int (by decide +kernel) (pa_cons (pe_op op_add (pe_op op_add (pe_op op_mul (pe_ix (k_ix_list (K := K) rfl) (pv 0) pe_int (fun _ _ => rfl)) pe_int) (pv 2)) pe_int) pa_nil)) pe_int) (pg_sub (pv 0) pe_int set_list))
      (pss_one (ps_if (pt_cmpR op_ge (pv 2) (pe_op op_pow pe_int pe_int) (nomark _)) (pss_one (ps_asg (pv 2) (pg_sub (pv 0) pe_int set_list))) pss_nil))))) pss_nil)
      (pss_cons (ps_if (pt_cmpR op_gt (pe_ix (k_ix_list (K := K) rfl) (pv 0) pe_int (fun _ _ => rfl)) pe_int (nomark _)) (pss_cons (ps_set (i := 3) sc_law_draw.nd rfl (Or.inl rfl) (pe_op op_modN (pe_callTy call_int1 (by rfl) T.n_int (by decide +kernel) (pa_cons (pe_ix (k_ix_list (K := K) rfl) (pv 0) pe_int (fun _ _ => rfl)) pa_nil)) (pv 1)))
      (pss_cons (ps_asg (pe_op op_fdivN (pe_ix (k_ix_list (K := K) rfl) (pv 0) pe_int (fun _ _ => rfl)) (pv 1)) (pg_sub (pv 0) pe_int set_list))
      (pss_one (ps_ret (pv 3))))) pss_nil)
      (pss_cons (ps_asg (pe_op op_add (pe_ix (k_ix_list (K := K) rfl) (pv 0) pe_int (fun _ _ => rfl)) pe_int) (pg_sub (pv 0) pe_int set_list))
      (pss_cons (ps_set (i := 4) sc_law_draw.nd rfl (Or.inl rfl) (pe_op op_modN (pe_callTy call_int1 (by rfl) T.n_int (by decide +kernel) (pa_cons (pe_op op_mul (pe_callTy call_int1 (by rfl) T.n_int (by decide +kernel) (pa_cons (pe_op op_add (pe_ix (k_ix_list (K := K) rfl) (pv 0) pe_int (fun _ _ => rfl)) (pe_op op_mul pe_int (pe_ix (k_ix_list (K := K) rfl) (pv 0) pe_int (fun _ _ => rfl)))) pa_nil)) pe_int) pa_nil)) pe_int))
      (pss_cons (ps_set (i := 4) sc_law_draw.nd rfl (Or.inl rfl) (pe_op op_modN (pe_callTy call_int1 (by rfl) T.n_int (by decide +kernel) (pa_cons (pe_op op_mul (pv 4) (pe_op op_add (pe_op op_fdivN (pv 4) pe_int) pe_int)) pa_nil)) pe_int))
      (pss_cons (ps_set (i := 4) sc_law_draw.nd rfl (Or.inl rfl) (pe_op op_modN (pe_callTy call_int1 (by rfl) T.n_int (by decide +kernel) (pa_cons (pe_op op_mul (pv 4) (pe_op op_add (pe_op op_fdivN (pv 4) pe_int) pe_int)) pa_nil)) pe_int))
      (pss_one (ps_ret (pe_op op_modN (pe_callTy call_int1 (by rfl) T.n_int (by decide +kernel) (pa_cons (pe_op op_fdivN (pv 4) pe_int) pa_nil)) (pv 1)))))))))), ?_⟩
  refine q_join (fun σ' H' => ∃ i l m n : Int, 0 ≤ i ∧ Ms t H H' ∧ H' t = some (.lst [.ref c, .int i, .int l, .int m, .int n]) ∧ H' c = some (.lst (ns.map V.int)) ∧ σ'[0]? = some (some (.ref t)) ∧ σ'[1]? = some (some (.int many)) ∧ σ'.length = 5) (fun tz hz => ?_) ?_
  · have rns : Py.rep (Ls.mk ns) (.ref c) H := ⟨c, _, rfl, hc, RL.map fun _ _ => rfl⟩
    refine s_when (b := decide (l = 0) && decide (i < (ns.length : Int))) (et_and (et_test (ev_eqI (ev_raw ht rfl rfl rfl) ev_int)) fun _ => et_test (ev_lt (ev_raw ht rfl rfl rfl) (ev_lenL (ev_raw ht rfl rfl rns)))) (fun hb H1 g1 => ?_) (fun hb H1 g1 => hz _ _ ⟨i, l, m, n, hi, Ms.gr g1 ht, g1.lst ht, g1.lst hc, rfl, rfl, rfl⟩)
    have hin : i < ns.length := by simp at hb; exact hb.2
    obtain ⟨cell, hat, _⟩ := atI_nat hi hin
    refine q_asgE (d := cell) (ev_ixL (ev_raw (g1.lst ht) rfl rfl (Py.mono g1 rns)) (ev_raw (g1.lst ht) rfl rfl rfl) hat) fun v2 H2 g2 r2 => ?_
    have g12 := g1.trans g2
    refine q_rawSet (P := (· = i + 1)) (k := 1) (g12.lst ht) rfl (ev_add (ev_raw (g12.lst ht) rfl rfl rfl) ev_int) rfl fun d v3 H3 ed g3 r3 ht3 => ?_
    subst ed
    have e3 : v3 = .int (i + 1) := r3
    subst e3
    have g13 := g12.trans g3
    have m3 := (Ms.gr g13 ht).trans (Ms.put (o' := .lst [.ref c, .int (i + 1), .int l, .int m, .int n]))
    have e2 : v2 = .int cell := r2
    subst e2
    refine q_rawSet (P := fun (_ : Int) => True) (k := 3) (xs := [.ref c, .int (i + 1), .int l, .int m, .int n]) upd_same rfl (ed_mod (ed_int1 (ed_add (P := fun _ => True) (ed_add (P := fun _ => True) (ed_mulL (ev_raw upd_same rfl rfl rfl) ev_int (fun a b _ e => .inr (by rw [e]; decide))) (ev_var (d := cell) rfl rfl) (fun _ _ _ _ => trivial)) ev_int (fun _ _ _ _ => trivial))) ev_int (fun _ b _ e => ⟨by rw [e]; decide, trivial⟩)) rfl fun d v4 H4 _ g4 r4 ht4 => ?_
    have e4 : v4 = .int d := r4
    subst e4
    have m4 := (m3.trans (Ms.gr g4 upd_same)).trans (Ms.put (o' := .lst [.ref c, .int (i + 1), .int l, .int d, .int n]))
    have hc4 := g4.lst (show upd H3 t _ c = _ by rw [upd_ne tc]; exact g13.lst hc)
    refine s_when (b := decide ((10 : Int) ^ (18 : Int).toNat ≤ cell)) (et_test (ev_ge (ev_var (d := cell) rfl rfl) (ev_pow ev_int ev_int ⟨by decide, by decide, by decide⟩))) (fun _ H5 g5 => ?_) (fun _ H5 g5 => hz _ _ ⟨i + 1, l, d, n, by omega, m4.trans (Ms.gr g5 upd_same), g5.lst upd_same, g5.lst (by rw [upd_ne tc]; exact hc4), rfl, rfl, rfl⟩)
    refine s_rawSet (P := (· = cell)) (k := 2) (g5.lst upd_same) rfl (ev_var rfl rfl) rfl fun d' v6 H6 e6 g6 r6 ht6 => ?_
    subst e6
    have e6 : v6 = .int d' := r6
    subst e6
    exact hz _ _ ⟨i + 1, d', d, n, by omega, (m4.trans (Ms.gr (g5.trans g6) upd_same)).trans Ms.put, upd_same, by rw [upd_ne tc]; exact (g5.trans g6).lst (by rw [upd_ne tc]; exact hc4), rfl, rfl, rfl⟩
  · rintro σ1 H1 ⟨i, l, m, n, hi, m1, ht, hc, s0, s1, sl⟩
    refine q_when (b := decide (0 < l)) (et_test (ev_gt (ev_raw ht s0 rfl rfl) ev_int)) (fun _ H2 g2 => ?_) (fun _ H2 g2 => ?_)
    · refine q_asg (P := fun (d : Int) => 0 ≤ d ∧ d < many) (ed_mod (ed_int1 (ev_raw (d := l) (g2.lst ht) s0 rfl rfl)) (ev_var (d := many) s1 rfl) (fun a b _ eb => ⟨by omega, by rw [eb]; exact fmod_rng (by omega)⟩)) fun d v3 H3 p3 g3 r3 => ?_
      have g13 := g2.trans g3
      refine q_rawSet (P := fun (_ : Int) => True) (k := 2) (g13.lst ht) (sne (by decide) s0) (ed_fdiv (ev_raw (d := l) (g13.lst ht) (sne (by decide) s0) rfl rfl) (ev_var (d := many) (sne (by decide) s1) rfl) (fun a b _ eb => ⟨⟨by omega, by omega⟩, trivial⟩)) rfl fun d4 v4 H4 _ g4 r4 ht4 => ?_
      have e4 : v4 = .int d4 := r4
      subst e4
      refine s_retE (d := d) (ev_var (seq (by omega)) (show v3 = .int d from r3)) fun v5 H5 g5 r5 => ?_
      have e5 : v5 = .int d := r5
      subst e5
      exact k d i d4 m n H5 p3.1 p3.2 hi (((m1.trans (Ms.gr (g13.trans g4) ht)).trans Ms.put).trans (Ms.gr g5 upd_same)) (g5.lst upd_same)
    · refine q_rawSet (P := fun (_ : Int) => True) (k := 4) (g2.lst ht) s0 (ed_add (ev_raw (d := n) (g2.lst ht) s0 rfl rfl) ev_int (fun _ _ _ _ => trivial)) rfl fun d3 v3 H3 _ g3 r3 ht3 => ?_
      have e3 : v3 = .int d3 := r3
      subst e3
      have m3 := (m1.trans (Ms.gr (g2.trans g3) ht)).trans (Ms.put (o' := .lst [.ref c, .int i, .int l, .int m, .int d3]))
      refine q_asg (P := fun (d : Int) => 0 ≤ d ∧ d < 2147483647) (ed_mod (ed_int1 (ed_mulL (ed_int1 (ed_add (P := fun _ => True) (ev_raw (d := m) upd_same s0 rfl rfl) (ed_mulL ev_int (ev_raw (d := d3) upd_same s0 rfl rfl) (fun a b e _ => .inl (by rw [e]; decide))) (fun _ _ _ _ => trivial))) ev_int (fun a b _ e => .inr (by rw [e]; decide)))) ev_int (fun a b _ eb => ⟨by rw [eb]; decide, by rw [eb]; exact fmod_rng (by decide)⟩)) fun d4 v4 H4 p4 g4 r4 => ?_
      refine q_asg (P := fun (d : Int) => 0 ≤ d ∧ d < 2147483647) (ed_mod (ed_int1 (ed_mulL (ev_var (d := d4) (seq (by omega)) r4) (ed_add (ed_fdiv (ev_var (d := d4) (seq (by omega)) r4) ev_int (P := fun _ => True) (fun a b _ eb => ⟨by rw [eb]; exact ⟨by decide, by decide⟩, trivial⟩)) ev_int (P := fun _ => True) (fun _ _ _ _ => trivial)) (fun a b ea _ => .inl (by rw [ea]; exact ⟨by omega, by omega⟩)))) ev_int (fun a b _ eb => ⟨by rw [eb]; decide, by rw [eb]; exact fmod_rng (by decide)⟩)) fun d5 v5 H5 p5 g5 r5 => ?_
      refine q_asg (P := fun (d : Int) => True) (ed_mod (ed_int1 (ed_mulL (ev_var (d := d5) (seq (by rw [List.length_set]; omega)) r5) (ed_add (ed_fdiv (ev_var (d := d5) (seq (by rw [List.length_set]; omega)) r5) ev_int (P := fun _ => True) (fun a b _ eb => ⟨by rw [eb]; exact ⟨by decide, by decide⟩, trivial⟩)) ev_int (P := fun _ => True) (fun _ _ _ _ => trivial)) (fun a b ea _ => .inl (by rw [ea]; exact ⟨by omega, by omega⟩)))) ev_int (fun a b _ eb => ⟨by rw [eb]; decide, trivial⟩)) fun d6 v6 H6 _ g6 r6 => ?_
      refine s_ret (P := fun (d : Int) => 0 ≤ d ∧ d < many) (ed_mod (ed_int1 (ed_fdiv (ev_var (d := d6) (seq (by rw [List.length_set, List.length_set]; omega)) r6) ev_int (P := fun _ => True) (fun a b _ eb => ⟨by rw [eb]; exact ⟨by decide, by decide⟩, trivial⟩))) (ev_var (d := many) (sne (by decide) (sne (by decide) (sne (by decide) s1))) rfl) (fun a b _ eb => ⟨by omega, by rw [eb]; exact fmod_rng (by omega)⟩)) fun d7 v7 H7 p7 g7 r7 => ?_
      have e7 : v7 = .int d7 := r7
      subst e7
      have g47 := ((g4.trans g5).trans g6).trans g7
      exact k d7 i l m d3 H7 p7.1 p7.2 hi (m3.trans (Ms.gr g47 upd_same)) (g47.lst upd_same)
theorem ok_law_draw (T : Ctx K mg) : FnOk P w K mg base CX0 1 T.a_law_draw T.fd_law_draw ["hand", "many"] (Sp2 (fun (_ : Hand) (many : Int) => 1 ≤ many ∧ many < 1073741824) (fun _ many (d : Int) => 0 ≤ d ∧ d < many)) :=
  fn_hid (ok0_law_draw T) (fun vs H Q E h => h.len) fun vs H Q E ⟨v, v', hd, many, e, r, r', ⟨b1, b2⟩, k⟩ => by
    obtain ⟨t, c, ns, rfl, ht, hc⟩ := r
    have e' : v' = .int many := r'
    subst e'
    refine ⟨t, Phand c, ht, fun xs px => ?_⟩
    obtain ⟨i, l, m, n, rfl, hi⟩ := px
    have tc : c ≠ t := fun z => by rw [z, ht] at hc; cases hc
    refine ⟨t, c, ns, i, l, m, n, many, e, upd_same, by rw [upd_ne tc]; exact hc, hi, b1, b2, fun d i' l' m' n' H' d1 d2 hi' ms ht' => ⟨_, ht', ⟨i', l', m', n', rfl, hi'⟩, ?_⟩⟩
    have g := ms (hidL t (Phand c)) (by intro _ _ _ _ _ z; cases z) (by intro _ z; cases z)
    rw [upd_upd, upd_back ht] at g
    exact k d _ _ ⟨d1, d2⟩ g rfl

end
end Cl
namespace Cl
open PySem L2 Zw RZ
section
variable {P : Program} {w : World} {K : PySem.W.Frag} {mg : Str → Option Value} {base : Heap}
theorem w_besides (T : Ctx K mg) : FnOk P w K mg base CX0 1 T.a_besides T.fd_besides ["house"] (SpW1 fun h : Hs T.C_House => M_besides h) := imp_w1 (ok_besides T)
theorem w_House___init__ (T : Ctx K mg) : FnOk P w K mg base CX0 5 T.a_House___init__ T.fd_House___init__ ["self", "rooms", "doors"] (spInit T.C_House) := ok_House___init__ T
theorem w_law_draw (T : Ctx K mg) : FnOk P w K mg base CX0 1 T.a_law_draw T.fd_law_draw ["hand", "many"] (SpW2 fun (h : Hand) m => M_law_draw h m) := imp_w2 (ok_law_draw T)
end
end Cl
namespace Cl
open PySem L2 Zw RZ
section
variable {P : Program} {w : World} {K : PySem.W.Frag} {mg : Str → Option Value} {base : Heap}
theorem ok0_law_hand (T : Ctx K mg) : FnOk P w K mg base CX0 1 T.a_law_hand T.fd_law_hand ["script"] (spHandF K) := by
  refine T.F_law_hand.ok sc_law_hand (fun vs H Q E h => spHandF_len h) (fun cdv A outer s H vs Q E hr h => ?_)
  obtain ⟨v, d, rfl, ra, hl, k⟩ := h
  refine ⟨_, (pss_cons (ps_setLc (i := 1) (own := [("cell", 2)]) rfl sc_law_hand.nd rfl rfl (sw_true rfl rfl rfl (by decide +kernel)) (k_pi_list (K := K) rfl (pe_slice (k_sl_list (K := K) rfl) (pv 0) po_none (po_some pe_int))) (blkOk_by (by kernel_rfl)) (fun _ _ _ _ _ => (pg_name (i := 2) sc_law_hand.nd rfl (Or.inl rfl) (Or.inr rfl))) (fun _ _ _ _ _ => pts_nil) (fun _ _ _ _ _ => (pe_callB call_abs (by rfl) T.n_abs (by decide +kernel) (pa_cons (pe_callTy call_int1 (by rfl) T.n_int (by decide +kernel) (pa_cons (pv 2) pa_nil)) pa_nil))))
      (pss_one (ps_ret (pe_lst (pa_cons (pv 1) (pa_cons pe_int (pa_cons pe_int (pa_cons (pe_op op_add pe_int (pe_op op_mul pe_int (pe_callB (k_len (K := K) rfl) (by rfl) T.n_len (by decide +kernel) (pa_cons (pv 1) pa_nil)))) (pa_cons pe_int pa_nil))))))))), ?_⟩
  refine q_asgF (P := fun (l : Ls Int) => l.l.length ≤ 63) ((elF_lcN (f := fun _ => true) (v := fun (z : Int) => if z < 0 then -z else z) (src_lst (ev_slScr (ev_var rfl ra) eo_none (eo_some ev_int))).src (Nat.le_trans (cutL_length _ _ _) (by omega)) (fun _ => rfl) (fun _ _ _ _ _ _ => et_yes) fun d x H' m g rx _ => ev_abs (ed_int1 (ev_var rfl rx))).imp fun l e => by rw [e]; show (List.map _ (List.filter _ _)).length ≤ 63; rw [List.length_map, filter_yes]; exact Nat.le_trans (cutL_length _ _ _) hl) fun cs c H1 p1 g1 hn1 r1 => ?_
  refine ⟨_, rfl, (ea_c ev_int (ea_c ev_int (ea_c (ev_add ev_int (ev_mul ev_int (ev_lenL (ev_var rfl r1)) (.inl ⟨by decide, by decide⟩))) (ea_c ev_int ea_n)))) H1 (Gr.refl _) _ fun vs H2 g2 z => ?_⟩
  obtain ⟨_, a2, _, rfl, e2, q2, _, a3, _, rfl, e3, q3, _, a4, _, rfl, e4, q4, _, a5, _, rfl, e5, q5, rfl⟩ := z
  subst e2 e3 e4 e5
  have f2 : a2 = .int _ := q2
  have f3 : a3 = .int _ := q3
  have f4 : a4 = .int _ := q4
  have f5 : a5 = .int _ := q5
  subst f2 f3 f4 f5
  refine ⟨by show 5 ≤ sizeLine; decide, fun p hp => ?_⟩
  obtain ⟨c', xs, ec, hc, rl⟩ := Py.mono g2 r1
  cases ec
  have ex := RL.eq_map (f := V.int) rl
  subst ex
  exact k p c _ _ H2 (g1.trans g2) hp hn1 hc
theorem w_law_hand (T : Ctx K mg) : FnOk P w K mg base CX0 1 T.a_law_hand T.fd_law_hand ["script"] (SpW1 fun (a_script : Scr K) => M_law_hand a_script) :=
  fn_hide (ok0_law_hand T) (fun vs H Q E h => h.len) fun vs H Q E ⟨_, v, d, e, r, Pq, pm, k⟩ => ⟨v, d, e, r, by obtain ⟨_, _, _, l⟩ := r; exact l, fun t c ns m H2 g ht hcn hc => ⟨t, _, Phand c, upd_same, ⟨0, 0, m, 0, rfl, by decide⟩, by
    rw [upd_upd]
    have tc : c ≠ t := fun z => by rw [z, ht] at hc; cases hc
    exact k ⟨⟩ _ _ pm (g.trans (Gr.new ht)) ⟨t, c, ns, rfl, upd_same, hcn, by rw [upd_ne tc]; exact hc⟩⟩⟩

end
end Cl
namespace Cl
open PySem L2 Zw RZ
section
variable {P : Program} {w : World} {K : PySem.W.Frag} {mg : Str → Option Value} {base : Heap}

theorem step_law_is (T : Ctx K mg) (n : Nat) (G_law_is : FnOk P w K mg base CX0 (n + 0) T.a_law_is T.fd_law_is ["one", "other"] (spIs K n)) : FnOk P w K mg base CX0 (n + 1) T.a_law_is T.fd_law_is ["one", "other"] (spIs K (n + 1)) := by
  refine T.F_law_is.ok sc_law_is (fun vs H Q E h => spIs_len h) (fun cdv A outer s H vs Q E hr h => ?_)
  obtain ⟨v, v', a, b, rfl, ra, rb, ⟨eab, m, hm, pl⟩, k⟩ := h
  subst eab
  have hn : n = m := by omega
  subst hn
  refine ⟨_, (pss_cons (ps_if (PW.pt (pw_or (pt_val (pe_callB (k_isi (K := K) rfl) (by rfl) T.n_isinstance (by decide +kernel) (pa_cons (pv 0) (pa_cons (pe_bltn (v := .ty "bool") (u := .type "bool") (by rfl) T.n_bool (by decide +kernel) rfl) pa_nil)))) (pw_or1 (pt_val (pe_callB (k_isi (K := K) rfl) (by rfl) T.n_isinstance (by decide +kernel) (pa_cons (pv 1) (pa_cons (pe_bltn (v := .ty "bool") (u := .type "bool") (by rfl) T.n_bool (by decide +kernel) rfl) pa_nil))))))) (pss_one (ps_ret (pe_and (pe_callB (k_isi (K := K) rfl) (by rfl) T.n_isinstance (by decide +kernel) (pa_cons (pv 0) (pa_cons (pe_bltn (v := .ty "bool") (u := .type "bool") (by rfl) T.n_bool (by decide +kernel) rfl) pa_nil))) (pe_and (pe_callB (k_isi (K := K) rfl) (by rfl) T.n_isinstance (by decide +kernel) (pa_cons (pv 1) (pa_cons (pe_bltn (v := .ty "bool") (u := .type "bool") (by rfl) T.n_bool (by decide +kernel) rfl) pa_nil))) (pe_one (pe_cmpR (k_eqD (K := K) rfl hr.units) (pv 0) (pv 1) (nomark _))))))) pss_nil)
      (pss_cons (ps_if (PW.pt (pw_or (pt_val (pe_callB (k_isi (K := K) rfl) (by rfl) T.n_isinstance (by decide +kernel) (pa_cons (pv 0) (pa_cons (pe_bltn (v := .ty "tuple") (u := .type "tuple") (by rfl) T.n_tuple (by decide +kernel) rfl) pa_nil)))) (pw_or1 (pt_val (pe_callB (k_isi (K := K) rfl) (by rfl) T.n_isinstance (by decide +kernel) (pa_cons (pv 0) (pa_cons (pe_bltn (v := .ty "list") (u := .type "list") (by rfl) T.n_list (by decide +kernel) rfl) pa_nil))))))) (pss_cons (ps_if (PW.pt (pw_or (pt_cmpR op_ne (pe_callB (k_isi (K := K) rfl) (by rfl) T.n_isinstance (by decide +kernel) (pa_cons (pv 0) (pa_cons (pe_bltn (v := .ty "tuple") (u := .type "tuple") (by rfl) T.n_tuple (by decide +kernel) rfl) pa_nil))) (pe_callB (k_isi (K := K) rfl) (by rfl) T.n_isinstance (by decide +kernel) (pa_cons (pv 1) (pa_cons (pe_bltn (v := .ty "tuple") (u := .type "tuple") (by rfl) T.n_tuple (by decide +kernel) rfl) pa_nil))) (nomark _)) (pw_or1 (pt_cmpR op_ne (pe_callB (k_isi (K := K) rfl) (by rfl) T.n_isinstance (by decide +kernel) (pa_cons (pv 0) (pa_cons (pe_bltn (v := .ty "list") (u := .type "list") (by rfl) T.n_list (by decide +kernel) rfl) pa_nil))) (pe_callB (k_isi (K := K) rfl) (by rfl) T.n_isinstance (by decide +kernel) (pa_cons (pv 1) (pa_cons (pe_bltn (v := .ty "list") (u := .type "list") (by rfl) T.n_list (by decide +kernel) rfl) pa_nil))) (nomark _))))) (pss_one (ps_ret pe_bl)) pss_nil)
      (pss_one (ps_ret (pe_and (pe_cmpR op_eq (pe_callB (k_len (K := K) rfl) (by rfl) T.n_len (by decide +kernel) (pa_cons (pv 0) pa_nil)) (pe_callB (k_len (K := K) rfl) (by rfl) T.n_len (by decide +kernel) (pa_cons (pv 1) pa_nil)) (nomark _)) (pe_one (pe_callB (k_all (K := K) rfl rfl) (by rfl) T.n_all (by decide +kernel) (pa_cons (pe_lc (own := [("mine", 2), ("yours", 3)]) rfl sc_law_is.nd (k_pi_zip (K := K) rfl (by rfl) T.n_zip (pa_cons (pv 0) (pa_cons (pv 1) pa_nil))) (blkOk_by (by kernel_rfl)) (fun _ _ _ _ _ => (k_pg_tup (K := K) (n := 2) rfl rfl (pgs_cons (pg_name (i := 2) sc_law_is.nd rfl (Or.inl rfl) (Or.inr rfl)) (pgs_cons (pg_name (i := 3) sc_law_is.nd rfl (Or.inl rfl) (Or.inr rfl)) pgs_nil)) rfl)) (fun _ _ _ _ _ => pts_nil) (fun _ _ _ _ _ => (pe_call (G_law_is) (hr.mono (by first | decide | omega)) (by rfl) T.m_law_is T.F_law_is.kp T.b_law_is .nil pass0 (pa_cons (pv 2) (pa_cons (pv 3) pa_nil))))) pa_nil))))))) pss_nil)
      (pss_cons (ps_if (pt_val (pe_callB (k_isi (K := K) rfl) (by rfl) T.n_isinstance (by decide +kernel) (pa_cons (pv 0) (pa_cons (pe_bltn (v := .ty "dict") (u := .type "dict") (by rfl) T.n_dict (by decide +kernel) rfl) pa_nil)))) (pss_cons (ps_if (PW.pt (pw_or (pt_not (pt_val (pe_callB (k_isi (K := K) rfl) (by rfl) T.n_isinstance (by decide +kernel) (pa_cons (pv 1) (pa_cons (pe_bltn (v := .ty "dict") (u := .type "dict") (by rfl) T.n_dict (by decide +kernel) rfl) pa_nil))))) (pw_or1 (pt_cmpR op_ne (pe_callB (k_len (K := K) rfl) (by rfl) T.n_len (by decide +kernel) (pa_cons (pv 0) pa_nil)) (pe_callB (k_len (K := K) rfl) (by rfl) T.n_len (by decide +kernel) (pa_cons (pv 1) pa_nil)) (nomark _))))) (pss_one (ps_ret pe_bl)) pss_nil)
      (pss_one (ps_ret (pe_callB (k_all (K := K) rfl rfl) (by rfl) T.n_all (by decide +kernel) (pa_cons (pe_lc (own := [("key", 4)]) rfl sc_law_is.nd (k_pi_list (K := K) rfl (pv 0)) (blkOk_by (by kernel_rfl)) (fun _ _ _ _ _ => (pg_name (i := 4) sc_law_is.nd rfl (Or.inl rfl) (Or.inr rfl))) (fun _ _ _ _ _ => pts_nil) (fun _ _ _ _ _ => (pe_and (pe_cmpR (k_inD (K := K) rfl (u65 hr)) (pv 4) (pv 1) (by rfl)) (pe_one (pe_call (G_law_is) (hr.mono (by first | decide | omega)) (by rfl) T.m_law_is T.F_law_is.kp T.b_law_is .nil pass0 (pa_cons (pe_ix (k_ix_list (K := K) rfl) (pv 0) (pv 4) (fun _ _ => rfl)) (pa_cons (pe_ix (k_ix_list (K := K) rfl) (pv 1) (pv 4) (fun _ _ => rfl)) pa_nil))))))) pa_nil))))) pss_nil)
      (pss_one (ps_ret (pe_and (pe_cmpR op_eq (pe_callB (k_isi (K := K) rfl) (by rfl) T.n_isinstance (by decide +kernel) (pa_cons (pv 0) (pa_cons (pe_bltn (v := .ty "int") (u := .type "int") (by rfl) T.n_int (by decide +kernel) rfl) pa_nil))) (pe_callB (k_isi (K := K) rfl) (by rfl) T.n_isinstance (by decide +kernel) (pa_cons (pv 1) (pa_cons (pe_bltn (v := .ty "int") (u := .type "int") (by rfl) T.n_int (by decide +kernel) rfl) pa_nil))) (nomark _)) (pe_one (pe_cmpR (k_eqD (K := K) rfl hr.units) (pv 0) (pv 1) (nomark _))))))))), ?_⟩
  have va : Ev (tVar 0) (L2.start ["one", "other", "mine", "yours", "key"] [v, v']) H a := ev_var rfl ra
  have vb : Ev (tVar 1) (L2.start ["one", "other", "mine", "yours", "key"] [v, v']) H a := ev_var rfl rb
  have he := Pln.eqv _ _ pl
  by_cases hsc : ∃ l, a.d = .list l ∨ a.d = .tuple l
  · obtain ⟨l, hl⟩ := hsc
    obtain ⟨hlen, m, rfl, hpl⟩ : l.length ≤ 100000 ∧ ∃ m, n = m + 1 ∧ ∀ d ∈ l, Pln m d := by
      cases n with
      | zero => rcases hl with e | e <;> (rw [e] at pl; simp [Pln] at pl)
      | succ m => rcases hl with e | e <;> (rw [e] at pl; simp [Pln] at pl; exact ⟨pl.1, m, rfl, pl.2⟩)
    have kb : kitB (tyN a.d) "bool" = some false := by
      rcases hl with e | e <;> rw [e]
      · show kitB "list" "bool" = _; decide +kernel
      · show kitB "tuple" "bool" = _; decide +kernel
    obtain ⟨x, y, kt, kl, kxy⟩ : ∃ x y, kitB (tyN a.d) "tuple" = some x ∧ kitB (tyN a.d) "list" = some y ∧ (x || y) = true := by
      rcases hl with e | e <;> rw [e]
      · exact ⟨false, true, (by show kitB "list" "tuple" = _; decide +kernel), (by show kitB "list" "list" = _; decide +kernel), rfl⟩
      · exact ⟨true, false, (by show kitB "tuple" "tuple" = _; decide +kernel), (by show kitB "tuple" "list" = _; decide +kernel), rfl⟩
    refine q_when (b := false || false) (et_or (et_B (ev_isiQ va kb)) fun _ => et_B (ev_isiQ vb kb)) (fun z => nomatch z) fun _ H1 g1 => ?_
    refine q_when (b := x || y) (et_or (et_B (ev_isiQ (va.mono g1) kt)) fun _ => et_B (ev_isiQ (va.mono g1) kl)) (fun _ H2 g2 => ?_) (fun z => absurd (kxy.symm.trans z) (by decide))
    have g12 := g1.trans g2
    refine q_when (b := !decide (x = x) || !decide (y = y)) (et_or (et_test (ev_neB (ev_isiQ (va.mono g12) kt) (ev_isiQ (vb.mono g12) kt))) fun _ => et_test (ev_neB (ev_isiQ (va.mono g12) kl) (ev_isiQ (vb.mono g12) kl))) (fun z => by simp at z) fun _ H3 g3 => ?_
    have g13 := g12.trans g3
    refine s_retE (ev_andV (a := decide ((l.length : Int) = l.length)) (ev_eqI (ev_lenQ (va.mono g13) hl) (ev_lenQ (vb.mono g13) hl)) fun _ => ev_all (el_mapQ (v := fun _ => true) (src_zipQ (va.mono g13) (vb.mono g13) hl) hlen (fun _ _ => rfl) fun d x y H' md g rx ry =>
      ed_call2 (ev_var (d := (⟨d⟩ : Dq K)) rfl rx) (ev_var (d := (⟨d⟩ : Dq K)) rfl ry) (fun _ _ ea eb => by subst ea eb; exact ⟨rfl, m, rfl, hpl d md⟩) fun _ _ _ _ _ p => p)) fun w H4 g4 r4 => k _ w H4 (by simp) (g13.trans g4) r4
  · have hd : ∃ bb ii, kitB (tyN a.d) "bool" = some bb ∧ kitB (tyN a.d) "tuple" = some false ∧ kitB (tyN a.d) "list" = some false ∧ kitB (tyN a.d) "dict" = some false ∧ kitB (tyN a.d) "int" = some ii := by
      obtain ⟨d⟩ := a
      cases d with
      | none => exact ⟨false, false, (by show kitB "NoneType" "bool" = _; decide +kernel), (by show kitB "NoneType" "tuple" = _; decide +kernel), (by show kitB "NoneType" "list" = _; decide +kernel), (by show kitB "NoneType" "dict" = _; decide +kernel), (by show kitB "NoneType" "int" = _; decide +kernel)⟩
      | bool b => exact ⟨true, true, (by show kitB "bool" "bool" = _; decide +kernel), (by show kitB "bool" "tuple" = _; decide +kernel), (by show kitB "bool" "list" = _; decide +kernel), (by show kitB "bool" "dict" = _; decide +kernel), (by show kitB "bool" "int" = _; decide +kernel)⟩
      | int b => exact ⟨false, true, (by show kitB "int" "bool" = _; decide +kernel), (by show kitB "int" "tuple" = _; decide +kernel), (by show kitB "int" "list" = _; decide +kernel), (by show kitB "int" "dict" = _; decide +kernel), (by show kitB "int" "int" = _; decide +kernel)⟩
      | str b => exact ⟨false, false, (by show kitB "str" "bool" = _; decide +kernel), (by show kitB "str" "tuple" = _; decide +kernel), (by show kitB "str" "list" = _; decide +kernel), (by show kitB "str" "dict" = _; decide +kernel), (by show kitB "str" "int" = _; decide +kernel)⟩
      | list l => exact absurd ⟨l, .inl rfl⟩ hsc
      | tuple l => exact absurd ⟨l, .inr rfl⟩ hsc
      | dict l => cases n <;> simp [Pln] at pl
    have hsh : SeqAt.shaped a.d = true := by
      obtain ⟨d⟩ := a
      cases d with
      | list l => exact absurd ⟨l, .inl rfl⟩ hsc
      | tuple l => exact absurd ⟨l, .inr rfl⟩ hsc
      | dict l => cases n <;> simp [Pln] at pl
      | none => rfl
      | bool b => rfl
      | int b => rfl
      | str b => have hs : PyData.strOk b = true := by cases n <;> simpa [Pln] using pl
                 simp [SeqAt.shaped, PyData.canLay0, PyData.depth, hs]
    obtain ⟨bb, ii, kb, kt, kl, kd, ki⟩ := hd
    refine q_when (b := bb || bb) (et_or (et_B (ev_isiQ va kb)) fun _ => et_B (ev_isiQ vb kb)) (fun hb H1 g1 => ?_) fun _ H1 g1 => ?_
    · have hbb : bb = true := by simpa using hb
      subst hbb
      exact s_retE (ev_andV (ev_isiQ (va.mono g1) kb) fun _ => ev_andV (ev_isiQ (vb.mono g1) kb) fun _ => ev_eqQ (va.mono g1) (vb.mono g1) hsh he) fun w H4 g4 r4 => k _ w H4 (by simp) (g1.trans g4) r4
    · refine q_when (b := false || false) (et_or (et_B (ev_isiQ (va.mono g1) kt)) fun _ => et_B (ev_isiQ (va.mono g1) kl)) (fun z => nomatch z) fun _ H2 g2 => ?_
      have g12 := g1.trans g2
      refine q_when (b := false) (et_B (ev_isiQ (va.mono g12) kd)) (fun z => nomatch z) fun _ H3 g3 => ?_
      have g13 := g12.trans g3
      exact s_retE (ev_andV (a := decide (ii = ii)) (ev_eqB (ev_isiQ (va.mono g13) ki) (ev_isiQ (vb.mono g13) ki)) fun _ => ev_eqQ (va.mono g13) (vb.mono g13) hsh he) fun w H4 g4 r4 => k _ w H4 (by simp) (g13.trans g4) r4
theorem all_law_is (T : Ctx K mg) : ∀ n, FnOk P w K mg base CX0 (n + 0) T.a_law_is T.fd_law_is ["one", "other"] (spIs K n)
  | 0 => ⟨fun vs H Q E h => Sp2.len h, fun A outer s H args us vs Q E hr he hb hv hs => by obtain ⟨_, _, _, _, _, _, _, ⟨_, m, hm, _⟩, _⟩ := hs; exact absurd hm (by omega)⟩
  | n + 1 => step_law_is T n (all_law_is T n)
theorem ok_law_is (T : Ctx K mg) : FnOk P w K mg base CX0 3 T.a_law_is T.fd_law_is ["one", "other"] (spIs K 3) := all_law_is T 3


end
end Cl
namespace Cl
open PySem L2 Zw RZ
section
variable {P : Program} {w : World} {K : PySem.W.Frag} {mg : Str → Option Value} {base : Heap}
theorem w_law_is (T : Ctx K mg) : FnOk P w K mg base CX0 3 T.a_law_is T.fd_law_is ["one", "other"] (SpW2 fun (a b : Dq K) => M_law_is a b) :=
  (ok_law_is T).imp fun vs H Q E ⟨_, v, v', a, b, ev, ra, rb, P, hp, k⟩ => by
    unfold M_law_is at hp
    obtain ⟨⟨e, pl⟩, pt⟩ := hp
    exact ⟨v, v', a, b, ev, ra, rb, ⟨e, 2, rfl, pl⟩, fun d w H' hd g r => k d w H' (by rw [hd]; exact pt) g r⟩
end
end Cl
namespace Cl
open PySem L2 Zw RZ
section
variable {P : Program} {w : World} {K : PySem.W.Frag} {mg : Str → Option Value} {base : Heap}
theorem w_nears (T : Ctx K mg) : FnOk P w K mg base CX0 2 T.a_nears T.fd_nears ["house"] (SpW1 (fun (a_house : (Hs T.C_House)) => M_nears (C := T.C_House) a_house)) := by
  have G_besides := w_besides (P := P) (w := w) (base := base) T
  refine T.F_nears.ok sc_nears (fun vs H Q E h => h.len) (fun cdv A outer s H vs Q E hr h => ?_)
  obtain ⟨hne, v_house, a_house, rfl, r_house, Pq, hm, kq⟩ := h
  have he : EnvOk H (fun _ => True) [some (bG a_house v_house), none, none] (L2.start ["house", "room", "row"] [v_house]) H := env0 (show Ini [some (bG a_house v_house), none, none] [some v_house, none, none] H from ⟨rfl, rfl, r_house, trivial⟩) hne
  unfold M_nears at hm
  refine ⟨_, (pss_one (ps_ret (pe_callTy (k_tuple_of (K := K) rfl) (by rfl) T.n_tuple (by decide +kernel) (pa_cons (pe_lc (own := [("room", 1), ("row", 2)]) rfl sc_nears.nd (k_pi_enumT (K := K) rfl (by rfl) T.n_enumerate (pa_cons (pe_call (G_besides) (hr.mono (by first | decide | omega)) (by rfl) T.m_besides T.F_besides.kp T.b_besides .nil pass0 (pa_cons (pv 0) pa_nil)) pa_nil)) (blkOk_by (by kernel_rfl)) (fun _ _ _ _ _ => (k_pg_tup (K := K) (n := 2) rfl rfl (pgs_cons (pg_name (i := 1) sc_nears.nd rfl (Or.inl rfl) (Or.inr rfl)) (pgs_cons (pg_name (i := 2) sc_nears.nd rfl (Or.inl rfl) (Or.inr rfl)) pgs_nil)) rfl)) (fun _ _ _ _ _ => pts_nil) (fun _ _ _ _ _ => (pe_callTy (k_tuple_of (K := K) rfl) (by rfl) T.n_tuple (by decide +kernel) (pa_cons (pe_callB (cr_sortedG rfl hr.units) (by rfl) T.n_sorted (by decide +kernel) (pa_cons (pe_op (k_catT (K := K) rfl) (pv 2) (pe_tup (pa_cons (pv 1) pa_nil))) pa_nil)) pa_nil)))) pa_nil)))), ?_⟩
  exact x_ret he (ewF_I (ew_l1 th1_cb (ew_F (ewF_lcP (K := K) (i := 1) (j := 2) he.r (SrcW.c (srcW_enumT (ew_F (ew_call1 he.ne (ev_get (i := 0) he.r rfl))))) (show 1 < 3 from by decide) (show 2 < 3 from by decide) (by decide) (by decide) (fun x_room_4 x_row_5 _ _ _ _ hr2 => ewt_yes) (fun x_room_4 x_row_5 _ _ _ _ hr2 => (ewF_I (ew_l1 th1_cb (ew_F (ewF_l1 th1_cb (ew_catT (ev_get (i := 2) hr2 rfl) (ev_tup (α := Int) (eal_cons (ev_get (i := 1) hr2 rfl) eal_nil) (show 1 ≤ _ by decide))) fun z6 _ H9 g9 r0 => (ewF_sortedT (g9.neat hr2.ne) (ev_c r0)))) fun z7 _ H9 g9 r0 => (ew_ret (ev_tupL (ev_c (d := Ls.mk z7.l) r0)))))))) fun z8 _ H9 g9 r0 => (ew_ret (ev_tupL (ev_c (d := Ls.mk z8.l) r0))))) hm kq

theorem w_reached_by (T : Ctx K mg) : FnOk P w K mg base CX0 3 T.a_reached_by T.fd_reached_by ["house", "gone", "room"] (SpW3 (fun (a_house : (Hs T.C_House)) (a_gone : (List Int)) (a_room : Int) => M_reached_by (C := T.C_House) a_house a_gone a_room)) := by
  have G_nears := w_nears (P := P) (w := w) (base := base) T
  refine T.F_reached_by.ok sc_reached_by (fun vs H Q E h => h.len) (fun cdv A outer s H vs Q E hr h => ?_)
  obtain ⟨hne, v_house, v_gone, v_room, a_house, a_gone, a_room, rfl, r_house, r_gone, r_room, Pq, hm, kq⟩ := h
  have he : EnvOk H (fun _ => True) [some (bG a_house v_house), some (bG a_gone v_gone), some (bG a_room v_room), none, none, none, none, none] (L2.start ["house", "gone", "room", "found", "met", "waiting", "here", "other"] [v_house, v_gone, v_room]) H := env0 (show Ini [some (bG a_house v_house), some (bG a_gone v_gone), some (bG a_room v_room), none, none, none, none, none] [some v_house, some v_gone, some v_room, none, none, none, none, none] H from ⟨rfl, rfl, r_house, rfl, rfl, r_gone, rfl, rfl, r_room, trivial⟩) hne
  unfold M_reached_by at hm
  refine ⟨_, (pss_cons (ps_par3 (i := 3) (j := 4) (l := 5) rfl sc_reached_by.nd rfl rfl rfl (by decide) (by decide) (by decide) rfl rfl rfl (pa_cons (pe_lst pa_nil) (pa_cons (pe_disp (pps_cons (pv 2) pe_bl pps_nil) (by rfl) (by rfl) (fun z => by cases z) (by decide)) (pa_cons (pe_lst (pa_cons (pv 2) pa_nil)) pa_nil))) (by rfl))
      (pss_cons (ps_while PassesOwn.never (pt_cmpR op_gt (pe_callB (k_len (K := K) rfl) (by rfl) T.n_len (by decide +kernel) (pa_cons (pv 5) pa_nil)) pe_int (nomark _)) (pss_cons (ps_set (i := 6) sc_reached_by.nd rfl (Or.inl rfl) (k_bm0 (K := K) rfl PySem.F.plainAttrs_list PySem.F.slot_list_pop PySem.F.type_list_pop mt_pop (pv 5)))
      (pss_one (ps_for PassesOwn.never rfl (k_pi_tup (K := K) rfl (pe_ix (k_ix_tup (K := K) rfl) (pe_call (G_nears) (hr.mono (by first | decide | omega)) (by rfl) T.m_nears T.F_nears.kp T.b_nears .nil pass0 (pa_cons (pv 0) pa_nil)) (pv 6) (fun _ _ => rfl))) (pg_name (i := 7) sc_reached_by.nd rfl (Or.inl rfl) (Or.inr rfl))
      (pss_one (ps_if (pt_cmp (pc_dnotin (hu_of hr) (pv 7) (pv 4)) (by rfl)) (pss_cons (ps_dput (hu_of hr) (pv 4) (pv 7) pe_bl rfl)
      (pss_one (ps_if (pt_cmpR (k_in_seq (K := K) rfl) (pv 7) (pv 1) (by rfl)) (pss_one (ps_expr (k_bm (K := K) rfl PySem.F.plainAttrs_list PySem.F.slot_list_append PySem.F.type_list_append mt_append (pv 5) (pa_cons (pv 7) pa_nil)))) (pss_one (ps_expr (k_bm (K := K) rfl PySem.F.plainAttrs_list PySem.F.slot_list_append PySem.F.type_list_append mt_append (pv 3) (pa_cons (pv 7) pa_nil))))))) pss_nil))))))
      (pss_one (ps_ret (pe_callTy (k_tuple_of (K := K) rfl) (by rfl) T.n_tuple (by decide +kernel) (pa_cons (pe_callB (cr_sortedG rfl hr.units) (by rfl) T.n_sorted (by decide +kernel) (pa_cons (pv 3) pa_nil)) pa_nil)))))), ?_⟩
  refine q_of (x_par3 (i := 3) (j := 4) (l := 5) he (show 3 < 8 from by decide) (show 4 < 8 from by decide) (show 5 < 8 from by decide) (ewF_nil (α := Int) he.ne) (ewF_dispI1 he.ne (ev_get (i := 2) he.r rfl) ev_bl) (ewF_lst (α := Int) he.ne (eal_cons (ev_get (i := 2) he.r rfl) eal_nil)) hm fun x_found_1 x_met_2 x_waiting_3 v_4 v_5 v_6 σ1 H1 (he : EnvOk H (fun _ => True) [some (bG a_house v_house), some (bG a_gone v_gone), some (bG a_room v_room), some (bN (Ls.mk x_found_1.l) v_4), some (bN (DI.mk x_met_2.kv) v_5), some (bN (Ls.mk x_waiting_3.l) v_6), none, none] σ1 H1) hm => ?_)
  refine q_of (x_while (H0 := H) (S := (List Int) × (List (Int × Bool)) × (List Int)) (R := (List Int)) hm (fun s0 σ0 H0 => ∃ w_waiting w_met w_found, EnvOk H (fun _ => True) [some (bG a_house v_house), some (bG a_gone v_gone), some (bG a_room v_room), some (bN (Ls.mk s0.2.2) w_found), some (bN (DI.mk s0.2.1) w_met), some (bN (Ls.mk s0.1) w_waiting), none, none] σ0 H0) ⟨v_6, v_5, v_4, he⟩ (fun y13 σ1 H1 hI => ?_) (fun s0 σ0 H0 H1 g0 ⟨w_waiting, w_met, w_found, he⟩ => ⟨w_waiting, w_met, w_found, he.mono g0⟩) (fun y13 σ1 H1 k10 N hn7 hb8 hr9 hI hm => ?_) (fun y14 σ1 H1 hI hm => ?_) (fun r v H1 hm g0 r0 => kq r v H1 hm g0 r0))
  · obtain ⟨x_waiting_15, x_met_17, x_found_19⟩ := y13
    obtain ⟨v_16, v_18, v_20, he⟩ := hI
    have he : EnvOk H (fun _ => True) [some (bG a_house v_house), some (bG a_gone v_gone), some (bG a_room v_room), some (bN (Ls.mk x_found_19) v_20), some (bN (DI.mk x_met_17) v_18), some (bN (Ls.mk x_waiting_15) v_16), none, none] σ1 H1 := he
    exact (ewt_ret (et_test (ev_gt (ev_lenL (ev_get (i := 5) he.r rfl)) ev_int)))
  · obtain ⟨x_waiting_15, x_met_17, x_found_19⟩ := y13
    obtain ⟨v_16, v_18, v_20, he⟩ := hI
    have he : EnvOk H (fun _ => True) [some (bG a_house v_house), some (bG a_gone v_gone), some (bG a_room v_room), some (bN (Ls.mk x_found_19) v_20), some (bN (DI.mk x_met_17) v_18), some (bN (Ls.mk x_waiting_15) v_16), none, none] σ1 H1 := he
    refine q_of (x_popAsg (i := 5) (j := 6) he rfl (show 6 < 8 from by decide) hm fun x_waiting_22 x_here_23 v_24 σ1 H1 (he : EnvOk H (fun _ => True) [some (bG a_house v_house), some (bG a_gone v_gone), some (bG a_room v_room), some (bN (Ls.mk x_found_19) v_20), some (bN (DI.mk x_met_17) v_18), some (bN (Ls.mk x_waiting_22) v_16), some (bN x_here_23 v_24), none] σ1 H1) hm => ?_)
    refine (x_for (S := (List (Int × Bool)) × (List Int) × (List Int)) he (srcW_tup (ew_l2 th2_op (ew_F (ew_call1 he.ne (ev_get (i := 0) he.r rfl))) (ew_ret (ev_get (i := 6) he.r rfl)) fun z25 z26 _ _ H9 g9 r0 r1 => (ew_ixT (ev_c r0) (ev_c r1)))) hm (fun F31 s0 σ0 H0 => ∃ w_met w_waiting w_found, EnvOk H F31 [some (bG a_house v_house), some (bG a_gone v_gone), some (bG a_room v_room), some (bN (Ls.mk s0.2.2) w_found), some (bN (DI.mk s0.1) w_met), some (bN (Ls.mk s0.2.1) w_waiting), some (bN x_here_23 v_24), none] σ0 H0) (fun F31 H1 he => ⟨v_18, v_16, v_20, he⟩) (fun F31 s0 σ0 H0 ⟨w_met, w_waiting, w_found, he⟩ => he.frm) (fun F31 s0 σ0 H0 H1 g0 ⟨w_met, w_waiting, w_found, he⟩ => ⟨w_met, w_waiting, w_found, he.mono g0⟩) (fun F31 s0 σ0 H0 i0 ⟨w_met, w_waiting, w_found, he⟩ => ⟨w_met, w_waiting, w_found, he.imp i0⟩) (fun F31 x_other_32 v_33 y35 σ1 H1 k30 N hn27 hI hx hm => ?_) (fun y36 σ1 H1 hI hm => ?_))
    · obtain ⟨x_met_37, x_waiting_39, x_found_41⟩ := y35
      obtain ⟨v_38, v_40, v_42, he⟩ := hI
      refine tg_name (i := 7) he (show 7 < 8 from by decide) hx fun σ2 he => ?_
      have he : EnvOk H F31 [some (bG a_house v_house), some (bG a_gone v_gone), some (bG a_room v_room), some (bN (Ls.mk x_found_41) v_42), some (bN (DI.mk x_met_37) v_38), some (bN (Ls.mk x_waiting_39) v_40), some (bN x_here_23 v_24), some (bN x_other_32 v_33)] σ2 _ := he
      refine (x_if he (ewt_ret (et_test (ev_notInDI (ev_get (i := 7) he.r rfl) (ev_get (i := 4) he.r rfl)))) hm (fun H1 (he : EnvOk H F31 [some (bG a_house v_house), some (bG a_gone v_gone), some (bG a_room v_room), some (bN (Ls.mk x_found_41) v_42), some (bN (DI.mk x_met_37) v_38), some (bN (Ls.mk x_waiting_39) v_40), some (bN x_here_23 v_24), some (bN x_other_32 v_33)] _ H1) hm => ?_) (fun H1 (he : EnvOk H F31 [some (bG a_house v_house), some (bG a_gone v_gone), some (bG a_room v_room), some (bN (Ls.mk x_found_41) v_42), some (bN (DI.mk x_met_37) v_38), some (bN (Ls.mk x_waiting_39) v_40), some (bN x_here_23 v_24), some (bN x_other_32 v_33)] _ H1) hm => ?_))
      · refine q_of (x_putDI (i := 4) he rfl (ew_ret ev_bl) (ew_ret (ev_get (i := 7) he.r rfl)) hm fun x_met_44 H1 (he : EnvOk H F31 [some (bG a_house v_house), some (bG a_gone v_gone), some (bG a_room v_room), some (bN (Ls.mk x_found_41) v_42), some (bN (DI.mk x_met_44) v_38), some (bN (Ls.mk x_waiting_39) v_40), some (bN x_here_23 v_24), some (bN x_other_32 v_33)] _ H1) hm => ?_)
        refine (x_if he (ewt_ret (et_test (ev_inI (ev_get (i := 7) he.r rfl) (ev_get (i := 1) he.r rfl)))) hm (fun H1 (he : EnvOk H F31 [some (bG a_house v_house), some (bG a_gone v_gone), some (bG a_room v_room), some (bN (Ls.mk x_found_41) v_42), some (bN (DI.mk x_met_44) v_38), some (bN (Ls.mk x_waiting_39) v_40), some (bN x_here_23 v_24), some (bN x_other_32 v_33)] _ H1) hm => ?_) (fun H1 (he : EnvOk H F31 [some (bG a_house v_house), some (bG a_gone v_gone), some (bG a_room v_room), some (bN (Ls.mk x_found_41) v_42), some (bN (DI.mk x_met_44) v_38), some (bN (Ls.mk x_waiting_39) v_40), some (bN x_here_23 v_24), some (bN x_other_32 v_33)] _ H1) hm => ?_))
        · refine (x_app (i := 5) he rfl (ew_ret (ev_get (i := 7) he.r rfl)) hm fun a47 H1 (he : EnvOk H F31 [some (bG a_house v_house), some (bG a_gone v_gone), some (bG a_room v_room), some (bN (Ls.mk x_found_41) v_42), some (bN (DI.mk x_met_44) v_38), some (bN (Ls.mk (x_waiting_39 ++ [a47])) v_40), some (bN x_here_23 v_24), some (bN x_other_32 v_33)] _ H1) hm => ?_)
          have he := he.drop (i := 7)
          exact hn27 (x_met_44, (x_waiting_39 ++ [a47]), x_found_41) _ _ ⟨v_38, v_40, v_42, he⟩ hm
        · refine (x_app (i := 3) he rfl (ew_ret (ev_get (i := 7) he.r rfl)) hm fun a49 H1 (he : EnvOk H F31 [some (bG a_house v_house), some (bG a_gone v_gone), some (bG a_room v_room), some (bN (Ls.mk (x_found_41 ++ [a49])) v_42), some (bN (DI.mk x_met_44) v_38), some (bN (Ls.mk x_waiting_39) v_40), some (bN x_here_23 v_24), some (bN x_other_32 v_33)] _ H1) hm => ?_)
          have he := he.drop (i := 7)
          exact hn27 (x_met_44, x_waiting_39, (x_found_41 ++ [a49])) _ _ ⟨v_38, v_40, v_42, he⟩ hm
      · have he := he.drop (i := 7)
        exact hn27 (x_met_37, x_waiting_39, x_found_41) _ _ ⟨v_38, v_40, v_42, he⟩ hm
    · first | refine e_of ?_ | skip
      obtain ⟨x_met_53, x_waiting_55, x_found_57⟩ := y36
      obtain ⟨v_54, v_56, v_58, he⟩ := hI
      have he : EnvOk H (fun _ => True) [some (bG a_house v_house), some (bG a_gone v_gone), some (bG a_room v_room), some (bN (Ls.mk x_found_57) v_58), some (bN (DI.mk x_met_53) v_54), some (bN (Ls.mk x_waiting_55) v_56), some (bN x_here_23 v_24), none] σ1 H1 := he
      have he := he.drop (i := 6)
      exact hn7 (x_waiting_55, x_met_53, x_found_57) _ _ ⟨v_56, v_54, v_58, he⟩ hm
  · first | refine e_of ?_ | skip
    obtain ⟨x_waiting_60, x_met_62, x_found_64⟩ := y14
    obtain ⟨v_61, v_63, v_65, he⟩ := hI
    have he : EnvOk H (fun _ => True) [some (bG a_house v_house), some (bG a_gone v_gone), some (bG a_room v_room), some (bN (Ls.mk x_found_64) v_65), some (bN (DI.mk x_met_62) v_63), some (bN (Ls.mk x_waiting_60) v_61), none, none] σ1 H1 := he
    exact x_ret he (ewF_I (ew_l1 th1_cb (ew_F (ewF_sortedL he.ne (ev_get (i := 3) he.r rfl))) fun z66 _ H9 g9 r0 => (ew_ret (ev_tupL (ev_c (d := Ls.mk z66.l) r0))))) hm kq

theorem w_lots_of (T : Ctx K mg) : FnOk P w K mg base CX0 1 T.a_lots_of T.fd_lots_of ["rooms"] (SpW1 (fun (a_rooms : Int) => M_lots_of a_rooms)) := by
  refine T.F_lots_of.ok sc_lots_of (fun vs H Q E h => h.len) (fun cdv A outer s H vs Q E hr h => ?_)
  obtain ⟨hne, v_rooms, a_rooms, rfl, r_rooms, Pq, hm, kq⟩ := h
  have he : EnvOk H (fun _ => True) [some (bG a_rooms v_rooms), none, none, none, none] (L2.start ["rooms", "found", "room", "lot", "size"] [v_rooms]) H := env0 (show Ini [some (bG a_rooms v_rooms), none, none, none, none] [some v_rooms, none, none, none, none] H from ⟨rfl, rfl, r_rooms, trivial⟩) hne
  unfold M_lots_of at hm
  refine ⟨_, (pss_cons (ps_set (i := 1) sc_lots_of.nd rfl (Or.inl rfl) (pe_lst (pa_cons (pe_tup pa_nil) pa_nil)))
      (pss_cons (ps_for PassesOwn.never rfl (pi_range1 (by rfl) T.n_range (pa_cons (pv 0) pa_nil)) (pg_name (i := 2) sc_lots_of.nd rfl (Or.inr rfl) (Or.inl rfl))
      (pss_one (ps_set (i := 1) sc_lots_of.nd rfl (Or.inl rfl) (pe_op op_cat (pv 1) (pe_lc (own := [("lot", 3)]) rfl sc_lots_of.nd (k_pi_list (K := K) rfl (pv 1)) (blkOk_by (by kernel_rfl)) (fun _ _ _ _ _ => (pg_name (i := 3) sc_lots_of.nd rfl (Or.inl rfl) (Or.inr rfl))) (fun _ _ _ _ _ => pts_nil) (fun _ _ _ _ _ => (pe_op (k_catT (K := K) rfl) (pv 3) (pe_tup (pa_cons (pv 2) pa_nil)))))))))
      (pss_one (ps_ret (pe_lc (own := [("size", 4), ("lot", 3)]) rfl sc_lots_of.nd (k_pi_list (K := K) rfl (pe_callB (cr_sortedG rfl hr.units) (by rfl) T.n_sorted (by decide +kernel) (pa_cons (pe_lc (own := [("lot", 3)]) rfl sc_lots_of.nd (k_pi_list (K := K) rfl (pv 1)) (blkOk_by (by kernel_rfl)) (fun _ _ _ _ _ => (pg_name (i := 3) sc_lots_of.nd rfl (Or.inl rfl) (Or.inr rfl))) (fun _ _ _ _ _ => pts_nil) (fun _ _ _ _ _ => (pe_tup (pa_cons (pe_callB (k_len (K := K) rfl) (by rfl) T.n_len (by decide +kernel) (pa_cons (pv 3) pa_nil)) (pa_cons (pv 3) pa_nil))))) pa_nil))) (blkOk_by (by kernel_rfl)) (fun _ _ _ _ _ => (k_pg_tup (K := K) (n := 2) rfl rfl (pgs_cons (pg_name (i := 4) sc_lots_of.nd rfl (Or.inl rfl) (Or.inr rfl)) (pgs_cons (pg_name (i := 3) sc_lots_of.nd rfl (Or.inl rfl) (Or.inr rfl)) pgs_nil)) rfl)) (fun _ _ _ _ _ => pts_nil) (fun _ _ _ _ _ => (pv 3))))))), ?_⟩
  refine q_of (x_asg (i := 1) he (show 1 < 5 from by decide) (ewF_lst (α := (List Int)) he.ne (eal_cons (ev_tup (α := Int) eal_nil (Nat.zero_le _)) eal_nil)) hm fun x_found_1 v_2 σ1 H1 (he : EnvOk H (fun _ => True) [some (bG a_rooms v_rooms), some (bN (Ls.mk x_found_1.l) v_2), none, none, none] σ1 H1) hm => ?_)
  refine q_of (x_for (S := (List (List Int))) he (srcW_rng1 (ew_ret (ev_get (i := 0) he.r rfl))) hm (fun F8 s0 σ0 H0 => ∃ w_found, EnvOk H F8 [some (bG a_rooms v_rooms), some (bN (Ls.mk s0) w_found), none, none, none] σ0 H0) (fun F8 H1 he => ⟨v_2, he⟩) (fun F8 s0 σ0 H0 ⟨w_found, he⟩ => he.frm) (fun F8 s0 σ0 H0 H1 g0 ⟨w_found, he⟩ => ⟨w_found, he.mono g0⟩) (fun F8 s0 σ0 H0 i0 ⟨w_found, he⟩ => ⟨w_found, he.imp i0⟩) (fun F8 x_room_9 v_10 y12 σ1 H1 k7 N hn4 hI hx hm => ?_) (fun y13 σ1 H1 hI hm => ?_))
  · obtain ⟨v_14, he⟩ := hI
    refine tg_name (i := 2) he (show 2 < 5 from by decide) hx fun σ2 he => ?_
    have he : EnvOk H F8 [some (bG a_rooms v_rooms), some (bN (Ls.mk y12) v_14), some (bN x_room_9 v_10), none, none] σ2 _ := he
    refine (x_asg (i := 1) he (show 1 < 5 from by decide) (ewF_l2 th2_op (ew_ret (ev_get (i := 1) he.r rfl)) (ew_F (ewF_lcN (j := 3) he.r (srcC_lst (ew_ret (ev_get (i := 1) he.r rfl))) (show 3 < 5 from by decide) (by decide) (fun x_lot_17 _ _ _ hr16 => ewt_yes) (fun x_lot_17 _ _ _ hr16 => (ewF_I (ew_catT (ev_get (i := 3) hr16 rfl) (ev_tup (α := Int) (eal_cons (ev_get (i := 2) hr16 rfl) eal_nil) (show 1 ≤ _ by decide))))))) fun z18 z19 _ _ H9 g9 r0 r1 => (ewF_catL (g9.neat he.ne) (ev_c (d := Ls.mk z18.l) r0) (ev_c (d := Ls.mk z19.l) r1))) hm fun x_found_20 v_21 σ1 H1 (he : EnvOk H F8 [some (bG a_rooms v_rooms), some (bN (Ls.mk x_found_20.l) v_21), some (bN x_room_9 v_10), none, none] σ1 H1) hm => ?_)
    have he := he.drop (i := 2)
    exact hn4 x_found_20.l _ _ ⟨v_21, he⟩ hm
  · first | refine e_of ?_ | skip
    obtain ⟨v_23, he⟩ := hI
    have he : EnvOk H (fun _ => True) [some (bG a_rooms v_rooms), some (bN (Ls.mk y13) v_23), none, none, none] σ1 H1 := he
    exact x_ret he (ewF_lcP (K := K) (i := 4) (j := 3) he.r (SrcW.c (srcW_lst (ewF_l1 th1_cb (ew_F (ewF_lcN (j := 3) he.r (srcC_lst (ew_ret (ev_get (i := 1) he.r rfl))) (show 3 < 5 from by decide) (by decide) (fun x_lot_26 _ _ _ hr25 => ewt_yes) (fun x_lot_26 _ _ _ hr25 => (ew_r (ev_pair (ev_lenT (ev_get (i := 3) hr25 rfl)) (ev_get (i := 3) hr25 rfl)))))) fun z27 _ H9 g9 r0 => (ewF_sortedL (g9.neat he.ne) (ev_c (d := Ls.mk z27.l) r0))))) (show 4 < 5 from by decide) (show 3 < 5 from by decide) (by decide) (by decide) (fun x_size_31 x_lot_32 _ _ _ _ hr29 => ewt_yes) (fun x_size_31 x_lot_32 _ _ _ _ hr29 => (ew_r (ev_get (i := 3) hr29 rfl)))) hm kq

theorem w_best_rows (T : Ctx K mg) : FnOk P w K mg base CX0 4 T.a_best_rows T.fd_best_rows ["house"] (SpW1 (fun (a_house : (Hs T.C_House)) => M_best_rows (C := T.C_House) a_house)) := by
  have G_lots_of := w_lots_of (P := P) (w := w) (base := base) T
  have G_reached_by := w_reached_by (P := P) (w := w) (base := base) T
  refine T.F_best_rows.ok sc_best_rows (fun vs H Q E h => h.len) (fun cdv A outer s H vs Q E hr h => ?_)
  obtain ⟨hne, v_house, a_house, rfl, r_house, Pq, hm, kq⟩ := h
  have he : EnvOk H (fun _ => True) [some (bG a_house v_house), none, none, none, none, none, none, none, none] (L2.start ["house", "found", "lot", "some", "room", "rest", "other", "many", "row"] [v_house]) H := env0 (show Ini [some (bG a_house v_house), none, none, none, none, none, none, none, none] [some v_house, none, none, none, none, none, none, none, none] H from ⟨rfl, rfl, r_house, trivial⟩) hne
  unfold M_best_rows at hm
  refine ⟨_, (pss_cons (ps_set (i := 1) sc_best_rows.nd rfl (Or.inl rfl) (pe_dispT1 (show _ + 2 < cLine from Nat.lt_of_le_of_lt (Nat.add_le_add_left (by decide) _) hr.units) (pe_tup pa_nil) (pe_tup (pa_cons pe_int (pa_cons (pe_tup pa_nil) pa_nil)))))
      (pss_cons (ps_for PassesOwn.never rfl (k_pi_list (K := K) rfl (pe_slice (k_sl_list (K := K) rfl) (pe_call (G_lots_of) (hr.mono (by first | decide | omega)) (by rfl) T.m_lots_of T.F_lots_of.kp T.b_lots_of .nil pass0 (pa_cons (k_fld (K := K) rfl (pv 0) rfl) pa_nil)) (po_some pe_int) po_none)) (pg_name (i := 2) sc_best_rows.nd rfl (Or.inl rfl) (Or.inr rfl))
      (pss_cons (ps_set (i := 3) sc_best_rows.nd rfl (Or.inl rfl) (pe_lst pa_nil))
      (pss_cons (ps_for PassesOwn.never rfl (k_pi_tup (K := K) rfl (pv 2)) (pg_name (i := 4) sc_best_rows.nd rfl (Or.inr rfl) (Or.inl rfl))
      (pss_cons (ps_set (i := 5) sc_best_rows.nd rfl (Or.inl rfl) (pe_callTy (k_tuple_of (K := K) rfl) (by rfl) T.n_tuple (by decide +kernel) (pa_cons (pe_lc (own := [("other", 6)]) rfl sc_best_rows.nd (k_pi_tup (K := K) rfl (pv 2)) (blkOk_by (by kernel_rfl)) (fun _ _ _ _ _ => (pg_name (i := 6) sc_best_rows.nd rfl (Or.inl rfl) (Or.inr rfl))) (fun _ _ _ _ _ => (pts_one (pt_cmpR op_ne (pv 6) (pv 4) (nomark _)))) (fun _ _ _ _ _ => (pv 6))) pa_nil)))
      (pss_cons (ps_asg (pe_dget (hu_of hr) (pv 1) (pv 5) (fun _ _ => rfl)) (k_pg_tup (K := K) (n := 2) rfl rfl (pgs_cons (pg_name (i := 7) sc_best_rows.nd rfl (Or.inl rfl) (Or.inr rfl)) (pgs_cons (pg_name (i := 8) sc_best_rows.nd rfl (Or.inl rfl) (Or.inr rfl)) pgs_nil)) rfl))
      (pss_one (ps_expr (k_bm (K := K) rfl PySem.F.plainAttrs_list PySem.F.slot_list_append PySem.F.type_list_append mt_append (pv 3) (pa_cons (pe_tup (pa_cons (pe_callB (call_max2 rfl) (by rfl) T.n_max (by decide +kernel) (pa_cons (pv 7) (pa_cons (pe_callB (k_len (K := K) rfl) (by rfl) T.n_len (by decide +kernel) (pa_cons (pe_call (G_reached_by) (hr.mono (by first | decide | omega)) (by rfl) T.m_reached_by T.F_reached_by.kp T.b_reached_by .nil pass0 (pa_cons (pv 0) (pa_cons (pv 5) (pa_cons (pv 4) pa_nil)))) pa_nil)) pa_nil))) (pa_cons (pe_op (k_catT (K := K) rfl) (pv 8) (pe_tup (pa_cons (pv 4) pa_nil))) pa_nil))) pa_nil)))))))
      (pss_one (ps_dput (hu_of hr) (pv 1) (pv 2) (pe_callB (cr_minG rfl hr.units) (by rfl) T.n_min (by decide +kernel) (pa_cons (pv 3) pa_nil)) rfl)))))
      (pss_one (ps_ret (pv 1))))), ?_⟩
  refine q_of (x_asg (i := 1) he (show 1 < 9 from by decide) (ewF_dispT1 he.ne (ev_tup (α := Int) eal_nil (Nat.zero_le _)) (ev_pair ev_int (ev_tup (α := Int) eal_nil (Nat.zero_le _)))) hm fun x_found_1 v_2 σ1 H1 (he : EnvOk H (fun _ => True) [some (bG a_house v_house), some (bN (DT.mk x_found_1.kv) v_2), none, none, none, none, none, none, none] σ1 H1) hm => ?_)
  refine q_of (x_for (S := (List (List Int × (Int × (List Int))))) he (srcW_lst (ewF_l1 th1_sl (ew_F (ew_call1 he.ne (ev_rooms T.cl_House T.na_House_rooms (ev_get (i := 0) he.r rfl)))) fun z3 _ H9 g9 r0 => (ewF_slL (g9.neat he.ne) (ev_c (d := Ls.mk z3.l) r0) (eo_some ev_int) eo_none))) hm (fun F9 s0 σ0 H0 => ∃ w_found, EnvOk H F9 [some (bG a_house v_house), some (bN (DT.mk s0) w_found), none, none, none, none, none, none, none] σ0 H0) (fun F9 H1 he => ⟨v_2, he⟩) (fun F9 s0 σ0 H0 ⟨w_found, he⟩ => he.frm) (fun F9 s0 σ0 H0 H1 g0 ⟨w_found, he⟩ => ⟨w_found, he.mono g0⟩) (fun F9 s0 σ0 H0 i0 ⟨w_found, he⟩ => ⟨w_found, he.imp i0⟩) (fun F9 x_lot_10 v_11 y13 σ1 H1 k8 N hn5 hI hx hm => ?_) (fun y14 σ1 H1 hI hm => ?_))
  · obtain ⟨v_15, he⟩ := hI
    refine tg_name (i := 2) he (show 2 < 9 from by decide) hx fun σ2 he => ?_
    have he : EnvOk H F9 [some (bG a_house v_house), some (bN (DT.mk y13) v_15), some (bN x_lot_10 v_11), none, none, none, none, none, none] σ2 _ := he
    refine q_of (x_asg (i := 3) he (show 3 < 9 from by decide) (ewF_nil (α := (Int × (List Int))) he.ne) hm fun x_some_16 v_17 σ1 H1 (he : EnvOk H F9 [some (bG a_house v_house), some (bN (DT.mk y13) v_15), some (bN x_lot_10 v_11), some (bN (Ls.mk x_some_16.l) v_17), none, none, none, none, none] σ1 H1) hm => ?_)
    refine q_of (x_for (S := (List (Int × (List Int)))) he (srcW_tup (ew_ret (ev_get (i := 2) he.r rfl))) hm (fun F22 s0 σ0 H0 => ∃ w_some, EnvOk H F22 [some (bG a_house v_house), some (bN (DT.mk y13) v_15), some (bN x_lot_10 v_11), some (bN (Ls.mk s0) w_some), none, none, none, none, none] σ0 H0) (fun F22 H1 he => ⟨v_17, he⟩) (fun F22 s0 σ0 H0 ⟨w_some, he⟩ => he.frm) (fun F22 s0 σ0 H0 H1 g0 ⟨w_some, he⟩ => ⟨w_some, he.mono g0⟩) (fun F22 s0 σ0 H0 i0 ⟨w_some, he⟩ => ⟨w_some, he.imp i0⟩) (fun F22 x_room_23 v_24 y26 σ1 H1 k21 N hn18 hI hx hm => ?_) (fun y27 σ1 H1 hI hm => ?_))
    · obtain ⟨v_28, he⟩ := hI
      refine tg_name (i := 4) he (show 4 < 9 from by decide) hx fun σ2 he => ?_
      have he : EnvOk H F22 [some (bG a_house v_house), some (bN (DT.mk y13) v_15), some (bN x_lot_10 v_11), some (bN (Ls.mk y26) v_28), some (bN x_room_23 v_24), none, none, none, none] σ2 _ := he
      refine q_of (x_asg (i := 5) he (show 5 < 9 from by decide) (ewF_I (ew_l1 th1_cb (ew_F (ewF_lcN (j := 6) he.r (SrcW.c (srcW_tup (ew_ret (ev_get (i := 2) he.r rfl)))) (show 6 < 9 from by decide) (by decide) (fun x_other_30 _ _ _ hr29 => (ewt_ret (et_test (ev_neI (ev_get (i := 6) hr29 rfl) (ev_get (i := 4) hr29 rfl))))) (fun x_other_30 _ _ _ hr29 => (ew_r (ev_get (i := 6) hr29 rfl))))) fun z31 _ H9 g9 r0 => (ew_ret (ev_tupL (ev_c (d := Ls.mk z31.l) r0))))) hm fun x_rest_32 v_33 σ1 H1 (he : EnvOk H F22 [some (bG a_house v_house), some (bN (DT.mk y13) v_15), some (bN x_lot_10 v_11), some (bN (Ls.mk y26) v_28), some (bN x_room_23 v_24), some (bN x_rest_32 v_33), none, none, none] σ1 H1) hm => ?_)
      refine q_of (x_unp (K := K) (i := 7) (j := 8) he (show 7 < 9 from by decide) (show 8 < 9 from by decide) (ew_getDT (ev_get (i := 1) he.r rfl) (ev_get (i := 5) he.r rfl)) hm fun x_many_35 x_row_36 v_37 v_38 σ1 H1 (he : EnvOk H F22 [some (bG a_house v_house), some (bN (DT.mk y13) v_15), some (bN x_lot_10 v_11), some (bN (Ls.mk y26) v_28), some (bN x_room_23 v_24), some (bN x_rest_32 v_33), none, some (bN x_many_35 v_37), some (bN x_row_36 v_38)] σ1 H1) hm => ?_)
      refine (x_app (i := 3) he rfl (ew_l2 th2_tup (ew_l2 th2_cb (ew_ret (ev_get (i := 7) he.r rfl)) (ew_l1 th1_cb (ew_F (ew_call3 he.ne (ev_get (i := 0) he.r rfl) (ev_get (i := 5) he.r rfl) (ev_get (i := 4) he.r rfl))) fun z40 _ H9 g9 r0 => (ew_ret (ev_lenT (ev_c r0)))) fun z41 z42 _ _ H9 g9 r0 r1 => (ew_ret (ev_max2 (ev_c r0) (ev_c r1)))) (ew_catT (ev_get (i := 8) he.r rfl) (ev_tup (α := Int) (eal_cons (ev_get (i := 4) he.r rfl) eal_nil) (show 1 ≤ _ by decide))) fun z43 z44 _ _ H9 g9 r0 r1 => (ew_ret (ev_pair (ev_c r0) (ev_c r1)))) hm fun a45 H1 (he : EnvOk H F22 [some (bG a_house v_house), some (bN (DT.mk y13) v_15), some (bN x_lot_10 v_11), some (bN (Ls.mk (y26 ++ [a45])) v_28), some (bN x_room_23 v_24), some (bN x_rest_32 v_33), none, some (bN x_many_35 v_37), some (bN x_row_36 v_38)] _ H1) hm => ?_)
      have he := he.drop (i := 4)
      have he := he.drop (i := 5)
      have he := he.drop (i := 7)
      have he := he.drop (i := 8)
      exact hn18 (y26 ++ [a45]) _ _ ⟨v_28, he⟩ hm
    · first | refine e_of ?_ | skip
      obtain ⟨v_47, he⟩ := hI
      have he : EnvOk H F9 [some (bG a_house v_house), some (bN (DT.mk y13) v_15), some (bN x_lot_10 v_11), some (bN (Ls.mk y27) v_47), none, none, none, none, none] σ1 H1 := he
      refine (x_putDT (i := 1) he rfl (ew_minG (ev_get (i := 3) he.r rfl)) (ew_ret (ev_get (i := 2) he.r rfl)) hm fun x_found_48 H1 (he : EnvOk H F9 [some (bG a_house v_house), some (bN (DT.mk x_found_48) v_15), some (bN x_lot_10 v_11), some (bN (Ls.mk y27) v_47), none, none, none, none, none] _ H1) hm => ?_)
      have he := he.drop (i := 2)
      have he := he.drop (i := 3)
      exact hn5 x_found_48 _ _ ⟨v_15, he⟩ hm
  · first | refine e_of ?_ | skip
    obtain ⟨v_53, he⟩ := hI
    have he : EnvOk H (fun _ => True) [some (bG a_house v_house), some (bN (DT.mk y14) v_53), none, none, none, none, none, none, none] σ1 H1 := he
    exact x_retV (i := 1) he rfl hm kq

theorem w_best_row (T : Ctx K mg) : FnOk P w K mg base CX0 5 T.a_best_row T.fd_best_row ["house"] (SpW1 (fun (a_house : (Hs T.C_House)) => M_best_row (C := T.C_House) a_house)) := by
  have G_best_rows := w_best_rows (P := P) (w := w) (base := base) T
  refine T.F_best_row.ok sc_best_row (fun vs H Q E h => h.len) (fun cdv A outer s H vs Q E hr h => ?_)
  obtain ⟨hne, v_house, a_house, rfl, r_house, Pq, hm, kq⟩ := h
  have he : EnvOk H (fun _ => True) [some (bG a_house v_house)] (L2.start ["house"] [v_house]) H := env0 (show Ini [some (bG a_house v_house)] [some v_house] H from ⟨rfl, rfl, r_house, trivial⟩) hne
  unfold M_best_row at hm
  refine ⟨_, (pss_one (ps_ret (pe_dget (hu_of hr) (pe_call (G_best_rows) (hr.mono (by first | decide | omega)) (by rfl) T.m_best_rows T.F_best_rows.kp T.b_best_rows .nil pass0 (pa_cons (pv 0) pa_nil)) (pe_tupRg rfl (by rfl) T.n_tuple (prg_1 (by rfl) T.n_range (k_fld (K := K) rfl (pv 0) rfl))) (fun _ _ => rfl)))), ?_⟩
  exact x_ret he (ewF_I (ew_l2 th2_dget (ew_F (ew_call1 he.ne (ev_get (i := 0) he.r rfl))) (ew_tupRg1 (ev_rooms T.cl_House T.na_House_rooms (ev_get (i := 0) he.r rfl))) fun z1 z2 _ _ H9 g9 r0 r1 => (ew_getDT (ev_c (d := DT.mk z1.kv) r0) (ev_c r1)))) hm kq

theorem w_fewest_fast (T : Ctx K mg) : FnOk P w K mg base CX0 6 T.a_fewest_fast T.fd_fewest_fast ["house"] (SpW1 (fun (a_house : (Hs T.C_House)) => M_fewest_fast (C := T.C_House) a_house)) := by
  have G_best_row := w_best_row (P := P) (w := w) (base := base) T
  refine T.F_fewest_fast.ok sc_fewest_fast (fun vs H Q E h => h.len) (fun cdv A outer s H vs Q E hr h => ?_)
  obtain ⟨hne, v_house, a_house, rfl, r_house, Pq, hm, kq⟩ := h
  have he : EnvOk H (fun _ => True) [some (bG a_house v_house)] (L2.start ["house"] [v_house]) H := env0 (show Ini [some (bG a_house v_house)] [some v_house] H from ⟨rfl, rfl, r_house, trivial⟩) hne
  unfold M_fewest_fast at hm
  refine ⟨_, (pss_one (ps_ret (pe_op op_add (pe_ix (k_ix_tup (K := K) rfl) (pe_call (G_best_row) (hr.mono (by first | decide | omega)) (by rfl) T.m_best_row T.F_best_row.kp T.b_best_row .nil pass0 (pa_cons (pv 0) pa_nil)) pe_int (fun _ _ => rfl)) pe_int))), ?_⟩
  exact x_ret he (ewF_I (ew_l2 th2_op (ew_l1 th1_fst (ew_F (ew_call1 he.ne (ev_get (i := 0) he.r rfl))) fun z1 _ H9 g9 r0 => (ew_ret (ev_fst (ev_c r0)))) (ew_ret ev_int) fun z2 z3 _ _ H9 g9 r0 r1 => (ew_ret (ev_add (ev_c r0) (ev_c r1))))) hm kq

theorem w_less (T : Ctx K mg) : FnOk P w K mg base CX0 7 T.a_less T.fd_less ["house", "a", "b"] (SpW3 (fun (a_house : (Hs T.C_House)) (a_a : Int) (a_b : Int) => M_less (C := T.C_House) a_house a_a a_b)) := by
  have G_House___init__ := w_House___init__ (P := P) (w := w) (base := base) T
  refine T.F_less.ok sc_less (fun vs H Q E h => h.len) (fun cdv A outer s H vs Q E hr h => ?_)
  obtain ⟨hne, v_house, v_a, v_b, a_house, a_a, a_b, rfl, r_house, r_a, r_b, Pq, hm, kq⟩ := h
  have he : EnvOk H (fun _ => True) [some (bG a_house v_house), some (bG a_a v_a), some (bG a_b v_b), none] (L2.start ["house", "a", "b", "door"] [v_house, v_a, v_b]) H := env0 (show Ini [some (bG a_house v_house), some (bG a_a v_a), some (bG a_b v_b), none] [some v_house, some v_a, some v_b, none] H from ⟨rfl, rfl, r_house, rfl, rfl, r_a, rfl, rfl, r_b, trivial⟩) hne
  unfold M_less at hm
  refine ⟨_, (pss_one (ps_ret (pe_make T.mk_House (G_House___init__) (hr.mono (by first | decide | omega)) (by rfl) T.m_House T.b_House___init__ .nil pass0 (pa_cons (k_fld (K := K) rfl (pv 0) rfl) (pa_cons (pe_callTy (k_tuple_of (K := K) rfl) (by rfl) T.n_tuple (by decide +kernel) (pa_cons (pe_lc (own := [("door", 3)]) rfl sc_less.nd (k_pi_tup (K := K) rfl (k_fld (K := K) rfl (pv 0) rfl)) (blkOk_by (by kernel_rfl)) (fun _ _ _ _ _ => (pg_name (i := 3) sc_less.nd rfl (Or.inl rfl) (Or.inr rfl))) (fun _ _ _ _ _ => (pts_one (pt_cmpR (k_neD (K := K) rfl hr.units) (pv 3) (pe_tup (pa_cons (pv 1) (pa_cons (pv 2) pa_nil))) (nomark _)))) (fun _ _ _ _ _ => (pv 3))) pa_nil)) pa_nil))))), ?_⟩
  exact x_ret he (ewF_Hs (ew_l2 th2_make (ew_ret (ev_rooms T.cl_House T.na_House_rooms (ev_get (i := 0) he.r rfl))) (ew_l1 th1_cb (ew_F (ewF_lcN (j := 3) he.r (SrcW.c (srcW_tup (ew_ret (ev_doors T.cl_House T.na_House_doors (ev_get (i := 0) he.r rfl))))) (show 3 < 4 from by decide) (by decide) (fun x_door_2 _ _ _ hr1 => (ewt_ret (et_test (ev_neD (ev_get (i := 3) hr1 rfl) (ev_pair (ev_get (i := 1) hr1 rfl) (ev_get (i := 2) hr1 rfl)))))) (fun x_door_2 _ _ _ hr1 => (ew_r (ev_get (i := 3) hr1 rfl))))) fun z3 _ H9 g9 r0 => (ew_ret (ev_tupL (ev_c (d := Ls.mk z3.l) r0)))) fun z4 z5 _ _ H9 g9 r0 r1 => (ew_make (g9.neat he.ne) (ev_c r0) (ev_c r1)))) hm kq

theorem w_numbered (T : Ctx K mg) : FnOk P w K mg base CX0 1 T.a_numbered T.fd_numbered ["room", "gone"] (SpW2 (fun (a_room : Int) (a_gone : Int) => M_numbered a_room a_gone)) := by
  refine T.F_numbered.ok sc_numbered (fun vs H Q E h => h.len) (fun cdv A outer s H vs Q E hr h => ?_)
  obtain ⟨hne, v_room, v_gone, a_room, a_gone, rfl, r_room, r_gone, Pq, hm, kq⟩ := h
  have he : EnvOk H (fun _ => True) [some (bG a_room v_room), some (bG a_gone v_gone)] (L2.start ["room", "gone"] [v_room, v_gone]) H := env0 (show Ini [some (bG a_room v_room), some (bG a_gone v_gone)] [some v_room, some v_gone] H from ⟨rfl, rfl, r_room, rfl, rfl, r_gone, trivial⟩) hne
  unfold M_numbered at hm
  refine ⟨_, (pss_one (ps_ret (pe_ifExp (pt_cmpR op_gt (pv 0) (pv 1) (nomark _)) (pe_op op_sub (pv 0) pe_int) (pv 0)))), ?_⟩
  exact x_ret he (ew_r (ev_if (et_test (ev_gt (ev_get (i := 0) he.r rfl) (ev_get (i := 1) he.r rfl))) (fun _ => (ev_sub (ev_get (i := 0) he.r rfl) ev_int)) (fun _ => (ev_get (i := 0) he.r rfl)))) hm kq

theorem w_without (T : Ctx K mg) : FnOk P w K mg base CX0 7 T.a_without T.fd_without ["house", "a"] (SpW2 (fun (a_house : (Hs T.C_House)) (a_a : Int) => M_without (C := T.C_House) a_house a_a)) := by
  have G_House___init__ := w_House___init__ (P := P) (w := w) (base := base) T
  have G_numbered := w_numbered (P := P) (w := w) (base := base) T
  refine T.F_without.ok sc_without (fun vs H Q E h => h.len) (fun cdv A outer s H vs Q E hr h => ?_)
  obtain ⟨hne, v_house, v_a, a_house, a_a, rfl, r_house, r_a, Pq, hm, kq⟩ := h
  have he : EnvOk H (fun _ => True) [some (bG a_house v_house), some (bG a_a v_a), none, none, none] (L2.start ["house", "a", "doors", "one", "other"] [v_house, v_a]) H := env0 (show Ini [some (bG a_house v_house), some (bG a_a v_a), none, none, none] [some v_house, some v_a, none, none, none] H from ⟨rfl, rfl, r_house, rfl, rfl, r_a, trivial⟩) hne
  unfold M_without at hm
  refine ⟨_, (pss_cons (ps_setLc (i := 2) (own := [("one", 3), ("other", 4)]) rfl sc_without.nd rfl rfl (sw_true rfl rfl rfl (by decide +kernel)) (k_pi_tup (K := K) rfl (k_fld (K := K) rfl (pv 0) rfl)) (blkOk_by (by kernel_rfl)) (fun _ _ _ _ _ => (k_pg_tup (K := K) (n := 2) rfl rfl (pgs_cons (pg_name (i := 3) sc_without.nd rfl (Or.inl rfl) (Or.inr rfl)) (pgs_cons (pg_name (i := 4) sc_without.nd rfl (Or.inl rfl) (Or.inr rfl)) pgs_nil)) rfl)) (fun _ _ _ _ _ => (pts_one (pt_cmpR (k_notIn_seq (K := K) rfl) (pv 1) (pe_tup (pa_cons (pv 3) (pa_cons (pv 4) pa_nil))) (by rfl)))) (fun _ _ _ _ _ => (pe_tup (pa_cons (pe_call (G_numbered) (hr.mono (by first | decide | omega)) (by rfl) T.m_numbered T.F_numbered.kp T.b_numbered .nil pass0 (pa_cons (pv 3) (pa_cons (pv 1) pa_nil))) (pa_cons (pe_call (G_numbered) (hr.mono (by first | decide | omega)) (by rfl) T.m_numbered T.F_numbered.kp T.b_numbered .nil pass0 (pa_cons (pv 4) (pa_cons (pv 1) pa_nil))) pa_nil)))))
      (pss_one (ps_ret (pe_make T.mk_House (G_House___init__) (hr.mono (by first | decide | omega)) (by rfl) T.m_House T.b_House___init__ .nil pass0 (pa_cons (pe_op op_sub (k_fld (K := K) rfl (pv 0) rfl) pe_int) (pa_cons (pe_callTy (k_tuple_of (K := K) rfl) (by rfl) T.n_tuple (by decide +kernel) (pa_cons (pe_callB (cr_sortedG rfl hr.units) (by rfl) T.n_sorted (by decide +kernel) (pa_cons (pv 2) pa_nil)) pa_nil)) pa_nil)))))), ?_⟩
  refine q_of (x_asg (i := 2) he (show 2 < 5 from by decide) (ewF_lcP (K := K) (i := 3) (j := 4) he.r (SrcW.c (srcW_tup (ew_ret (ev_doors T.cl_House T.na_House_doors (ev_get (i := 0) he.r rfl))))) (show 3 < 5 from by decide) (show 4 < 5 from by decide) (by decide) (by decide) (fun x_one_3 x_other_4 _ _ _ _ hr1 => (ewt_ret (et_test (ev_ninI (ev_get (i := 1) hr1 rfl) (ev_castPT (ev_pair (ev_get (i := 3) hr1 rfl) (ev_get (i := 4) hr1 rfl))))))) (fun x_one_3 x_other_4 _ _ _ _ hr1 => (ewF_I (ew_l2 th2_tup (ew_F (ew_call2 hr1.ne (ev_get (i := 3) hr1 rfl) (ev_get (i := 1) hr1 rfl))) (ew_F (ew_call2 hr1.ne (ev_get (i := 4) hr1 rfl) (ev_get (i := 1) hr1 rfl))) fun z5 z6 _ _ H9 g9 r0 r1 => (ew_ret (ev_pair (ev_c r0) (ev_c r1))))))) hm fun x_doors_7 v_8 σ1 H1 (he : EnvOk H (fun _ => True) [some (bG a_house v_house), some (bG a_a v_a), some (bN (Ls.mk x_doors_7.l) v_8), none, none] σ1 H1) hm => ?_)
  exact x_ret he (ewF_Hs (ew_l2 th2_make (ew_ret (ev_sub (ev_rooms T.cl_House T.na_House_rooms (ev_get (i := 0) he.r rfl)) ev_int)) (ew_l1 th1_cb (ew_F (ewF_sortedL he.ne (ev_get (i := 2) he.r rfl))) fun z9 _ H9 g9 r0 => (ew_ret (ev_tupL (ev_c (d := Ls.mk z9.l) r0)))) fun z10 z11 _ _ H9 g9 r0 r1 => (ew_make (g9.neat he.ne) (ev_c r0) (ev_c r1)))) hm kq

theorem w_one_of (T : Ctx K mg) : FnOk P w K mg base CX0 7 T.a_one_of T.fd_one_of ["house", "a", "b"] (SpW3 (fun (a_house : (Hs T.C_House)) (a_a : Int) (a_b : Int) => M_one_of (C := T.C_House) a_house a_a a_b)) := by
  have G_House___init__ := w_House___init__ (P := P) (w := w) (base := base) T
  have G_numbered := w_numbered (P := P) (w := w) (base := base) T
  refine T.F_one_of.ok sc_one_of (fun vs H Q E h => h.len) (fun cdv A outer s H vs Q E hr h => ?_)
  obtain ⟨hne, v_house, v_a, v_b, a_house, a_a, a_b, rfl, r_house, r_a, r_b, Pq, hm, kq⟩ := h
  have he : EnvOk H (fun _ => True) [some (bG a_house v_house), some (bG a_a v_a), some (bG a_b v_b), none, none, none, none, none] (L2.start ["house", "a", "b", "doors", "one", "other", "pair", "room"] [v_house, v_a, v_b]) H := env0 (show Ini [some (bG a_house v_house), some (bG a_a v_a), some (bG a_b v_b), none, none, none, none, none] [some v_house, some v_a, some v_b, none, none, none, none, none] H from ⟨rfl, rfl, r_house, rfl, rfl, r_a, rfl, rfl, r_b, trivial⟩) hne
  unfold M_one_of at hm
  refine ⟨_, (pss_cons (ps_set (i := 3) sc_one_of.nd rfl (Or.inl rfl) pe_dnewT)
      (pss_cons (ps_for PassesOwn.never rfl (k_pi_tup (K := K) rfl (k_fld (K := K) rfl (pv 0) rfl)) (k_pg_tup (K := K) (n := 2) rfl rfl (pgs_cons (pg_name (i := 4) sc_one_of.nd rfl (Or.inl rfl) (Or.inr rfl)) (pgs_cons (pg_name (i := 5) sc_one_of.nd rfl (Or.inl rfl) (Or.inr rfl)) pgs_nil)) rfl)
      (pss_cons (ps_setLc (i := 6) (own := [("room", 7)]) rfl sc_one_of.nd rfl rfl (sw_true rfl rfl rfl (by decide +kernel)) (k_pi_tup (K := K) rfl (pe_tup (pa_cons (pv 4) (pa_cons (pv 5) pa_nil)))) (blkOk_by (by kernel_rfl)) (fun _ _ _ _ _ => (pg_name (i := 7) sc_one_of.nd rfl (Or.inl rfl) (Or.inr rfl))) (fun _ _ _ _ _ => pts_nil) (fun _ _ _ _ _ => (pe_ifExp (pt_cmpR op_eq (pv 7) (pv 2) (nomark _)) (pv 1) (pv 7))))
      (pss_one (ps_if (pt_cmpR op_ne (pe_ix (k_ix_list (K := K) rfl) (pv 6) pe_int (fun _ _ => rfl)) (pe_ix (k_ix_list (K := K) rfl) (pv 6) pe_int (fun _ _ => rfl)) (nomark _)) (pss_one (ps_dput (hu_of hr) (pv 3) (pe_callTy (k_tuple_of (K := K) rfl) (by rfl) T.n_tuple (by decide +kernel) (pa_cons (pe_callB (cr_sortedG rfl hr.units) (by rfl) T.n_sorted (by decide +kernel) (pa_cons (pe_lc (own := [("room", 7)]) rfl sc_one_of.nd (k_pi_list (K := K) rfl (pv 6)) (blkOk_by (by kernel_rfl)) (fun _ _ _ _ _ => (pg_name (i := 7) sc_one_of.nd rfl (Or.inl rfl) (Or.inr rfl))) (fun _ _ _ _ _ => pts_nil) (fun _ _ _ _ _ => (pe_call (G_numbered) (hr.mono (by first | decide | omega)) (by rfl) T.m_numbered T.F_numbered.kp T.b_numbered .nil pass0 (pa_cons (pv 7) (pa_cons (pv 2) pa_nil))))) pa_nil)) pa_nil)) pe_bl rfl)) pss_nil))))
      (pss_one (ps_ret (pe_make T.mk_House (G_House___init__) (hr.mono (by first | decide | omega)) (by rfl) T.m_House T.b_House___init__ .nil pass0 (pa_cons (pe_op op_sub (k_fld (K := K) rfl (pv 0) rfl) pe_int) (pa_cons (pe_callTy (k_tuple_of (K := K) rfl) (by rfl) T.n_tuple (by decide +kernel) (pa_cons (pe_callB (cr_sortedG rfl hr.units) (by rfl) T.n_sorted (by decide +kernel) (pa_cons (pv 3) pa_nil)) pa_nil)) pa_nil))))))), ?_⟩
  refine q_of (x_asg (i := 3) he (show 3 < 8 from by decide) (ewF_newDT he.ne) hm fun x_doors_1 v_2 σ1 H1 (he : EnvOk H (fun _ => True) [some (bG a_house v_house), some (bG a_a v_a), some (bG a_b v_b), some (bN (DT.mk x_doors_1.kv) v_2), none, none, none, none] σ1 H1) hm => ?_)
  refine q_of (x_for (S := (List (List Int × Bool))) he (srcW_tup (ew_ret (ev_doors T.cl_House T.na_House_doors (ev_get (i := 0) he.r rfl)))) hm (fun F7 s0 σ0 H0 => ∃ w_doors, EnvOk H F7 [some (bG a_house v_house), some (bG a_a v_a), some (bG a_b v_b), some (bN (DT.mk s0) w_doors), none, none, none, none] σ0 H0) (fun F7 H1 he => ⟨v_2, he⟩) (fun F7 s0 σ0 H0 ⟨w_doors, he⟩ => he.frm) (fun F7 s0 σ0 H0 H1 g0 ⟨w_doors, he⟩ => ⟨w_doors, he.mono g0⟩) (fun F7 s0 σ0 H0 i0 ⟨w_doors, he⟩ => ⟨w_doors, he.imp i0⟩) (fun F7 d8 v_9 y11 σ1 H1 k6 N hn3 hI hx hm => ?_) (fun y12 σ1 H1 hI hm => ?_))
  · obtain ⟨v_13, he⟩ := hI
    obtain ⟨x_one_14, x_other_15⟩ := d8
    refine tg_pair (K := K) (i := 4) (j := 5) he (show 4 < 8 from by decide) (show 5 < 8 from by decide) hx fun v_16 v_17 σ2 he => ?_
    have he : EnvOk H F7 [some (bG a_house v_house), some (bG a_a v_a), some (bG a_b v_b), some (bN (DT.mk y11) v_13), some (bN x_one_14 v_16), some (bN x_other_15 v_17), none, none] σ2 _ := he
    refine q_of (x_asg (i := 6) he (show 6 < 8 from by decide) (ewF_lcN (j := 7) he.r (SrcW.c (srcW_tup (ew_ret (ev_tup (α := Int) (eal_cons (ev_get (i := 4) he.r rfl) (eal_cons (ev_get (i := 5) he.r rfl) eal_nil)) (show 2 ≤ _ by decide))))) (show 7 < 8 from by decide) (by decide) (fun x_room_19 _ _ _ hr18 => ewt_yes) (fun x_room_19 _ _ _ hr18 => (ew_r (ev_if (et_test (ev_eqI (ev_get (i := 7) hr18 rfl) (ev_get (i := 2) hr18 rfl))) (fun _ => (ev_get (i := 1) hr18 rfl)) (fun _ => (ev_get (i := 7) hr18 rfl)))))) hm fun x_pair_21 v_22 σ1 H1 (he : EnvOk H F7 [some (bG a_house v_house), some (bG a_a v_a), some (bG a_b v_b), some (bN (DT.mk y11) v_13), some (bN x_one_14 v_16), some (bN x_other_15 v_17), some (bN (Ls.mk x_pair_21.l) v_22), none] σ1 H1) hm => ?_)
    refine (x_if he (ewt_test (ew_l2 th2_op (ew_ixL (ev_get (i := 6) he.r rfl) ev_int) (ew_ixL (ev_get (i := 6) he.r rfl) ev_int) fun z23 z24 _ _ H9 g9 r0 r1 => (ew_ret (ev_neI (ev_c r0) (ev_c r1))))) hm (fun H1 (he : EnvOk H F7 [some (bG a_house v_house), some (bG a_a v_a), some (bG a_b v_b), some (bN (DT.mk y11) v_13), some (bN x_one_14 v_16), some (bN x_other_15 v_17), some (bN (Ls.mk x_pair_21.l) v_22), none] _ H1) hm => ?_) (fun H1 (he : EnvOk H F7 [some (bG a_house v_house), some (bG a_a v_a), some (bG a_b v_b), some (bN (DT.mk y11) v_13), some (bN x_one_14 v_16), some (bN x_other_15 v_17), some (bN (Ls.mk x_pair_21.l) v_22), none] _ H1) hm => ?_))
    · refine (x_putDT (i := 3) he rfl (ew_ret ev_bl) (ew_l1 th1_cb (ew_F (ewF_l1 th1_cb (ew_F (ewF_lcN (j := 7) he.r (srcC_lst (ew_ret (ev_get (i := 6) he.r rfl))) (show 7 < 8 from by decide) (by decide) (fun x_room_28 _ _ _ hr27 => ewt_yes) (fun x_room_28 _ _ _ hr27 => (ew_call2 hr27.ne (ev_get (i := 7) hr27 rfl) (ev_get (i := 2) hr27 rfl))))) fun z29 _ H9 g9 r0 => (ewF_sortedL (g9.neat he.ne) (ev_c (d := Ls.mk z29.l) r0)))) fun z30 _ H9 g9 r0 => (ew_ret (ev_tupL (ev_c (d := Ls.mk z30.l) r0)))) hm fun x_doors_31 H1 (he : EnvOk H F7 [some (bG a_house v_house), some (bG a_a v_a), some (bG a_b v_b), some (bN (DT.mk x_doors_31) v_13), some (bN x_one_14 v_16), some (bN x_other_15 v_17), some (bN (Ls.mk x_pair_21.l) v_22), none] _ H1) hm => ?_)
      have he := he.drop (i := 4)
      have he := he.drop (i := 5)
      have he := he.drop (i := 6)
      exact hn3 x_doors_31 _ _ ⟨v_13, he⟩ hm
    · have he := he.drop (i := 4)
      have he := he.drop (i := 5)
      have he := he.drop (i := 6)
      exact hn3 y11 _ _ ⟨v_13, he⟩ hm
  · first | refine e_of ?_ | skip
    obtain ⟨v_35, he⟩ := hI
    have he : EnvOk H (fun _ => True) [some (bG a_house v_house), some (bG a_a v_a), some (bG a_b v_b), some (bN (DT.mk y12) v_35), none, none, none, none] σ1 H1 := he
    exact x_ret he (ewF_Hs (ew_l2 th2_make (ew_ret (ev_sub (ev_rooms T.cl_House T.na_House_rooms (ev_get (i := 0) he.r rfl)) ev_int)) (ew_l1 th1_id (ew_l1 th1_cb (ew_F (ewF_sortedDT he.ne (ev_get (i := 3) he.r rfl))) fun z36 _ H9 g9 r0 => (ew_ret (ev_tupL (ev_c (d := Ls.mk z36.l) r0)))) fun z37 _ H9 g9 r0 => (ew_castD (ev_c r0))) fun z38 z39 _ _ H9 g9 r0 r1 => (ew_make (g9.neat he.ne) (ev_c r0) (ev_c r1)))) hm kq

theorem w_smaller (T : Ctx K mg) : FnOk P w K mg base CX0 8 T.a_smaller T.fd_smaller ["house"] (SpW1 (fun (a_house : (Hs T.C_House)) => M_smaller (C := T.C_House) a_house)) := by
  have G_fewest_fast := w_fewest_fast (P := P) (w := w) (base := base) T
  have G_less := w_less (P := P) (w := w) (base := base) T
  have G_one_of := w_one_of (P := P) (w := w) (base := base) T
  have G_without := w_without (P := P) (w := w) (base := base) T
  refine T.F_smaller.ok sc_smaller (fun vs H Q E h => h.len) (fun cdv A outer s H vs Q E hr h => ?_)
  obtain ⟨hne, v_house, a_house, rfl, r_house, Pq, hm, kq⟩ := h
  have he : EnvOk H (fun _ => True) [some (bG a_house v_house), none, none, none] (L2.start ["house", "due", "a", "b"] [v_house]) H := env0 (show Ini [some (bG a_house v_house), none, none, none] [some v_house, none, none, none] H from ⟨rfl, rfl, r_house, trivial⟩) hne
  unfold M_smaller at hm
  refine ⟨_, (pss_cons (ps_set (i := 1) sc_smaller.nd rfl (Or.inl rfl) (pe_call (G_fewest_fast) (hr.mono (by first | decide | omega)) (by rfl) T.m_fewest_fast T.F_fewest_fast.kp T.b_fewest_fast .nil pass0 (pa_cons (pv 0) pa_nil)))
      (pss_cons (ps_for PassesOwn.never rfl (k_pi_tup (K := K) rfl (k_fld (K := K) rfl (pv 0) rfl)) (k_pg_tup (K := K) (n := 2) rfl rfl (pgs_cons (pg_name (i := 2) sc_smaller.nd rfl (Or.inl rfl) (Or.inr rfl)) (pgs_cons (pg_name (i := 3) sc_smaller.nd rfl (Or.inl rfl) (Or.inr rfl)) pgs_nil)) rfl)
      (pss_one (ps_if (pt_cmpR op_eq (pe_call (G_fewest_fast) (hr.mono (by first | decide | omega)) (by rfl) T.m_fewest_fast T.F_fewest_fast.kp T.b_fewest_fast .nil pass0 (pa_cons (pe_call (G_less) (hr.mono (by first | decide | omega)) (by rfl) T.m_less T.F_less.kp T.b_less .nil pass0 (pa_cons (pv 0) (pa_cons (pv 2) (pa_cons (pv 3) pa_nil)))) pa_nil)) (pv 1) (nomark _)) (pss_one (ps_ret (pe_tup (pa_cons pe_str (pa_cons (pv 2) (pa_cons (pv 3) pa_nil)))))) pss_nil)))
      (pss_cons (ps_for PassesOwn.never rfl (k_pi_tup (K := K) rfl (k_fld (K := K) rfl (pv 0) rfl)) (k_pg_tup (K := K) (n := 2) rfl rfl (pgs_cons (pg_name (i := 2) sc_smaller.nd rfl (Or.inl rfl) (Or.inr rfl)) (pgs_cons (pg_name (i := 3) sc_smaller.nd rfl (Or.inl rfl) (Or.inr rfl)) pgs_nil)) rfl)
      (pss_one (ps_if (pt_cmpR op_eq (pe_call (G_fewest_fast) (hr.mono (by first | decide | omega)) (by rfl) T.m_fewest_fast T.F_fewest_fast.kp T.b_fewest_fast .nil pass0 (pa_cons (pe_call (G_one_of) (hr.mono (by first | decide | omega)) (by rfl) T.m_one_of T.F_one_of.kp T.b_one_of .nil pass0 (pa_cons (pv 0) (pa_cons (pv 2) (pa_cons (pv 3) pa_nil)))) pa_nil)) (pv 1) (nomark _)) (pss_one (ps_ret (pe_tup (pa_cons pe_str (pa_cons (pv 2) (pa_cons (pv 3) pa_nil)))))) pss_nil)))
      (pss_cons (ps_if (pt_cmpR op_gt (k_fld (K := K) rfl (pv 0) rfl) pe_int (nomark _)) (pss_one (ps_for PassesOwn.never rfl (pi_range1 (by rfl) T.n_range (pa_cons (k_fld (K := K) rfl (pv 0) rfl) pa_nil)) (pg_name (i := 2) sc_smaller.nd rfl (Or.inl rfl) (Or.inr rfl))
      (pss_one (ps_if (pt_cmpR op_eq (pe_call (G_fewest_fast) (hr.mono (by first | decide | omega)) (by rfl) T.m_fewest_fast T.F_fewest_fast.kp T.b_fewest_fast .nil pass0 (pa_cons (pe_call (G_without) (hr.mono (by first | decide | omega)) (by rfl) T.m_without T.F_without.kp T.b_without .nil pass0 (pa_cons (pv 0) (pa_cons (pv 2) pa_nil))) pa_nil)) (pv 1) (nomark _)) (pss_one (ps_ret (pe_tup (pa_cons pe_str (pa_cons (pv 2) pa_nil))))) pss_nil)))) pss_nil)
      (pss_one (ps_ret pe_non)))))), ?_⟩
  refine q_of (x_asg (i := 1) he (show 1 < 4 from by decide) (ew_call1 he.ne (ev_get (i := 0) he.r rfl)) hm fun x_due_1 v_2 σ1 H1 (he : EnvOk H (fun _ => True) [some (bG a_house v_house), some (bN x_due_1 v_2), none, none] σ1 H1) hm => ?_)
  refine q_of (x_forC (S := Unit) (R := (Option ((Tr Str Int Int) ⊕ (Str × Int)))) he (srcW_tup (ew_ret (ev_doors T.cl_House T.na_House_doors (ev_get (i := 0) he.r rfl)))) hm (fun F7 s0 σ0 H0 => EnvOk H F7 [some (bG a_house v_house), some (bN x_due_1 v_2), none, none] σ0 H0) (fun F7 H1 he => he) (fun F7 s0 σ0 H0 he => he.frm) (fun F7 s0 σ0 H0 H1 g0 he => he.mono g0) (fun F7 s0 σ0 H0 i0 he => he.imp i0) (fun F7 d8 v_9 y11 σ1 H1 k6 N hn3 hb4 hr5 hI hx hm => ?_) (fun y12 σ1 H1 hI hm => ?_) (fun r v H1 hm g0 r0 => kq r v H1 hm g0 r0))
  · have he := hI
    obtain ⟨x_a_13, x_b_14⟩ := d8
    refine tg_pair (K := K) (i := 2) (j := 3) he (show 2 < 4 from by decide) (show 3 < 4 from by decide) hx fun v_15 v_16 σ2 he => ?_
    have he : EnvOk H F7 [some (bG a_house v_house), some (bN x_due_1 v_2), some (bN x_a_13 v_15), some (bN x_b_14 v_16)] σ2 _ := he
    refine (x_if he (ewt_test (ew_l2 th2_op (ew_F (ewF_l1 th1_call (ew_F (ew_call3 he.ne (ev_get (i := 0) he.r rfl) (ev_get (i := 2) he.r rfl) (ev_get (i := 3) he.r rfl))) fun z17 _ H9 g9 r0 => (ew_call1 (g9.neat he.ne) (ev_c r0)))) (ew_ret (ev_get (i := 1) he.r rfl)) fun z18 z19 _ _ H9 g9 r0 r1 => (ew_ret (ev_eqI (ev_c r0) (ev_c r1))))) hm (fun H1 (he : EnvOk H F7 [some (bG a_house v_house), some (bN x_due_1 v_2), some (bN x_a_13 v_15), some (bN x_b_14 v_16)] _ H1) hm => ?_) (fun H1 (he : EnvOk H F7 [some (bG a_house v_house), some (bN x_due_1 v_2), some (bN x_a_13 v_15), some (bN x_b_14 v_16)] _ H1) hm => ?_))
    · exact x_ret (P := fun r => k6 (Ctl.rt r)) he (ew_r (ev_someO (ev_inl (β := (Str × Int)) (ev_tr ev_str (ev_get (i := 2) he.r rfl) (ev_get (i := 3) he.r rfl))))) hm hr5
    · have he := he.drop (i := 2)
      have he := he.drop (i := 3)
      exact hn3 () _ _ he hm
  · first | refine e_of ?_ | skip
    have he := hI
    have he : EnvOk H (fun _ => True) [some (bG a_house v_house), some (bN x_due_1 v_2), none, none] σ1 H1 := he
    refine q_of (x_forC (S := Unit) (R := (Option ((Tr Str Int Int) ⊕ (Str × Int)))) he (srcW_tup (ew_ret (ev_doors T.cl_House T.na_House_doors (ev_get (i := 0) he.r rfl)))) hm (fun F26 s0 σ0 H0 => EnvOk H F26 [some (bG a_house v_house), some (bN x_due_1 v_2), none, none] σ0 H0) (fun F26 H1 he => he) (fun F26 s0 σ0 H0 he => he.frm) (fun F26 s0 σ0 H0 H1 g0 he => he.mono g0) (fun F26 s0 σ0 H0 i0 he => he.imp i0) (fun F26 d27 v_28 y30 σ1 H1 k25 N hn22 hb23 hr24 hI hx hm => ?_) (fun y31 σ1 H1 hI hm => ?_) (fun r v H1 hm g0 r0 => kq r v H1 hm g0 r0))
    · have he := hI
      obtain ⟨x_a_32, x_b_33⟩ := d27
      refine tg_pair (K := K) (i := 2) (j := 3) he (show 2 < 4 from by decide) (show 3 < 4 from by decide) hx fun v_34 v_35 σ2 he => ?_
      have he : EnvOk H F26 [some (bG a_house v_house), some (bN x_due_1 v_2), some (bN x_a_32 v_34), some (bN x_b_33 v_35)] σ2 _ := he
      refine (x_if he (ewt_test (ew_l2 th2_op (ew_F (ewF_l1 th1_call (ew_F (ew_call3 he.ne (ev_get (i := 0) he.r rfl) (ev_get (i := 2) he.r rfl) (ev_get (i := 3) he.r rfl))) fun z36 _ H9 g9 r0 => (ew_call1 (g9.neat he.ne) (ev_c r0)))) (ew_ret (ev_get (i := 1) he.r rfl)) fun z37 z38 _ _ H9 g9 r0 r1 => (ew_ret (ev_eqI (ev_c r0) (ev_c r1))))) hm (fun H1 (he : EnvOk H F26 [some (bG a_house v_house), some (bN x_due_1 v_2), some (bN x_a_32 v_34), some (bN x_b_33 v_35)] _ H1) hm => ?_) (fun H1 (he : EnvOk H F26 [some (bG a_house v_house), some (bN x_due_1 v_2), some (bN x_a_32 v_34), some (bN x_b_33 v_35)] _ H1) hm => ?_))
      · exact x_ret (P := fun r => k25 (Ctl.rt r)) he (ew_r (ev_someO (ev_inl (β := (Str × Int)) (ev_tr ev_str (ev_get (i := 2) he.r rfl) (ev_get (i := 3) he.r rfl))))) hm hr24
      · have he := he.drop (i := 2)
        have he := he.drop (i := 3)
        exact hn22 () _ _ he hm
    · first | refine e_of ?_ | skip
      have he := hI
      have he : EnvOk H (fun _ => True) [some (bG a_house v_house), some (bN x_due_1 v_2), none, none] σ1 H1 := he
      refine q_of (x_if he (ewt_ret (et_test (ev_gt (ev_rooms T.cl_House T.na_House_rooms (ev_get (i := 0) he.r rfl)) ev_int))) hm (fun H1 (he : EnvOk H (fun _ => True) [some (bG a_house v_house), some (bN x_due_1 v_2), none, none] _ H1) hm => ?_) (fun H1 (he : EnvOk H (fun _ => True) [some (bG a_house v_house), some (bN x_due_1 v_2), none, none] _ H1) hm => ?_))
      · refine q_of (x_forC (S := Unit) (R := (Option ((Tr Str Int Int) ⊕ (Str × Int)))) he (srcW_rng1 (ew_ret (ev_rooms T.cl_House T.na_House_rooms (ev_get (i := 0) he.r rfl)))) hm (fun F47 s0 σ0 H0 => EnvOk H F47 [some (bG a_house v_house), some (bN x_due_1 v_2), none, none] σ0 H0) (fun F47 H1 he => he) (fun F47 s0 σ0 H0 he => he.frm) (fun F47 s0 σ0 H0 H1 g0 he => he.mono g0) (fun F47 s0 σ0 H0 i0 he => he.imp i0) (fun F47 x_a_48 v_49 y51 σ1 H1 k46 N hn43 hb44 hr45 hI hx hm => ?_) (fun y52 σ1 H1 hI hm => ?_) (fun r v H1 hm g0 r0 => kq r v H1 hm g0 r0))
        · have he := hI
          refine tg_name (i := 2) he (show 2 < 4 from by decide) hx fun σ2 he => ?_
          have he : EnvOk H F47 [some (bG a_house v_house), some (bN x_due_1 v_2), some (bN x_a_48 v_49), none] σ2 _ := he
          refine (x_if he (ewt_test (ew_l2 th2_op (ew_F (ewF_l1 th1_call (ew_F (ew_call2 he.ne (ev_get (i := 0) he.r rfl) (ev_get (i := 2) he.r rfl))) fun z53 _ H9 g9 r0 => (ew_call1 (g9.neat he.ne) (ev_c r0)))) (ew_ret (ev_get (i := 1) he.r rfl)) fun z54 z55 _ _ H9 g9 r0 r1 => (ew_ret (ev_eqI (ev_c r0) (ev_c r1))))) hm (fun H1 (he : EnvOk H F47 [some (bG a_house v_house), some (bN x_due_1 v_2), some (bN x_a_48 v_49), none] _ H1) hm => ?_) (fun H1 (he : EnvOk H F47 [some (bG a_house v_house), some (bN x_due_1 v_2), some (bN x_a_48 v_49), none] _ H1) hm => ?_))
          · exact x_ret (P := fun r => k46 (Ctl.rt r)) he (ew_r (ev_someO (ev_inr (α := (Tr Str Int Int)) (ev_pair ev_str (ev_get (i := 2) he.r rfl))))) hm hr45
          · have he := he.drop (i := 2)
            exact hn43 () _ _ he hm
        · first | refine e_of ?_ | skip
          have he := hI
          have he : EnvOk H (fun _ => True) [some (bG a_house v_house), some (bN x_due_1 v_2), none, none] σ1 H1 := he
          exact x_ret he (ew_r ev_noneO) hm kq
      · refine n_of ?_
        exact x_ret he (ew_r ev_noneO) hm kq

end
end Cl
namespace Cl
open PySem L2 Zw RZ
section
variable {P : Program} {w : World} {K : PySem.W.Frag} {mg : Str → Option Value} {base : Heap}
theorem w_law_house (T : Ctx K mg) : FnOk P w K mg base CX0 2 T.a_law_house T.fd_law_house ["hand", "most"] (SpW2 (fun (a_hand : Hand) (a_most : Int) => M_law_house a_hand a_most)) := by
  have G_law_draw := w_law_draw (P := P) (w := w) (base := base) T
  refine T.F_law_house.ok sc_law_house (fun vs H Q E h => h.len) (fun cdv A outer s H vs Q E hr h => ?_)
  obtain ⟨hne, v_hand, v_most, a_hand, a_most, rfl, r_hand, r_most, Pq, hm, kq⟩ := h
  have he : EnvOk H (fun _ => True) [some (bG a_hand v_hand), some (bG a_most v_most), none, none, none, none, none, none] (L2.start ["hand", "most", "rooms", "found", "often", "b", "some", "a"] [v_hand, v_most]) H := env0 (show Ini [some (bG a_hand v_hand), some (bG a_most v_most), none, none, none, none, none, none] [some v_hand, some v_most, none, none, none, none, none, none] H from ⟨rfl, rfl, r_hand, rfl, rfl, r_most, trivial⟩) hne
  unfold M_law_house at hm
  refine ⟨_, (pss_cons (ps_par (i := 2) (j := 3) rfl sc_law_house.nd rfl rfl (by decide) rfl rfl (pa_cons (pe_op op_add pe_int (pe_call (G_law_draw) (hr.mono (by first | decide | omega)) (by rfl) T.m_law_draw T.F_law_draw.kp T.b_law_draw .nil pass0 (pa_cons (pv 0) (pa_cons (pv 1) pa_nil)))) (pa_cons (pe_lst pa_nil) pa_nil)) (by rfl))
      (pss_cons (ps_set (i := 4) sc_law_house.nd rfl (Or.inr rfl) (pe_op op_add pe_int (pe_call (G_law_draw) (hr.mono (by first | decide | omega)) (by rfl) T.m_law_draw T.F_law_draw.kp T.b_law_draw .nil pass0 (pa_cons (pv 0) (pa_cons pe_int pa_nil)))))
      (pss_cons (ps_for PassesOwn.never rfl (pi_range1 (by rfl) T.n_range (pa_cons (pv 2) pa_nil)) (pg_name (i := 5) sc_law_house.nd rfl (Or.inr rfl) (Or.inl rfl))
      (pss_cons (ps_setLc (i := 6) (own := [("a", 7)]) rfl sc_law_house.nd rfl rfl (sw_true rfl rfl rfl (by decide +kernel)) (pi_range1 (by rfl) T.n_range (pa_cons (pv 5) pa_nil)) (blkOk_by (by kernel_rfl)) (fun _ _ _ _ _ => (pg_name (i := 7) sc_law_house.nd rfl (Or.inl rfl) (Or.inr rfl))) (fun _ _ _ _ _ => (pts_one (pt_cmpR op_lt (pe_call (G_law_draw) (hr.mono (by first | decide | omega)) (by rfl) T.m_law_draw T.F_law_draw.kp T.b_law_draw .nil pass0 (pa_cons (pv 0) (pa_cons pe_int pa_nil))) (pv 4) (nomark _)))) (fun _ _ _ _ _ => (pv 7)))
      (pss_cons (ps_if (PW.pt (pw_and (pt_cmpR op_eq (pe_callB (k_len (K := K) rfl) (by rfl) T.n_len (by decide +kernel) (pa_cons (pv 6) pa_nil)) pe_int (nomark _)) (pw_and (pt_cmpR op_gt (pv 5) pe_int (nomark _)) (pw_and1 (pt_cmpR op_gt (pe_call (G_law_draw) (hr.mono (by first | decide | omega)) (by rfl) T.m_law_draw T.F_law_draw.kp T.b_law_draw .nil pass0 (pa_cons (pv 0) (pa_cons pe_int pa_nil))) pe_int (nomark _)))))) (pss_one (ps_set (i := 6) sc_law_house.nd rfl (Or.inl rfl) (pe_lst (pa_cons (pe_call (G_law_draw) (hr.mono (by first | decide | omega)) (by rfl) T.m_law_draw T.F_law_draw.kp T.b_law_draw .nil pass0 (pa_cons (pv 0) (pa_cons (pv 5) pa_nil))) pa_nil)))) pss_nil)
      (pss_one (ps_expr (k_bm (K := K) rfl PySem.F.plainAttrs_list PySem.F.slot_list_extend PySem.F.type_list_extend mt_extend (pv 3) (pa_cons (pe_lc (own := [("a", 7)]) rfl sc_law_house.nd (k_pi_list (K := K) rfl (pv 6)) (blkOk_by (by kernel_rfl)) (fun _ _ _ _ _ => (pg_name (i := 7) sc_law_house.nd rfl (Or.inl rfl) (Or.inr rfl))) (fun _ _ _ _ _ => pts_nil) (fun _ _ _ _ _ => (pe_tup (pa_cons (pv 7) (pa_cons (pv 5) pa_nil))))) pa_nil)))))))
      (pss_one (ps_ret (pe_tup (pa_cons (pv 2) (pa_cons (pe_callTy (k_tuple_of (K := K) rfl) (by rfl) T.n_tuple (by decide +kernel) (pa_cons (pe_callB (cr_sortedG rfl hr.units) (by rfl) T.n_sorted (by decide +kernel) (pa_cons (pv 3) pa_nil)) pa_nil)) pa_nil)))))))), ?_⟩
  refine q_of (x_par (i := 2) (j := 3) he (show 2 < 8 from by decide) (show 3 < 8 from by decide) (ewF_I (ew_l2 th2_op (ew_ret ev_int) (ew_F (ew_call2 he.ne (ev_get (i := 0) he.r rfl) (ev_get (i := 1) he.r rfl))) fun z1 z2 _ _ H9 g9 r0 r1 => (ew_ret (ev_add (ev_c r0) (ev_c r1))))) (ewF_nil (α := (Int × Int)) he.ne) hm fun x_rooms_3 x_found_4 v_5 v_6 σ1 H1 (he : EnvOk H (fun _ => True) [some (bG a_hand v_hand), some (bG a_most v_most), some (bN x_rooms_3 v_5), some (bN (Ls.mk x_found_4.l) v_6), none, none, none, none] σ1 H1) hm => ?_)
  refine q_of (x_asg (i := 4) he (show 4 < 8 from by decide) (ewF_I (ew_l2 th2_op (ew_ret ev_int) (ew_F (ew_call2 he.ne (ev_get (i := 0) he.r rfl) ev_int)) fun z7 z8 _ _ H9 g9 r0 r1 => (ew_ret (ev_add (ev_c r0) (ev_c r1))))) hm fun x_often_9 v_10 σ1 H1 (he : EnvOk H (fun _ => True) [some (bG a_hand v_hand), some (bG a_most v_most), some (bN x_rooms_3 v_5), some (bN (Ls.mk x_found_4.l) v_6), some (bN x_often_9 v_10), none, none, none] σ1 H1) hm => ?_)
  refine q_of (x_for (S := (List (Int × Int))) he (srcW_rng1 (ew_ret (ev_get (i := 2) he.r rfl))) hm (fun F16 s0 σ0 H0 => ∃ w_found, EnvOk H F16 [some (bG a_hand v_hand), some (bG a_most v_most), some (bN x_rooms_3 v_5), some (bN (Ls.mk s0) w_found), some (bN x_often_9 v_10), none, none, none] σ0 H0) (fun F16 H1 he => ⟨v_6, he⟩) (fun F16 s0 σ0 H0 ⟨w_found, he⟩ => he.frm) (fun F16 s0 σ0 H0 H1 g0 ⟨w_found, he⟩ => ⟨w_found, he.mono g0⟩) (fun F16 s0 σ0 H0 i0 ⟨w_found, he⟩ => ⟨w_found, he.imp i0⟩) (fun F16 x_b_17 v_18 y20 σ1 H1 k15 N hn12 hI hx hm => ?_) (fun y21 σ1 H1 hI hm => ?_))
  · obtain ⟨v_22, he⟩ := hI
    refine tg_name (i := 5) he (show 5 < 8 from by decide) hx fun σ2 he => ?_
    have he : EnvOk H F16 [some (bG a_hand v_hand), some (bG a_most v_most), some (bN x_rooms_3 v_5), some (bN (Ls.mk y20) v_22), some (bN x_often_9 v_10), some (bN x_b_17 v_18), none, none] σ2 _ := he
    refine q_of (x_asg (i := 6) he (show 6 < 8 from by decide) (ewF_lcN (j := 7) he.r (SrcW.c (srcW_rng1 (ew_ret (ev_get (i := 5) he.r rfl)))) (show 7 < 8 from by decide) (by decide) (fun x_a_25 _ _ _ hr24 => (ewt_test (ew_l2 th2_op (ew_F (ew_call2 hr24.ne (ev_get (i := 0) hr24 rfl) ev_int)) (ew_ret (ev_get (i := 4) hr24 rfl)) fun z26 z27 _ _ H9 g9 r0 r1 => (ew_ret (ev_lt (ev_c r0) (ev_c r1)))))) (fun x_a_25 _ _ _ hr24 => (ew_r (ev_get (i := 7) hr24 rfl)))) hm fun x_some_28 v_29 σ1 H1 (he : EnvOk H F16 [some (bG a_hand v_hand), some (bG a_most v_most), some (bN x_rooms_3 v_5), some (bN (Ls.mk y20) v_22), some (bN x_often_9 v_10), some (bN x_b_17 v_18), some (bN (Ls.mk x_some_28.l) v_29), none] σ1 H1) hm => ?_)
    first | refine e_of ?_ | skip
    refine x_join (S := (List Int)) (fun s0 σ0 H0 => ∃ w_some, EnvOk H F16 [some (bG a_hand v_hand), some (bG a_most v_most), some (bN x_rooms_3 v_5), some (bN (Ls.mk y20) v_22), some (bN x_often_9 v_10), some (bN x_b_17 v_18), some (bN (Ls.mk s0) w_some), none] σ0 H0) hm (fun k N hn35 hm => ?_) (fun y40 σ1 H1 hI hm => ?_)
    · refine x_if he (ewt_and (ewt_ret (et_test (ev_eqI (ev_lenL (ev_get (i := 6) he.r rfl)) ev_int))) (ewt_and (ewt_ret (et_test (ev_gt (ev_get (i := 5) he.r rfl) ev_int))) (ewt_test (ew_l2 th2_op (ew_F (ew_call2 he.ne (ev_get (i := 0) he.r rfl) ev_int)) (ew_ret ev_int) fun z30 z31 _ _ H9 g9 r0 r1 => (ew_ret (ev_gt (ev_c r0) (ev_c r1))))))) hm (fun H1 (he : EnvOk H F16 [some (bG a_hand v_hand), some (bG a_most v_most), some (bN x_rooms_3 v_5), some (bN (Ls.mk y20) v_22), some (bN x_often_9 v_10), some (bN x_b_17 v_18), some (bN (Ls.mk x_some_28.l) v_29), none] _ H1) hm => ?_) (fun H1 (he : EnvOk H F16 [some (bG a_hand v_hand), some (bG a_most v_most), some (bN x_rooms_3 v_5), some (bN (Ls.mk y20) v_22), some (bN x_often_9 v_10), some (bN x_b_17 v_18), some (bN (Ls.mk x_some_28.l) v_29), none] _ H1) hm => ?_)
      · refine (x_asg (i := 6) he (show 6 < 8 from by decide) (ewF_l1 th1_lst (ew_F (ew_call2 he.ne (ev_get (i := 0) he.r rfl) (ev_get (i := 5) he.r rfl))) fun z36 _ H9 g9 r0 => (ewF_lst (α := Int) (g9.neat he.ne) (eal_cons (ev_c r0) eal_nil))) hm fun x_some_37 v_38 σ1 H1 (he : EnvOk H F16 [some (bG a_hand v_hand), some (bG a_most v_most), some (bN x_rooms_3 v_5), some (bN (Ls.mk y20) v_22), some (bN x_often_9 v_10), some (bN x_b_17 v_18), some (bN (Ls.mk x_some_37.l) v_38), none] σ1 H1) hm => ?_)
        exact hn35 x_some_37.l _ _ ⟨v_38, he⟩ hm
      · exact hn35 x_some_28.l _ _ ⟨v_29, he⟩ hm
    · obtain ⟨v_41, he⟩ := hI
      have he : EnvOk H F16 [some (bG a_hand v_hand), some (bG a_most v_most), some (bN x_rooms_3 v_5), some (bN (Ls.mk y20) v_22), some (bN x_often_9 v_10), some (bN x_b_17 v_18), some (bN (Ls.mk y40) v_41), none] σ1 H1 := he
      refine (x_ext (i := 3) he rfl (ew_F (ewF_lcN (j := 7) he.r (srcC_lst (ew_ret (ev_get (i := 6) he.r rfl))) (show 7 < 8 from by decide) (by decide) (fun x_a_45 _ _ _ hr44 => ewt_yes) (fun x_a_45 _ _ _ hr44 => (ew_r (ev_pair (ev_get (i := 7) hr44 rfl) (ev_get (i := 5) hr44 rfl)))))) hm fun a46 H1 (he : EnvOk H F16 [some (bG a_hand v_hand), some (bG a_most v_most), some (bN x_rooms_3 v_5), some (bN (Ls.mk (y20 ++ a46)) v_22), some (bN x_often_9 v_10), some (bN x_b_17 v_18), some (bN (Ls.mk y40) v_41), none] _ H1) hm => ?_)
      have he := he.drop (i := 5)
      have he := he.drop (i := 6)
      exact hn12 (y20 ++ a46) _ _ ⟨v_22, he⟩ hm
  · first | refine e_of ?_ | skip
    obtain ⟨v_48, he⟩ := hI
    have he : EnvOk H (fun _ => True) [some (bG a_hand v_hand), some (bG a_most v_most), some (bN x_rooms_3 v_5), some (bN (Ls.mk y21) v_48), some (bN x_often_9 v_10), none, none, none] σ1 H1 := he
    exact x_ret he (ewF_I (ew_l2 th2_tup (ew_ret (ev_get (i := 2) he.r rfl)) (ew_l1 th1_cb (ew_F (ewF_sortedL he.ne (ev_get (i := 3) he.r rfl))) fun z49 _ H9 g9 r0 => (ew_ret (ev_tupL (ev_c (d := Ls.mk z49.l) r0)))) fun z50 z51 _ _ H9 g9 r0 r1 => (ew_ret (ev_pair (ev_c r0) (ev_c r1))))) hm kq

theorem w_law_nears (T : Ctx K mg) : FnOk P w K mg base CX0 1 T.a_law_nears T.fd_law_nears ["parts"] (SpW1 (fun (a_parts : (Int × (List (Int × Int)))) => M_law_nears a_parts)) := by
  refine T.F_law_nears.ok sc_law_nears (fun vs H Q E h => h.len) (fun cdv A outer s H vs Q E hr h => ?_)
  obtain ⟨hne, v_parts, a_parts, rfl, r_parts, Pq, hm, kq⟩ := h
  have he : EnvOk H (fun _ => True) [some (bG a_parts v_parts), none, none, none, none, none, none] (L2.start ["parts", "rooms", "doors", "found", "room", "some", "one"] [v_parts]) H := env0 (show Ini [some (bG a_parts v_parts), none, none, none, none, none, none] [some v_parts, none, none, none, none, none, none] H from ⟨rfl, rfl, r_parts, trivial⟩) hne
  unfold M_law_nears at hm
  refine ⟨_, (pss_cons (ps_asg (pv 0) (k_pg_tup (K := K) (n := 2) rfl rfl (pgs_cons (pg_name (i := 1) sc_law_nears.nd rfl (Or.inl rfl) (Or.inr rfl)) (pgs_cons (pg_name (i := 2) sc_law_nears.nd rfl (Or.inr rfl) (Or.inl rfl)) pgs_nil)) rfl))
      (pss_cons (ps_set (i := 3) sc_law_nears.nd rfl (Or.inl rfl) (pe_lst pa_nil))
      (pss_cons (ps_for PassesOwn.never rfl (pi_range1 (by rfl) T.n_range (pa_cons (pv 1) pa_nil)) (pg_name (i := 4) sc_law_nears.nd rfl (Or.inr rfl) (Or.inl rfl))
      (pss_cons (ps_setLc (i := 5) (own := [("one", 6)]) rfl sc_law_nears.nd rfl rfl (sw_true rfl rfl rfl (by decide +kernel)) (pi_range1 (by rfl) T.n_range (pa_cons (pv 1) pa_nil)) (blkOk_by (by kernel_rfl)) (fun _ _ _ _ _ => (pg_name (i := 6) sc_law_nears.nd rfl (Or.inl rfl) (Or.inr rfl))) (fun _ _ _ _ _ => (pts_one (PW.pt (pw_or (pt_cmpR op_eq (pv 6) (pv 4) (nomark _)) (pw_or1 (pt_cmpR (k_inDT (K := K) rfl (u65 hr)) (pe_tup (pa_cons (pe_callB (call_min2 rfl) (by rfl) T.n_min (by decide +kernel) (pa_cons (pv 6) (pa_cons (pv 4) pa_nil))) (pa_cons (pe_callB (call_max2 rfl) (by rfl) T.n_max (by decide +kernel) (pa_cons (pv 6) (pa_cons (pv 4) pa_nil))) pa_nil))) (pv 2) (by rfl))))))) (fun _ _ _ _ _ => (pv 6)))
      (pss_one (ps_expr (k_bm (K := K) rfl PySem.F.plainAttrs_list PySem.F.slot_list_append PySem.F.type_list_append mt_append (pv 3) (pa_cons (pe_callTy (k_tuple_of (K := K) rfl) (by rfl) T.n_tuple (by decide +kernel) (pa_cons (pv 5) pa_nil)) pa_nil))))))
      (pss_one (ps_ret (pv 3)))))), ?_⟩
  refine q_of (x_unp (K := K) (i := 1) (j := 2) he (show 1 < 7 from by decide) (show 2 < 7 from by decide) (ew_ret (ev_get (i := 0) he.r rfl)) hm fun x_rooms_2 x_doors_3 v_4 v_5 σ1 H1 (he : EnvOk H (fun _ => True) [some (bG a_parts v_parts), some (bN x_rooms_2 v_4), some (bN x_doors_3 v_5), none, none, none, none] σ1 H1) hm => ?_)
  refine q_of (x_asg (i := 3) he (show 3 < 7 from by decide) (ewF_nil (α := (List Int)) he.ne) hm fun x_found_6 v_7 σ1 H1 (he : EnvOk H (fun _ => True) [some (bG a_parts v_parts), some (bN x_rooms_2 v_4), some (bN x_doors_3 v_5), some (bN (Ls.mk x_found_6.l) v_7), none, none, none] σ1 H1) hm => ?_)
  refine q_of (x_for (S := (List (List Int))) he (srcW_rng1 (ew_ret (ev_get (i := 1) he.r rfl))) hm (fun F13 s0 σ0 H0 => ∃ w_found, EnvOk H F13 [some (bG a_parts v_parts), some (bN x_rooms_2 v_4), some (bN x_doors_3 v_5), some (bN (Ls.mk s0) w_found), none, none, none] σ0 H0) (fun F13 H1 he => ⟨v_7, he⟩) (fun F13 s0 σ0 H0 ⟨w_found, he⟩ => he.frm) (fun F13 s0 σ0 H0 H1 g0 ⟨w_found, he⟩ => ⟨w_found, he.mono g0⟩) (fun F13 s0 σ0 H0 i0 ⟨w_found, he⟩ => ⟨w_found, he.imp i0⟩) (fun F13 x_room_14 v_15 y17 σ1 H1 k12 N hn9 hI hx hm => ?_) (fun y18 σ1 H1 hI hm => ?_))
  · obtain ⟨v_19, he⟩ := hI
    refine tg_name (i := 4) he (show 4 < 7 from by decide) hx fun σ2 he => ?_
    have he : EnvOk H F13 [some (bG a_parts v_parts), some (bN x_rooms_2 v_4), some (bN x_doors_3 v_5), some (bN (Ls.mk y17) v_19), some (bN x_room_14 v_15), none, none] σ2 _ := he
    refine q_of (x_asg (i := 5) he (show 5 < 7 from by decide) (ewF_lcN (j := 6) he.r (SrcW.c (srcW_rng1 (ew_ret (ev_get (i := 1) he.r rfl)))) (show 6 < 7 from by decide) (by decide) (fun x_one_22 _ _ _ hr21 => (ewt_ret (et_or (et_test (ev_eqI (ev_get (i := 6) hr21 rfl) (ev_get (i := 4) hr21 rfl))) fun _ => (et_test (ev_inTM (ev_pair (ev_min2 (ev_get (i := 6) hr21 rfl) (ev_get (i := 4) hr21 rfl)) (ev_max2 (ev_get (i := 6) hr21 rfl) (ev_get (i := 4) hr21 rfl))) (ev_get (i := 2) hr21 rfl)))))) (fun x_one_22 _ _ _ hr21 => (ew_r (ev_get (i := 6) hr21 rfl)))) hm fun x_some_23 v_24 σ1 H1 (he : EnvOk H F13 [some (bG a_parts v_parts), some (bN x_rooms_2 v_4), some (bN x_doors_3 v_5), some (bN (Ls.mk y17) v_19), some (bN x_room_14 v_15), some (bN (Ls.mk x_some_23.l) v_24), none] σ1 H1) hm => ?_)
    refine (x_app (i := 3) he rfl (ew_ret (ev_tupL (ev_get (i := 5) he.r rfl))) hm fun a26 H1 (he : EnvOk H F13 [some (bG a_parts v_parts), some (bN x_rooms_2 v_4), some (bN x_doors_3 v_5), some (bN (Ls.mk (y17 ++ [a26])) v_19), some (bN x_room_14 v_15), some (bN (Ls.mk x_some_23.l) v_24), none] _ H1) hm => ?_)
    have he := he.drop (i := 4)
    have he := he.drop (i := 5)
    exact hn9 (y17 ++ [a26]) _ _ ⟨v_19, he⟩ hm
  · first | refine e_of ?_ | skip
    obtain ⟨v_28, he⟩ := hI
    have he : EnvOk H (fun _ => True) [some (bG a_parts v_parts), some (bN x_rooms_2 v_4), some (bN x_doors_3 v_5), some (bN (Ls.mk y18) v_28), none, none, none] σ1 H1 := he
    exact x_retV (i := 3) he rfl hm kq

theorem w_law_made (T : Ctx K mg) : FnOk P w K mg base CX0 7 T.a_law_made T.fd_law_made ["parts"] (SpW1 (fun (a_parts : (Int × (List (Int × Int)))) => M_law_made (C := T.C_House) a_parts)) := by
  have G_House___init__ := w_House___init__ (P := P) (w := w) (base := base) T
  refine T.F_law_made.ok sc_law_made (fun vs H Q E h => h.len) (fun cdv A outer s H vs Q E hr h => ?_)
  obtain ⟨hne, v_parts, a_parts, rfl, r_parts, Pq, hm, kq⟩ := h
  have he : EnvOk H (fun _ => True) [some (bG a_parts v_parts)] (L2.start ["parts"] [v_parts]) H := env0 (show Ini [some (bG a_parts v_parts)] [some v_parts] H from ⟨rfl, rfl, r_parts, trivial⟩) hne
  unfold M_law_made at hm
  refine ⟨_, (pss_one (ps_ret (pe_make T.mk_House (G_House___init__) (hr.mono (by first | decide | omega)) (by rfl) T.m_House T.b_House___init__ .nil pass0 (pa_cons (pe_ix (k_ix_tup (K := K) rfl) (pv 0) pe_int (fun _ _ => rfl)) (pa_cons (pe_ix (k_ix_tup (K := K) rfl) (pv 0) pe_int (fun _ _ => rfl)) pa_nil))))), ?_⟩
  exact x_ret he (ewF_Hs (ew_make he.ne (ev_fst (ev_get (i := 0) he.r rfl)) (ev_snd (ev_get (i := 0) he.r rfl)))) hm kq

theorem w_law_lots (T : Ctx K mg) : FnOk P w K mg base CX0 1 T.a_law_lots T.fd_law_lots ["rooms"] (SpW1 (fun (a_rooms : Int) => M_law_lots a_rooms)) := by
  refine T.F_law_lots.ok sc_law_lots (fun vs H Q E h => h.len) (fun cdv A outer s H vs Q E hr h => ?_)
  obtain ⟨hne, v_rooms, a_rooms, rfl, r_rooms, Pq, hm, kq⟩ := h
  have he : EnvOk H (fun _ => True) [some (bG a_rooms v_rooms), none, none, none, none] (L2.start ["rooms", "found", "room", "lot", "size"] [v_rooms]) H := env0 (show Ini [some (bG a_rooms v_rooms), none, none, none, none] [some v_rooms, none, none, none, none] H from ⟨rfl, rfl, r_rooms, trivial⟩) hne
  unfold M_law_lots at hm
  refine ⟨_, (pss_cons (ps_set (i := 1) sc_law_lots.nd rfl (Or.inl rfl) (pe_lst (pa_cons (pe_tup pa_nil) pa_nil)))
      (pss_cons (ps_for PassesOwn.never rfl (pi_range1 (by rfl) T.n_range (pa_cons (pv 0) pa_nil)) (pg_name (i := 2) sc_law_lots.nd rfl (Or.inr rfl) (Or.inl rfl))
      (pss_one (ps_set (i := 1) sc_law_lots.nd rfl (Or.inl rfl) (pe_op op_cat (pv 1) (pe_lc (own := [("lot", 3)]) rfl sc_law_lots.nd (k_pi_list (K := K) rfl (pv 1)) (blkOk_by (by kernel_rfl)) (fun _ _ _ _ _ => (pg_name (i := 3) sc_law_lots.nd rfl (Or.inl rfl) (Or.inr rfl))) (fun _ _ _ _ _ => pts_nil) (fun _ _ _ _ _ => (pe_op (k_catT (K := K) rfl) (pv 3) (pe_tup (pa_cons (pv 2) pa_nil)))))))))
      (pss_one (ps_ret (pe_lc (own := [("size", 4), ("lot", 3)]) rfl sc_law_lots.nd (k_pi_list (K := K) rfl (pe_callB (cr_sortedG rfl hr.units) (by rfl) T.n_sorted (by decide +kernel) (pa_cons (pe_lc (own := [("lot", 3)]) rfl sc_law_lots.nd (k_pi_list (K := K) rfl (pv 1)) (blkOk_by (by kernel_rfl)) (fun _ _ _ _ _ => (pg_name (i := 3) sc_law_lots.nd rfl (Or.inl rfl) (Or.inr rfl))) (fun _ _ _ _ _ => pts_nil) (fun _ _ _ _ _ => (pe_tup (pa_cons (pe_callB (k_len (K := K) rfl) (by rfl) T.n_len (by decide +kernel) (pa_cons (pv 3) pa_nil)) (pa_cons (pv 3) pa_nil))))) pa_nil))) (blkOk_by (by kernel_rfl)) (fun _ _ _ _ _ => (k_pg_tup (K := K) (n := 2) rfl rfl (pgs_cons (pg_name (i := 4) sc_law_lots.nd rfl (Or.inl rfl) (Or.inr rfl)) (pgs_cons (pg_name (i := 3) sc_law_lots.nd rfl (Or.inl rfl) (Or.inr rfl)) pgs_nil)) rfl)) (fun _ _ _ _ _ => pts_nil) (fun _ _ _ _ _ => (pv 3))))))), ?_⟩
  refine q_of (x_asg (i := 1) he (show 1 < 5 from by decide) (ewF_lst (α := (List Int)) he.ne (eal_cons (ev_tup (α := Int) eal_nil (Nat.zero_le _)) eal_nil)) hm fun x_found_1 v_2 σ1 H1 (he : EnvOk H (fun _ => True) [some (bG a_rooms v_rooms), some (bN (Ls.mk x_found_1.l) v_2), none, none, none] σ1 H1) hm => ?_)
  refine q_of (x_for (S := (List (List Int))) he (srcW_rng1 (ew_ret (ev_get (i := 0) he.r rfl))) hm (fun F8 s0 σ0 H0 => ∃ w_found, EnvOk H F8 [some (bG a_rooms v_rooms), some (bN (Ls.mk s0) w_found), none, none, none] σ0 H0) (fun F8 H1 he => ⟨v_2, he⟩) (fun F8 s0 σ0 H0 ⟨w_found, he⟩ => he.frm) (fun F8 s0 σ0 H0 H1 g0 ⟨w_found, he⟩ => ⟨w_found, he.mono g0⟩) (fun F8 s0 σ0 H0 i0 ⟨w_found, he⟩ => ⟨w_found, he.imp i0⟩) (fun F8 x_room_9 v_10 y12 σ1 H1 k7 N hn4 hI hx hm => ?_) (fun y13 σ1 H1 hI hm => ?_))
  · obtain ⟨v_14, he⟩ := hI
    refine tg_name (i := 2) he (show 2 < 5 from by decide) hx fun σ2 he => ?_
    have he : EnvOk H F8 [some (bG a_rooms v_rooms), some (bN (Ls.mk y12) v_14), some (bN x_room_9 v_10), none, none] σ2 _ := he
    refine (x_asg (i := 1) he (show 1 < 5 from by decide) (ewF_l2 th2_op (ew_ret (ev_get (i := 1) he.r rfl)) (ew_F (ewF_lcN (j := 3) he.r (srcC_lst (ew_ret (ev_get (i := 1) he.r rfl))) (show 3 < 5 from by decide) (by decide) (fun x_lot_17 _ _ _ hr16 => ewt_yes) (fun x_lot_17 _ _ _ hr16 => (ewF_I (ew_catT (ev_get (i := 3) hr16 rfl) (ev_tup (α := Int) (eal_cons (ev_get (i := 2) hr16 rfl) eal_nil) (show 1 ≤ _ by decide))))))) fun z18 z19 _ _ H9 g9 r0 r1 => (ewF_catL (g9.neat he.ne) (ev_c (d := Ls.mk z18.l) r0) (ev_c (d := Ls.mk z19.l) r1))) hm fun x_found_20 v_21 σ1 H1 (he : EnvOk H F8 [some (bG a_rooms v_rooms), some (bN (Ls.mk x_found_20.l) v_21), some (bN x_room_9 v_10), none, none] σ1 H1) hm => ?_)
    have he := he.drop (i := 2)
    exact hn4 x_found_20.l _ _ ⟨v_21, he⟩ hm
  · first | refine e_of ?_ | skip
    obtain ⟨v_23, he⟩ := hI
    have he : EnvOk H (fun _ => True) [some (bG a_rooms v_rooms), some (bN (Ls.mk y13) v_23), none, none, none] σ1 H1 := he
    exact x_ret he (ewF_lcP (K := K) (i := 4) (j := 3) he.r (SrcW.c (srcW_lst (ewF_l1 th1_cb (ew_F (ewF_lcN (j := 3) he.r (srcC_lst (ew_ret (ev_get (i := 1) he.r rfl))) (show 3 < 5 from by decide) (by decide) (fun x_lot_26 _ _ _ hr25 => ewt_yes) (fun x_lot_26 _ _ _ hr25 => (ew_r (ev_pair (ev_lenT (ev_get (i := 3) hr25 rfl)) (ev_get (i := 3) hr25 rfl)))))) fun z27 _ H9 g9 r0 => (ewF_sortedL (g9.neat he.ne) (ev_c (d := Ls.mk z27.l) r0))))) (show 4 < 5 from by decide) (show 3 < 5 from by decide) (by decide) (by decide) (fun x_size_31 x_lot_32 _ _ _ _ hr29 => ewt_yes) (fun x_size_31 x_lot_32 _ _ _ _ hr29 => (ew_r (ev_get (i := 3) hr29 rfl)))) hm kq

theorem w_law_by (T : Ctx K mg) : FnOk P w K mg base CX0 1 T.a_law_by T.fd_law_by ["nears_v", "gone", "room"] (SpW3 (fun (a_nears_v : (Ls (List Int))) (a_gone : (List Int)) (a_room : Int) => M_law_by a_nears_v a_gone a_room)) := by
  refine T.F_law_by.ok sc_law_by (fun vs H Q E h => h.len) (fun cdv A outer s H vs Q E hr h => ?_)
  obtain ⟨hne, v_nears_v, v_gone, v_room, a_nears_v, a_gone, a_room, rfl, r_nears_v, r_gone, r_room, Pq, hm, kq⟩ := h
  have he : EnvOk H (fun _ => True) [some (bG a_nears_v v_nears_v), some (bG a_gone v_gone), some (bG a_room v_room), none, none, none, none] (L2.start ["nears_v", "gone", "room", "found", "met", "waiting", "other"] [v_nears_v, v_gone, v_room]) H := env0 (show Ini [some (bG a_nears_v v_nears_v), some (bG a_gone v_gone), some (bG a_room v_room), none, none, none, none] [some v_nears_v, some v_gone, some v_room, none, none, none, none] H from ⟨rfl, rfl, r_nears_v, rfl, rfl, r_gone, rfl, rfl, r_room, trivial⟩) hne
  unfold M_law_by at hm
  refine ⟨_, (pss_cons (ps_par3 (i := 3) (j := 4) (l := 5) rfl sc_law_by.nd rfl rfl rfl (by decide) (by decide) (by decide) rfl rfl rfl (pa_cons (pe_lst pa_nil) (pa_cons (pe_disp (pps_cons (pv 2) pe_bl pps_nil) (by rfl) (by rfl) (fun z => by cases z) (by decide)) (pa_cons (pe_lst (pa_cons (pv 2) pa_nil)) pa_nil))) (by rfl))
      (pss_cons (ps_while PassesOwn.never (pt_cmpR op_gt (pe_callB (k_len (K := K) rfl) (by rfl) T.n_len (by decide +kernel) (pa_cons (pv 5) pa_nil)) pe_int (nomark _)) (pss_one (ps_for PassesOwn.never rfl (k_pi_tup (K := K) rfl (pe_ix (k_ix_list (K := K) rfl) (pv 0) (k_bm0 (K := K) rfl PySem.F.plainAttrs_list PySem.F.slot_list_pop PySem.F.type_list_pop mt_pop (pv 5)) (fun _ _ => rfl))) (pg_name (i := 6) sc_law_by.nd rfl (Or.inl rfl) (Or.inr rfl))
      (pss_one (ps_if (pt_cmp (pc_dnotin (hu_of hr) (pv 6) (pv 4)) (by rfl)) (pss_cons (ps_dput (hu_of hr) (pv 4) (pv 6) pe_bl rfl)
      (pss_one (ps_if (pt_cmpR (k_in_seq (K := K) rfl) (pv 6) (pv 1) (by rfl)) (pss_one (ps_expr (k_bm (K := K) rfl PySem.F.plainAttrs_list PySem.F.slot_list_append PySem.F.type_list_append mt_append (pv 5) (pa_cons (pv 6) pa_nil)))) (pss_one (ps_expr (k_bm (K := K) rfl PySem.F.plainAttrs_list PySem.F.slot_list_append PySem.F.type_list_append mt_append (pv 3) (pa_cons (pv 6) pa_nil))))))) pss_nil)))))
      (pss_one (ps_ret (pv 3))))), ?_⟩
  refine q_of (x_par3 (i := 3) (j := 4) (l := 5) he (show 3 < 7 from by decide) (show 4 < 7 from by decide) (show 5 < 7 from by decide) (ewF_nil (α := Int) he.ne) (ewF_dispI1 he.ne (ev_get (i := 2) he.r rfl) ev_bl) (ewF_lst (α := Int) he.ne (eal_cons (ev_get (i := 2) he.r rfl) eal_nil)) hm fun x_found_1 x_met_2 x_waiting_3 v_4 v_5 v_6 σ1 H1 (he : EnvOk H (fun _ => True) [some (bG a_nears_v v_nears_v), some (bG a_gone v_gone), some (bG a_room v_room), some (bN (Ls.mk x_found_1.l) v_4), some (bN (DI.mk x_met_2.kv) v_5), some (bN (Ls.mk x_waiting_3.l) v_6), none] σ1 H1) hm => ?_)
  refine q_of (x_while (H0 := H) (S := (List Int) × (List (Int × Bool)) × (List Int)) (R := (Ls Int)) hm (fun s0 σ0 H0 => ∃ w_waiting w_met w_found, EnvOk H (fun _ => True) [some (bG a_nears_v v_nears_v), some (bG a_gone v_gone), some (bG a_room v_room), some (bN (Ls.mk s0.2.2) w_found), some (bN (DI.mk s0.2.1) w_met), some (bN (Ls.mk s0.1) w_waiting), none] σ0 H0) ⟨v_6, v_5, v_4, he⟩ (fun y13 σ1 H1 hI => ?_) (fun s0 σ0 H0 H1 g0 ⟨w_waiting, w_met, w_found, he⟩ => ⟨w_waiting, w_met, w_found, he.mono g0⟩) (fun y13 σ1 H1 k10 N hn7 hb8 hr9 hI hm => ?_) (fun y14 σ1 H1 hI hm => ?_) (fun r v H1 hm g0 r0 => kq r v H1 hm g0 r0))
  · obtain ⟨x_waiting_15, x_met_17, x_found_19⟩ := y13
    obtain ⟨v_16, v_18, v_20, he⟩ := hI
    have he : EnvOk H (fun _ => True) [some (bG a_nears_v v_nears_v), some (bG a_gone v_gone), some (bG a_room v_room), some (bN (Ls.mk x_found_19) v_20), some (bN (DI.mk x_met_17) v_18), some (bN (Ls.mk x_waiting_15) v_16), none] σ1 H1 := he
    exact (ewt_ret (et_test (ev_gt (ev_lenL (ev_get (i := 5) he.r rfl)) ev_int)))
  · obtain ⟨x_waiting_15, x_met_17, x_found_19⟩ := y13
    obtain ⟨v_16, v_18, v_20, he⟩ := hI
    have he : EnvOk H (fun _ => True) [some (bG a_nears_v v_nears_v), some (bG a_gone v_gone), some (bG a_room v_room), some (bN (Ls.mk x_found_19) v_20), some (bN (DI.mk x_met_17) v_18), some (bN (Ls.mk x_waiting_15) v_16), none] σ1 H1 := he
    refine (x_popForT (K := K) (i := 5) (j := 0) he rfl hm (fun x_waiting_22 x_p_23 v_24 H1 (he : EnvOk H (fun _ => True) [some (bG a_nears_v v_nears_v), some (bG a_gone v_gone), some (bG a_room v_room), some (bN (Ls.mk x_found_19) v_20), some (bN (DI.mk x_met_17) v_18), some (bN (Ls.mk x_waiting_22) v_16), none] _ H1) rp25 hm => ?_) ⟨_, he.sl 0 _ rfl⟩)
    refine (x_for (S := (List (Int × Bool)) × (List Int) × (List Int)) he (srcW_tup (ew_ixL (ev_get (i := 0) he.r rfl) (ev_c rp25))) hm (fun F30 s0 σ0 H0 => ∃ w_met w_waiting w_found, EnvOk H F30 [some (bG a_nears_v v_nears_v), some (bG a_gone v_gone), some (bG a_room v_room), some (bN (Ls.mk s0.2.2) w_found), some (bN (DI.mk s0.1) w_met), some (bN (Ls.mk s0.2.1) w_waiting), none] σ0 H0) (fun F30 H1 he => ⟨v_18, v_16, v_20, he⟩) (fun F30 s0 σ0 H0 ⟨w_met, w_waiting, w_found, he⟩ => he.frm) (fun F30 s0 σ0 H0 H1 g0 ⟨w_met, w_waiting, w_found, he⟩ => ⟨w_met, w_waiting, w_found, he.mono g0⟩) (fun F30 s0 σ0 H0 i0 ⟨w_met, w_waiting, w_found, he⟩ => ⟨w_met, w_waiting, w_found, he.imp i0⟩) (fun F30 x_other_31 v_32 y34 σ1 H1 k29 N hn26 hI hx hm => ?_) (fun y35 σ1 H1 hI hm => ?_))
    · obtain ⟨x_met_36, x_waiting_38, x_found_40⟩ := y34
      obtain ⟨v_37, v_39, v_41, he⟩ := hI
      refine tg_name (i := 6) he (show 6 < 7 from by decide) hx fun σ2 he => ?_
      have he : EnvOk H F30 [some (bG a_nears_v v_nears_v), some (bG a_gone v_gone), some (bG a_room v_room), some (bN (Ls.mk x_found_40) v_41), some (bN (DI.mk x_met_36) v_37), some (bN (Ls.mk x_waiting_38) v_39), some (bN x_other_31 v_32)] σ2 _ := he
      refine (x_if he (ewt_ret (et_test (ev_notInDI (ev_get (i := 6) he.r rfl) (ev_get (i := 4) he.r rfl)))) hm (fun H1 (he : EnvOk H F30 [some (bG a_nears_v v_nears_v), some (bG a_gone v_gone), some (bG a_room v_room), some (bN (Ls.mk x_found_40) v_41), some (bN (DI.mk x_met_36) v_37), some (bN (Ls.mk x_waiting_38) v_39), some (bN x_other_31 v_32)] _ H1) hm => ?_) (fun H1 (he : EnvOk H F30 [some (bG a_nears_v v_nears_v), some (bG a_gone v_gone), some (bG a_room v_room), some (bN (Ls.mk x_found_40) v_41), some (bN (DI.mk x_met_36) v_37), some (bN (Ls.mk x_waiting_38) v_39), some (bN x_other_31 v_32)] _ H1) hm => ?_))
      · refine q_of (x_putDI (i := 4) he rfl (ew_ret ev_bl) (ew_ret (ev_get (i := 6) he.r rfl)) hm fun x_met_43 H1 (he : EnvOk H F30 [some (bG a_nears_v v_nears_v), some (bG a_gone v_gone), some (bG a_room v_room), some (bN (Ls.mk x_found_40) v_41), some (bN (DI.mk x_met_43) v_37), some (bN (Ls.mk x_waiting_38) v_39), some (bN x_other_31 v_32)] _ H1) hm => ?_)
        refine (x_if he (ewt_ret (et_test (ev_inI (ev_get (i := 6) he.r rfl) (ev_get (i := 1) he.r rfl)))) hm (fun H1 (he : EnvOk H F30 [some (bG a_nears_v v_nears_v), some (bG a_gone v_gone), some (bG a_room v_room), some (bN (Ls.mk x_found_40) v_41), some (bN (DI.mk x_met_43) v_37), some (bN (Ls.mk x_waiting_38) v_39), some (bN x_other_31 v_32)] _ H1) hm => ?_) (fun H1 (he : EnvOk H F30 [some (bG a_nears_v v_nears_v), some (bG a_gone v_gone), some (bG a_room v_room), some (bN (Ls.mk x_found_40) v_41), some (bN (DI.mk x_met_43) v_37), some (bN (Ls.mk x_waiting_38) v_39), some (bN x_other_31 v_32)] _ H1) hm => ?_))
        · refine (x_app (i := 5) he rfl (ew_ret (ev_get (i := 6) he.r rfl)) hm fun a46 H1 (he : EnvOk H F30 [some (bG a_nears_v v_nears_v), some (bG a_gone v_gone), some (bG a_room v_room), some (bN (Ls.mk x_found_40) v_41), some (bN (DI.mk x_met_43) v_37), some (bN (Ls.mk (x_waiting_38 ++ [a46])) v_39), some (bN x_other_31 v_32)] _ H1) hm => ?_)
          have he := he.drop (i := 6)
          exact hn26 (x_met_43, (x_waiting_38 ++ [a46]), x_found_40) _ _ ⟨v_37, v_39, v_41, he⟩ hm
        · refine (x_app (i := 3) he rfl (ew_ret (ev_get (i := 6) he.r rfl)) hm fun a48 H1 (he : EnvOk H F30 [some (bG a_nears_v v_nears_v), some (bG a_gone v_gone), some (bG a_room v_room), some (bN (Ls.mk (x_found_40 ++ [a48])) v_41), some (bN (DI.mk x_met_43) v_37), some (bN (Ls.mk x_waiting_38) v_39), some (bN x_other_31 v_32)] _ H1) hm => ?_)
          have he := he.drop (i := 6)
          exact hn26 (x_met_43, x_waiting_38, (x_found_40 ++ [a48])) _ _ ⟨v_37, v_39, v_41, he⟩ hm
      · have he := he.drop (i := 6)
        exact hn26 (x_met_36, x_waiting_38, x_found_40) _ _ ⟨v_37, v_39, v_41, he⟩ hm
    · first | refine e_of ?_ | skip
      obtain ⟨x_met_52, x_waiting_54, x_found_56⟩ := y35
      obtain ⟨v_53, v_55, v_57, he⟩ := hI
      have he : EnvOk H (fun _ => True) [some (bG a_nears_v v_nears_v), some (bG a_gone v_gone), some (bG a_room v_room), some (bN (Ls.mk x_found_56) v_57), some (bN (DI.mk x_met_52) v_53), some (bN (Ls.mk x_waiting_54) v_55), none] σ1 H1 := he
      exact hn7 (x_waiting_54, x_met_52, x_found_56) _ _ ⟨v_55, v_53, v_57, he⟩ hm
  · first | refine e_of ?_ | skip
    obtain ⟨x_waiting_59, x_met_61, x_found_63⟩ := y14
    obtain ⟨v_60, v_62, v_64, he⟩ := hI
    have he : EnvOk H (fun _ => True) [some (bG a_nears_v v_nears_v), some (bG a_gone v_gone), some (bG a_room v_room), some (bN (Ls.mk x_found_63) v_64), some (bN (DI.mk x_met_61) v_62), some (bN (Ls.mk x_waiting_59) v_60), none] σ1 H1 := he
    exact x_retV (i := 3) he rfl hm kq

theorem w_law_fast (T : Ctx K mg) : FnOk P w K mg base CX0 2 T.a_law_fast T.fd_law_fast ["nears_v"] (SpW1 (fun (a_nears_v : (Ls (List Int))) => M_law_fast a_nears_v)) := by
  have G_law_by := w_law_by (P := P) (w := w) (base := base) T
  have G_law_lots := w_law_lots (P := P) (w := w) (base := base) T
  refine T.F_law_fast.ok sc_law_fast (fun vs H Q E h => h.len) (fun cdv A outer s H vs Q E hr h => ?_)
  obtain ⟨hne, v_nears_v, a_nears_v, rfl, r_nears_v, Pq, hm, kq⟩ := h
  have he : EnvOk H (fun _ => True) [some (bG a_nears_v v_nears_v), none, none, none, none, none, none] (L2.start ["nears_v", "best", "lot", "some", "room", "rest", "other"] [v_nears_v]) H := env0 (show Ini [some (bG a_nears_v v_nears_v), none, none, none, none, none, none] [some v_nears_v, none, none, none, none, none, none] H from ⟨rfl, rfl, r_nears_v, trivial⟩) hne
  unfold M_law_fast at hm
  refine ⟨_, (pss_cons (ps_set (i := 1) sc_law_fast.nd rfl (Or.inl rfl) (pe_dispT1 (show _ + 2 < cLine from Nat.lt_of_le_of_lt (Nat.add_le_add_left (by decide) _) hr.units) (pe_tup pa_nil) pe_int))
      (pss_cons (ps_for PassesOwn.never rfl (k_pi_list (K := K) rfl (pe_slice (k_sl_list (K := K) rfl) (pe_call (G_law_lots) (hr.mono (by first | decide | omega)) (by rfl) T.m_law_lots T.F_law_lots.kp T.b_law_lots .nil pass0 (pa_cons (pe_callB (k_len (K := K) rfl) (by rfl) T.n_len (by decide +kernel) (pa_cons (pv 0) pa_nil)) pa_nil)) (po_some pe_int) po_none)) (pg_name (i := 2) sc_law_fast.nd rfl (Or.inl rfl) (Or.inr rfl))
      (pss_cons (ps_set (i := 3) sc_law_fast.nd rfl (Or.inl rfl) (pe_lst pa_nil))
      (pss_cons (ps_for PassesOwn.never rfl (k_pi_tup (K := K) rfl (pv 2)) (pg_name (i := 4) sc_law_fast.nd rfl (Or.inr rfl) (Or.inl rfl))
      (pss_cons (ps_set (i := 5) sc_law_fast.nd rfl (Or.inl rfl) (pe_callTy (k_tuple_of (K := K) rfl) (by rfl) T.n_tuple (by decide +kernel) (pa_cons (pe_lc (own := [("other", 6)]) rfl sc_law_fast.nd (k_pi_tup (K := K) rfl (pv 2)) (blkOk_by (by kernel_rfl)) (fun _ _ _ _ _ => (pg_name (i := 6) sc_law_fast.nd rfl (Or.inl rfl) (Or.inr rfl))) (fun _ _ _ _ _ => (pts_one (pt_cmpR op_ne (pv 6) (pv 4) (nomark _)))) (fun _ _ _ _ _ => (pv 6))) pa_nil)))
      (pss_one (ps_expr (k_bm (K := K) rfl PySem.F.plainAttrs_list PySem.F.slot_list_append PySem.F.type_list_append mt_append (pv 3) (pa_cons (pe_callB (call_max2 rfl) (by rfl) T.n_max (by decide +kernel) (pa_cons (pe_dget (hu_of hr) (pv 1) (pv 5) (fun _ _ => rfl)) (pa_cons (pe_callB (k_len (K := K) rfl) (by rfl) T.n_len (by decide +kernel) (pa_cons (pe_call (G_law_by) (hr.mono (by first | decide | omega)) (by rfl) T.m_law_by T.F_law_by.kp T.b_law_by .nil pass0 (pa_cons (pv 0) (pa_cons (pv 5) (pa_cons (pv 4) pa_nil)))) pa_nil)) pa_nil))) pa_nil))))))
      (pss_one (ps_dput (hu_of hr) (pv 1) (pv 2) (pe_callB (k_min (K := K) rfl rfl) (by rfl) T.n_min (by decide +kernel) (pa_cons (pv 3) pa_nil)) rfl)))))
      (pss_one (ps_ret (pe_op op_add pe_int (pe_dget (hu_of hr) (pv 1) (pe_callTy (k_tuple_of (K := K) rfl) (by rfl) T.n_tuple (by decide +kernel) (pa_cons (pe_listRg rfl (by rfl) T.n_list (prg_1 (by rfl) T.n_range (pe_callB (k_len (K := K) rfl) (by rfl) T.n_len (by decide +kernel) (pa_cons (pv 0) pa_nil)))) pa_nil)) (fun _ _ => rfl))))))), ?_⟩
  refine q_of (x_asg (i := 1) he (show 1 < 7 from by decide) (ewF_dispT1 he.ne (ev_tup (α := Int) eal_nil (Nat.zero_le _)) ev_int) hm fun x_best_1 v_2 σ1 H1 (he : EnvOk H (fun _ => True) [some (bG a_nears_v v_nears_v), some (bN (DT.mk x_best_1.kv) v_2), none, none, none, none, none] σ1 H1) hm => ?_)
  refine q_of (x_for (S := (List (List Int × Int))) he (srcW_lst (ewF_l1 th1_sl (ew_F (ew_call1 he.ne (ev_lenL (ev_get (i := 0) he.r rfl)))) fun z3 _ H9 g9 r0 => (ewF_slL (g9.neat he.ne) (ev_c (d := Ls.mk z3.l) r0) (eo_some ev_int) eo_none))) hm (fun F9 s0 σ0 H0 => ∃ w_best, EnvOk H F9 [some (bG a_nears_v v_nears_v), some (bN (DT.mk s0) w_best), none, none, none, none, none] σ0 H0) (fun F9 H1 he => ⟨v_2, he⟩) (fun F9 s0 σ0 H0 ⟨w_best, he⟩ => he.frm) (fun F9 s0 σ0 H0 H1 g0 ⟨w_best, he⟩ => ⟨w_best, he.mono g0⟩) (fun F9 s0 σ0 H0 i0 ⟨w_best, he⟩ => ⟨w_best, he.imp i0⟩) (fun F9 x_lot_10 v_11 y13 σ1 H1 k8 N hn5 hI hx hm => ?_) (fun y14 σ1 H1 hI hm => ?_))
  · obtain ⟨v_15, he⟩ := hI
    refine tg_name (i := 2) he (show 2 < 7 from by decide) hx fun σ2 he => ?_
    have he : EnvOk H F9 [some (bG a_nears_v v_nears_v), some (bN (DT.mk y13) v_15), some (bN x_lot_10 v_11), none, none, none, none] σ2 _ := he
    refine q_of (x_asg (i := 3) he (show 3 < 7 from by decide) (ewF_nil (α := Int) he.ne) hm fun x_some_16 v_17 σ1 H1 (he : EnvOk H F9 [some (bG a_nears_v v_nears_v), some (bN (DT.mk y13) v_15), some (bN x_lot_10 v_11), some (bN (Ls.mk x_some_16.l) v_17), none, none, none] σ1 H1) hm => ?_)
    refine q_of (x_for (S := (List Int)) he (srcW_tup (ew_ret (ev_get (i := 2) he.r rfl))) hm (fun F22 s0 σ0 H0 => ∃ w_some, EnvOk H F22 [some (bG a_nears_v v_nears_v), some (bN (DT.mk y13) v_15), some (bN x_lot_10 v_11), some (bN (Ls.mk s0) w_some), none, none, none] σ0 H0) (fun F22 H1 he => ⟨v_17, he⟩) (fun F22 s0 σ0 H0 ⟨w_some, he⟩ => he.frm) (fun F22 s0 σ0 H0 H1 g0 ⟨w_some, he⟩ => ⟨w_some, he.mono g0⟩) (fun F22 s0 σ0 H0 i0 ⟨w_some, he⟩ => ⟨w_some, he.imp i0⟩) (fun F22 x_room_23 v_24 y26 σ1 H1 k21 N hn18 hI hx hm => ?_) (fun y27 σ1 H1 hI hm => ?_))
    · obtain ⟨v_28, he⟩ := hI
      refine tg_name (i := 4) he (show 4 < 7 from by decide) hx fun σ2 he => ?_
      have he : EnvOk H F22 [some (bG a_nears_v v_nears_v), some (bN (DT.mk y13) v_15), some (bN x_lot_10 v_11), some (bN (Ls.mk y26) v_28), some (bN x_room_23 v_24), none, none] σ2 _ := he
      refine q_of (x_asg (i := 5) he (show 5 < 7 from by decide) (ewF_I (ew_l1 th1_cb (ew_F (ewF_lcN (j := 6) he.r (SrcW.c (srcW_tup (ew_ret (ev_get (i := 2) he.r rfl)))) (show 6 < 7 from by decide) (by decide) (fun x_other_30 _ _ _ hr29 => (ewt_ret (et_test (ev_neI (ev_get (i := 6) hr29 rfl) (ev_get (i := 4) hr29 rfl))))) (fun x_other_30 _ _ _ hr29 => (ew_r (ev_get (i := 6) hr29 rfl))))) fun z31 _ H9 g9 r0 => (ew_ret (ev_tupL (ev_c (d := Ls.mk z31.l) r0))))) hm fun x_rest_32 v_33 σ1 H1 (he : EnvOk H F22 [some (bG a_nears_v v_nears_v), some (bN (DT.mk y13) v_15), some (bN x_lot_10 v_11), some (bN (Ls.mk y26) v_28), some (bN x_room_23 v_24), some (bN x_rest_32 v_33), none] σ1 H1) hm => ?_)
      refine (x_app (i := 3) he rfl (ew_l2 th2_cb (ew_getDT (ev_get (i := 1) he.r rfl) (ev_get (i := 5) he.r rfl)) (ew_l1 th1_cb (ew_F (ew_call3 he.ne (ev_get (i := 0) he.r rfl) (ev_get (i := 5) he.r rfl) (ev_get (i := 4) he.r rfl))) fun z35 _ H9 g9 r0 => (ew_ret (ev_lenL (ev_c (d := Ls.mk z35.l) r0)))) fun z36 z37 _ _ H9 g9 r0 r1 => (ew_ret (ev_max2 (ev_c r0) (ev_c r1)))) hm fun a38 H1 (he : EnvOk H F22 [some (bG a_nears_v v_nears_v), some (bN (DT.mk y13) v_15), some (bN x_lot_10 v_11), some (bN (Ls.mk (y26 ++ [a38])) v_28), some (bN x_room_23 v_24), some (bN x_rest_32 v_33), none] _ H1) hm => ?_)
      have he := he.drop (i := 4)
      have he := he.drop (i := 5)
      exact hn18 (y26 ++ [a38]) _ _ ⟨v_28, he⟩ hm
    · first | refine e_of ?_ | skip
      obtain ⟨v_40, he⟩ := hI
      have he : EnvOk H F9 [some (bG a_nears_v v_nears_v), some (bN (DT.mk y13) v_15), some (bN x_lot_10 v_11), some (bN (Ls.mk y27) v_40), none, none, none] σ1 H1 := he
      refine (x_putDT (i := 1) he rfl (ew_minL (ev_get (i := 3) he.r rfl)) (ew_ret (ev_get (i := 2) he.r rfl)) hm fun x_best_41 H1 (he : EnvOk H F9 [some (bG a_nears_v v_nears_v), some (bN (DT.mk x_best_41) v_15), some (bN x_lot_10 v_11), some (bN (Ls.mk y27) v_40), none, none, none] _ H1) hm => ?_)
      have he := he.drop (i := 2)
      have he := he.drop (i := 3)
      exact hn5 x_best_41 _ _ ⟨v_15, he⟩ hm
  · first | refine e_of ?_ | skip
    obtain ⟨v_46, he⟩ := hI
    have he : EnvOk H (fun _ => True) [some (bG a_nears_v v_nears_v), some (bN (DT.mk y14) v_46), none, none, none, none, none] σ1 H1 := he
    exact x_ret he (ewF_I (ew_l2 th2_op (ew_ret ev_int) (ew_l2 th2_dget (ew_ret (ev_get (i := 1) he.r rfl)) (ew_l1 th1_cb (ew_F (ewF_lstRg1 he.ne (ev_lenL (ev_get (i := 0) he.r rfl)))) fun z47 _ H9 g9 r0 => (ew_ret (ev_tupL (ev_c (d := Ls.mk z47.l) r0)))) fun z48 z49 _ _ H9 g9 r0 r1 => (ew_getDT (ev_c (d := DT.mk z48.kv) r0) (ev_c r1))) fun z50 z51 _ _ H9 g9 r0 r1 => (ew_ret (ev_add (ev_c r0) (ev_c r1))))) hm kq

theorem w_law_one (T : Ctx K mg) : FnOk P w K mg base CX0 1 T.a_law_one T.fd_law_one ["parts", "a", "b"] (SpW3 (fun (a_parts : (Int × (List (Int × Int)))) (a_a : Int) (a_b : Int) => M_law_one a_parts a_a a_b)) := by
  refine T.F_law_one.ok sc_law_one (fun vs H Q E h => h.len) (fun cdv A outer s H vs Q E hr h => ?_)
  obtain ⟨hne, v_parts, v_a, v_b, a_parts, a_a, a_b, rfl, r_parts, r_a, r_b, Pq, hm, kq⟩ := h
  have he : EnvOk H (fun _ => True) [some (bG a_parts v_parts), some (bG a_a v_a), some (bG a_b v_b), none, none, none, none, none] (L2.start ["parts", "a", "b", "found", "one", "other", "pair", "room"] [v_parts, v_a, v_b]) H := env0 (show Ini [some (bG a_parts v_parts), some (bG a_a v_a), some (bG a_b v_b), none, none, none, none, none] [some v_parts, some v_a, some v_b, none, none, none, none, none] H from ⟨rfl, rfl, r_parts, rfl, rfl, r_a, rfl, rfl, r_b, trivial⟩) hne
  unfold M_law_one at hm
  refine ⟨_, (pss_cons (ps_set (i := 3) sc_law_one.nd rfl (Or.inl rfl) pe_dnewT)
      (pss_cons (ps_for PassesOwn.never rfl (k_pi_tup (K := K) rfl (pe_ix (k_ix_tup (K := K) rfl) (pv 0) pe_int (fun _ _ => rfl))) (k_pg_tup (K := K) (n := 2) rfl rfl (pgs_cons (pg_name (i := 4) sc_law_one.nd rfl (Or.inl rfl) (Or.inr rfl)) (pgs_cons (pg_name (i := 5) sc_law_one.nd rfl (Or.inl rfl) (Or.inr rfl)) pgs_nil)) rfl)
      (pss_cons (ps_setLc (i := 6) (own := [("room", 7)]) rfl sc_law_one.nd rfl rfl (sw_true rfl rfl rfl (by decide +kernel)) (k_pi_tup (K := K) rfl (pe_tup (pa_cons (pv 4) (pa_cons (pv 5) pa_nil)))) (blkOk_by (by kernel_rfl)) (fun _ _ _ _ _ => (pg_name (i := 7) sc_law_one.nd rfl (Or.inl rfl) (Or.inr rfl))) (fun _ _ _ _ _ => pts_nil) (fun _ _ _ _ _ => (pe_ifExp (pt_cmpR op_eq (pv 7) (pv 2) (nomark _)) (pv 1) (pe_op op_sub (pv 7) (pe_callTy call_int1 (by rfl) T.n_int (by decide +kernel) (pa_cons (pe_cmpR op_gt (pv 7) (pv 2) (nomark _)) pa_nil))))))
      (pss_one (ps_if (pt_cmpR op_ne (pe_ix (k_ix_list (K := K) rfl) (pv 6) pe_int (fun _ _ => rfl)) (pe_ix (k_ix_list (K := K) rfl) (pv 6) pe_int (fun _ _ => rfl)) (nomark _)) (pss_one (ps_dput (hu_of hr) (pv 3) (pe_tup (pa_cons (pe_callB (k_min (K := K) rfl rfl) (by rfl) T.n_min (by decide +kernel) (pa_cons (pv 6) pa_nil)) (pa_cons (pe_callB (k_max (K := K) rfl rfl) (by rfl) T.n_max (by decide +kernel) (pa_cons (pv 6) pa_nil)) pa_nil))) pe_bl rfl)) pss_nil))))
      (pss_one (ps_ret (pe_tup (pa_cons (pe_op op_sub (pe_ix (k_ix_tup (K := K) rfl) (pv 0) pe_int (fun _ _ => rfl)) pe_int) (pa_cons (pe_callTy (k_tuple_of (K := K) rfl) (by rfl) T.n_tuple (by decide +kernel) (pa_cons (pe_callB (cr_sortedG rfl hr.units) (by rfl) T.n_sorted (by decide +kernel) (pa_cons (pv 3) pa_nil)) pa_nil)) pa_nil))))))), ?_⟩
  refine q_of (x_asg (i := 3) he (show 3 < 8 from by decide) (ewF_newDT he.ne) hm fun x_found_1 v_2 σ1 H1 (he : EnvOk H (fun _ => True) [some (bG a_parts v_parts), some (bG a_a v_a), some (bG a_b v_b), some (bN (DT.mk x_found_1.kv) v_2), none, none, none, none] σ1 H1) hm => ?_)
  refine q_of (x_for (S := (List (List Int × Bool))) he (srcW_tup (ew_ret (ev_snd (ev_get (i := 0) he.r rfl)))) hm (fun F7 s0 σ0 H0 => ∃ w_found, EnvOk H F7 [some (bG a_parts v_parts), some (bG a_a v_a), some (bG a_b v_b), some (bN (DT.mk s0) w_found), none, none, none, none] σ0 H0) (fun F7 H1 he => ⟨v_2, he⟩) (fun F7 s0 σ0 H0 ⟨w_found, he⟩ => he.frm) (fun F7 s0 σ0 H0 H1 g0 ⟨w_found, he⟩ => ⟨w_found, he.mono g0⟩) (fun F7 s0 σ0 H0 i0 ⟨w_found, he⟩ => ⟨w_found, he.imp i0⟩) (fun F7 d8 v_9 y11 σ1 H1 k6 N hn3 hI hx hm => ?_) (fun y12 σ1 H1 hI hm => ?_))
  · obtain ⟨v_13, he⟩ := hI
    obtain ⟨x_one_14, x_other_15⟩ := d8
    refine tg_pair (K := K) (i := 4) (j := 5) he (show 4 < 8 from by decide) (show 5 < 8 from by decide) hx fun v_16 v_17 σ2 he => ?_
    have he : EnvOk H F7 [some (bG a_parts v_parts), some (bG a_a v_a), some (bG a_b v_b), some (bN (DT.mk y11) v_13), some (bN x_one_14 v_16), some (bN x_other_15 v_17), none, none] σ2 _ := he
    refine q_of (x_asg (i := 6) he (show 6 < 8 from by decide) (ewF_lcN (j := 7) he.r (SrcW.c (srcW_tup (ew_ret (ev_tup (α := Int) (eal_cons (ev_get (i := 4) he.r rfl) (eal_cons (ev_get (i := 5) he.r rfl) eal_nil)) (show 2 ≤ _ by decide))))) (show 7 < 8 from by decide) (by decide) (fun x_room_19 _ _ _ hr18 => ewt_yes) (fun x_room_19 _ _ _ hr18 => (ew_r (ev_if (et_test (ev_eqI (ev_get (i := 7) hr18 rfl) (ev_get (i := 2) hr18 rfl))) (fun _ => (ev_get (i := 1) hr18 rfl)) (fun _ => (ev_sub (ev_get (i := 7) hr18 rfl) (ev_intB (ev_gt (ev_get (i := 7) hr18 rfl) (ev_get (i := 2) hr18 rfl))))))))) hm fun x_pair_21 v_22 σ1 H1 (he : EnvOk H F7 [some (bG a_parts v_parts), some (bG a_a v_a), some (bG a_b v_b), some (bN (DT.mk y11) v_13), some (bN x_one_14 v_16), some (bN x_other_15 v_17), some (bN (Ls.mk x_pair_21.l) v_22), none] σ1 H1) hm => ?_)
    refine (x_if he (ewt_test (ew_l2 th2_op (ew_ixL (ev_get (i := 6) he.r rfl) ev_int) (ew_ixL (ev_get (i := 6) he.r rfl) ev_int) fun z23 z24 _ _ H9 g9 r0 r1 => (ew_ret (ev_neI (ev_c r0) (ev_c r1))))) hm (fun H1 (he : EnvOk H F7 [some (bG a_parts v_parts), some (bG a_a v_a), some (bG a_b v_b), some (bN (DT.mk y11) v_13), some (bN x_one_14 v_16), some (bN x_other_15 v_17), some (bN (Ls.mk x_pair_21.l) v_22), none] _ H1) hm => ?_) (fun H1 (he : EnvOk H F7 [some (bG a_parts v_parts), some (bG a_a v_a), some (bG a_b v_b), some (bN (DT.mk y11) v_13), some (bN x_one_14 v_16), some (bN x_other_15 v_17), some (bN (Ls.mk x_pair_21.l) v_22), none] _ H1) hm => ?_))
    · refine (x_putDT (i := 3) he rfl (ew_ret ev_bl) (ew_l2 th2_tup (ew_minL (ev_get (i := 6) he.r rfl)) (ew_maxL (ev_get (i := 6) he.r rfl)) fun z26 z27 _ _ H9 g9 r0 r1 => (ew_ret (ev_tup (α := Int) (eal_cons (ev_c r0) (eal_cons (ev_c r1) eal_nil)) (show 2 ≤ _ by decide)))) hm fun x_found_28 H1 (he : EnvOk H F7 [some (bG a_parts v_parts), some (bG a_a v_a), some (bG a_b v_b), some (bN (DT.mk x_found_28) v_13), some (bN x_one_14 v_16), some (bN x_other_15 v_17), some (bN (Ls.mk x_pair_21.l) v_22), none] _ H1) hm => ?_)
      have he := he.drop (i := 4)
      have he := he.drop (i := 5)
      have he := he.drop (i := 6)
      exact hn3 x_found_28 _ _ ⟨v_13, he⟩ hm
    · have he := he.drop (i := 4)
      have he := he.drop (i := 5)
      have he := he.drop (i := 6)
      exact hn3 y11 _ _ ⟨v_13, he⟩ hm
  · first | refine e_of ?_ | skip
    obtain ⟨v_32, he⟩ := hI
    have he : EnvOk H (fun _ => True) [some (bG a_parts v_parts), some (bG a_a v_a), some (bG a_b v_b), some (bN (DT.mk y12) v_32), none, none, none, none] σ1 H1 := he
    exact x_ret he (ewF_I (ew_l2 th2_tup (ew_ret (ev_sub (ev_fst (ev_get (i := 0) he.r rfl)) ev_int)) (ew_l1 th1_id (ew_l1 th1_cb (ew_F (ewF_sortedDT he.ne (ev_get (i := 3) he.r rfl))) fun z33 _ H9 g9 r0 => (ew_ret (ev_tupL (ev_c (d := Ls.mk z33.l) r0)))) fun z34 _ H9 g9 r0 => (ew_castD (ev_c r0))) fun z35 z36 _ _ H9 g9 r0 r1 => (ew_ret (ev_pair (ev_c r0) (ev_c r1))))) hm kq

theorem w_law_steps (T : Ctx K mg) : FnOk P w K mg base CX0 2 T.a_law_steps T.fd_law_steps ["parts"] (SpW1 (fun (a_parts : (Int × (List (Int × Int)))) => M_law_steps a_parts)) := by
  have G_law_one := w_law_one (P := P) (w := w) (base := base) T
  refine T.F_law_steps.ok sc_law_steps (fun vs H Q E h => h.len) (fun cdv A outer s H vs Q E hr h => ?_)
  obtain ⟨hne, v_parts, a_parts, rfl, r_parts, Pq, hm, kq⟩ := h
  have he : EnvOk H (fun _ => True) [some (bG a_parts v_parts), none, none, none, none, none, none] (L2.start ["parts", "found", "a", "b", "door", "gone", "doors"] [v_parts]) H := env0 (show Ini [some (bG a_parts v_parts), none, none, none, none, none, none] [some v_parts, none, none, none, none, none, none] H from ⟨rfl, rfl, r_parts, trivial⟩) hne
  unfold M_law_steps at hm
  refine ⟨_, (pss_cons (ps_set (i := 1) sc_law_steps.nd rfl (Or.inl rfl) (pe_lst pa_nil))
      (pss_cons (ps_for PassesOwn.never rfl (k_pi_tup (K := K) rfl (pe_ix (k_ix_tup (K := K) rfl) (pv 0) pe_int (fun _ _ => rfl))) (k_pg_tup (K := K) (n := 2) rfl rfl (pgs_cons (pg_name (i := 2) sc_law_steps.nd rfl (Or.inr rfl) (Or.inl rfl)) (pgs_cons (pg_name (i := 3) sc_law_steps.nd rfl (Or.inr rfl) (Or.inl rfl)) pgs_nil)) rfl)
      (pss_one (ps_expr (k_bm (K := K) rfl PySem.F.plainAttrs_list PySem.F.slot_list_append PySem.F.type_list_append mt_append (pv 1) (pa_cons (pe_tup (pa_cons (pe_tup (pa_cons pe_str (pa_cons (pv 2) (pa_cons (pv 3) pa_nil)))) (pa_cons (pe_tup (pa_cons (pe_ix (k_ix_tup (K := K) rfl) (pv 0) pe_int (fun _ _ => rfl)) (pa_cons (pe_callTy (k_tuple_of (K := K) rfl) (by rfl) T.n_tuple (by decide +kernel) (pa_cons (pe_lc (own := [("door", 4)]) rfl sc_law_steps.nd (k_pi_tup (K := K) rfl (pe_ix (k_ix_tup (K := K) rfl) (pv 0) pe_int (fun _ _ => rfl))) (blkOk_by (by kernel_rfl)) (fun _ _ _ _ _ => (pg_name (i := 4) sc_law_steps.nd rfl (Or.inl rfl) (Or.inr rfl))) (fun _ _ _ _ _ => (pts_one (pt_cmpR (k_neD (K := K) rfl hr.units) (pv 4) (pe_tup (pa_cons (pv 2) (pa_cons (pv 3) pa_nil))) (nomark _)))) (fun _ _ _ _ _ => (pv 4))) pa_nil)) pa_nil))) pa_nil))) pa_nil)))))
      (pss_cons (ps_for PassesOwn.never rfl (k_pi_tup (K := K) rfl (pe_ix (k_ix_tup (K := K) rfl) (pv 0) pe_int (fun _ _ => rfl))) (k_pg_tup (K := K) (n := 2) rfl rfl (pgs_cons (pg_name (i := 2) sc_law_steps.nd rfl (Or.inr rfl) (Or.inl rfl)) (pgs_cons (pg_name (i := 3) sc_law_steps.nd rfl (Or.inr rfl) (Or.inl rfl)) pgs_nil)) rfl)
      (pss_one (ps_expr (k_bm (K := K) rfl PySem.F.plainAttrs_list PySem.F.slot_list_append PySem.F.type_list_append mt_append (pv 1) (pa_cons (pe_tup (pa_cons (pe_tup (pa_cons pe_str (pa_cons (pv 2) (pa_cons (pv 3) pa_nil)))) (pa_cons (pe_call (G_law_one) (hr.mono (by first | decide | omega)) (by rfl) T.m_law_one T.F_law_one.kp T.b_law_one .nil pass0 (pa_cons (pv 0) (pa_cons (pv 2) (pa_cons (pv 3) pa_nil)))) pa_nil))) pa_nil)))))
      (pss_cons (ps_for PassesOwn.never rfl (k_pi_list (K := K) rfl (pe_ifExp (pt_cmpR op_gt (pe_ix (k_ix_tup (K := K) rfl) (pv 0) pe_int (fun _ _ => rfl)) pe_int (nomark _)) (pe_listRg rfl (by rfl) T.n_list (prg_1 (by rfl) T.n_range (pe_ix (k_ix_tup (K := K) rfl) (pv 0) pe_int (fun _ _ => rfl)))) (pe_lst pa_nil))) (pg_name (i := 5) sc_law_steps.nd rfl (Or.inr rfl) (Or.inl rfl))
      (pss_cons (ps_setLc (i := 6) (own := [("a", 2), ("b", 3)]) rfl sc_law_steps.nd rfl rfl (sw_true rfl rfl rfl (by decide +kernel)) (k_pi_tup (K := K) rfl (pe_ix (k_ix_tup (K := K) rfl) (pv 0) pe_int (fun _ _ => rfl))) (blkOk_by (by kernel_rfl)) (fun _ _ _ _ _ => (k_pg_tup (K := K) (n := 2) rfl rfl (pgs_cons (pg_name (i := 2) sc_law_steps.nd rfl (Or.inl rfl) (Or.inr rfl)) (pgs_cons (pg_name (i := 3) sc_law_steps.nd rfl (Or.inl rfl) (Or.inr rfl)) pgs_nil)) rfl)) (fun _ _ _ _ _ => (pts_one (pt_cmpR (k_notIn_seq (K := K) rfl) (pv 5) (pe_tup (pa_cons (pv 2) (pa_cons (pv 3) pa_nil))) (by rfl)))) (fun _ _ _ _ _ => (pe_tup (pa_cons (pe_op op_sub (pv 2) (pe_callTy call_int1 (by rfl) T.n_int (by decide +kernel) (pa_cons (pe_cmpR op_gt (pv 2) (pv 5) (nomark _)) pa_nil))) (pa_cons (pe_op op_sub (pv 3) (pe_callTy call_int1 (by rfl) T.n_int (by decide +kernel) (pa_cons (pe_cmpR op_gt (pv 3) (pv 5) (nomark _)) pa_nil))) pa_nil)))))
      (pss_one (ps_expr (k_bm (K := K) rfl PySem.F.plainAttrs_list PySem.F.slot_list_append PySem.F.type_list_append mt_append (pv 1) (pa_cons (pe_tup (pa_cons (pe_tup (pa_cons pe_str (pa_cons (pv 5) pa_nil))) (pa_cons (pe_tup (pa_cons (pe_op op_sub (pe_ix (k_ix_tup (K := K) rfl) (pv 0) pe_int (fun _ _ => rfl)) pe_int) (pa_cons (pe_callTy (k_tuple_of (K := K) rfl) (by rfl) T.n_tuple (by decide +kernel) (pa_cons (pe_callB (cr_sortedG rfl hr.units) (by rfl) T.n_sorted (by decide +kernel) (pa_cons (pv 6) pa_nil)) pa_nil)) pa_nil))) pa_nil))) pa_nil))))))
      (pss_one (ps_ret (pv 1))))))), ?_⟩
  refine q_of (x_asg (i := 1) he (show 1 < 7 from by decide) (ewF_nil (α := (((Tr Str Int Int) ⊕ (Str × Int)) × (Int × (List (Int × Int))))) he.ne) hm fun x_found_1 v_2 σ1 H1 (he : EnvOk H (fun _ => True) [some (bG a_parts v_parts), some (bN (Ls.mk x_found_1.l) v_2), none, none, none, none, none] σ1 H1) hm => ?_)
  refine q_of (x_for (S := (List (((Tr Str Int Int) ⊕ (Str × Int)) × (Int × (List (Int × Int)))))) he (srcW_tup (ew_ret (ev_snd (ev_get (i := 0) he.r rfl)))) hm (fun F7 s0 σ0 H0 => ∃ w_found, EnvOk H F7 [some (bG a_parts v_parts), some (bN (Ls.mk s0) w_found), none, none, none, none, none] σ0 H0) (fun F7 H1 he => ⟨v_2, he⟩) (fun F7 s0 σ0 H0 ⟨w_found, he⟩ => he.frm) (fun F7 s0 σ0 H0 H1 g0 ⟨w_found, he⟩ => ⟨w_found, he.mono g0⟩) (fun F7 s0 σ0 H0 i0 ⟨w_found, he⟩ => ⟨w_found, he.imp i0⟩) (fun F7 d8 v_9 y11 σ1 H1 k6 N hn3 hI hx hm => ?_) (fun y12 σ1 H1 hI hm => ?_))
  · obtain ⟨v_13, he⟩ := hI
    obtain ⟨x_a_14, x_b_15⟩ := d8
    refine tg_pair (K := K) (i := 2) (j := 3) he (show 2 < 7 from by decide) (show 3 < 7 from by decide) hx fun v_16 v_17 σ2 he => ?_
    have he : EnvOk H F7 [some (bG a_parts v_parts), some (bN (Ls.mk y11) v_13), some (bN x_a_14 v_16), some (bN x_b_15 v_17), none, none, none] σ2 _ := he
    refine (x_app (i := 1) he rfl (ew_l2 th2_tup (ew_ret (ev_inl (β := (Str × Int)) (ev_tr ev_str (ev_get (i := 2) he.r rfl) (ev_get (i := 3) he.r rfl)))) (ew_l2 th2_tup (ew_ret (ev_fst (ev_get (i := 0) he.r rfl))) (ew_l1 th1_cb (ew_F (ewF_lcN (j := 4) he.r (SrcW.c (srcW_tup (ew_ret (ev_snd (ev_get (i := 0) he.r rfl))))) (show 4 < 7 from by decide) (by decide) (fun x_door_20 _ _ _ hr19 => (ewt_ret (et_test (ev_neD (ev_get (i := 4) hr19 rfl) (ev_pair (ev_get (i := 2) hr19 rfl) (ev_get (i := 3) hr19 rfl)))))) (fun x_door_20 _ _ _ hr19 => (ew_r (ev_get (i := 4) hr19 rfl))))) fun z21 _ H9 g9 r0 => (ew_ret (ev_tupL (ev_c (d := Ls.mk z21.l) r0)))) fun z22 z23 _ _ H9 g9 r0 r1 => (ew_ret (ev_pair (ev_c r0) (ev_c r1)))) fun z24 z25 _ _ H9 g9 r0 r1 => (ew_ret (ev_pair (ev_c r0) (ev_c r1)))) hm fun a26 H1 (he : EnvOk H F7 [some (bG a_parts v_parts), some (bN (Ls.mk (y11 ++ [a26])) v_13), some (bN x_a_14 v_16), some (bN x_b_15 v_17), none, none, none] _ H1) hm => ?_)
    have he := he.drop (i := 2)
    have he := he.drop (i := 3)
    exact hn3 (y11 ++ [a26]) _ _ ⟨v_13, he⟩ hm
  · first | refine e_of ?_ | skip
    obtain ⟨v_28, he⟩ := hI
    have he : EnvOk H (fun _ => True) [some (bG a_parts v_parts), some (bN (Ls.mk y12) v_28), none, none, none, none, none] σ1 H1 := he
    refine q_of (x_for (S := (List (((Tr Str Int Int) ⊕ (Str × Int)) × (Int × (List (Int × Int)))))) he (srcW_tup (ew_ret (ev_snd (ev_get (i := 0) he.r rfl)))) hm (fun F33 s0 σ0 H0 => ∃ w_found, EnvOk H F33 [some (bG a_parts v_parts), some (bN (Ls.mk s0) w_found), none, none, none, none, none] σ0 H0) (fun F33 H1 he => ⟨v_28, he⟩) (fun F33 s0 σ0 H0 ⟨w_found, he⟩ => he.frm) (fun F33 s0 σ0 H0 H1 g0 ⟨w_found, he⟩ => ⟨w_found, he.mono g0⟩) (fun F33 s0 σ0 H0 i0 ⟨w_found, he⟩ => ⟨w_found, he.imp i0⟩) (fun F33 d34 v_35 y37 σ1 H1 k32 N hn29 hI hx hm => ?_) (fun y38 σ1 H1 hI hm => ?_))
    · obtain ⟨v_39, he⟩ := hI
      obtain ⟨x_a_40, x_b_41⟩ := d34
      refine tg_pair (K := K) (i := 2) (j := 3) he (show 2 < 7 from by decide) (show 3 < 7 from by decide) hx fun v_42 v_43 σ2 he => ?_
      have he : EnvOk H F33 [some (bG a_parts v_parts), some (bN (Ls.mk y37) v_39), some (bN x_a_40 v_42), some (bN x_b_41 v_43), none, none, none] σ2 _ := he
      refine (x_app (i := 1) he rfl (ew_l2 th2_tup (ew_ret (ev_inl (β := (Str × Int)) (ev_tr ev_str (ev_get (i := 2) he.r rfl) (ev_get (i := 3) he.r rfl)))) (ew_F (ew_call3 he.ne (ev_get (i := 0) he.r rfl) (ev_get (i := 2) he.r rfl) (ev_get (i := 3) he.r rfl))) fun z45 z46 _ _ H9 g9 r0 r1 => (ew_ret (ev_pair (ev_c r0) (ev_c r1)))) hm fun a47 H1 (he : EnvOk H F33 [some (bG a_parts v_parts), some (bN (Ls.mk (y37 ++ [a47])) v_39), some (bN x_a_40 v_42), some (bN x_b_41 v_43), none, none, none] _ H1) hm => ?_)
      have he := he.drop (i := 2)
      have he := he.drop (i := 3)
      exact hn29 (y37 ++ [a47]) _ _ ⟨v_39, he⟩ hm
    · first | refine e_of ?_ | skip
      obtain ⟨v_49, he⟩ := hI
      have he : EnvOk H (fun _ => True) [some (bG a_parts v_parts), some (bN (Ls.mk y38) v_49), none, none, none, none, none] σ1 H1 := he
      refine q_of (x_for (S := (List (((Tr Str Int Int) ⊕ (Str × Int)) × (Int × (List (Int × Int)))))) he (srcW_lst (ewF_if (ewt_ret (et_test (ev_gt (ev_fst (ev_get (i := 0) he.r rfl)) ev_int))) (ewF_lstRg1 he.ne (ev_fst (ev_get (i := 0) he.r rfl))) (ewF_nil (α := Int) he.ne))) hm (fun F56 s0 σ0 H0 => ∃ w_found, EnvOk H F56 [some (bG a_parts v_parts), some (bN (Ls.mk s0) w_found), none, none, none, none, none] σ0 H0) (fun F56 H1 he => ⟨v_49, he⟩) (fun F56 s0 σ0 H0 ⟨w_found, he⟩ => he.frm) (fun F56 s0 σ0 H0 H1 g0 ⟨w_found, he⟩ => ⟨w_found, he.mono g0⟩) (fun F56 s0 σ0 H0 i0 ⟨w_found, he⟩ => ⟨w_found, he.imp i0⟩) (fun F56 x_gone_57 v_58 y60 σ1 H1 k55 N hn52 hI hx hm => ?_) (fun y61 σ1 H1 hI hm => ?_))
      · obtain ⟨v_62, he⟩ := hI
        refine tg_name (i := 5) he (show 5 < 7 from by decide) hx fun σ2 he => ?_
        have he : EnvOk H F56 [some (bG a_parts v_parts), some (bN (Ls.mk y60) v_62), none, none, none, some (bN x_gone_57 v_58), none] σ2 _ := he
        refine q_of (x_asg (i := 6) he (show 6 < 7 from by decide) (ewF_lcP (K := K) (i := 2) (j := 3) he.r (SrcW.c (srcW_tup (ew_ret (ev_snd (ev_get (i := 0) he.r rfl))))) (show 2 < 7 from by decide) (show 3 < 7 from by decide) (by decide) (by decide) (fun x_a_65 x_b_66 _ _ _ _ hr63 => (ewt_ret (et_test (ev_ninI (ev_get (i := 5) hr63 rfl) (ev_castPT (ev_pair (ev_get (i := 2) hr63 rfl) (ev_get (i := 3) hr63 rfl))))))) (fun x_a_65 x_b_66 _ _ _ _ hr63 => (ew_r (ev_pair (ev_sub (ev_get (i := 2) hr63 rfl) (ev_intB (ev_gt (ev_get (i := 2) hr63 rfl) (ev_get (i := 5) hr63 rfl)))) (ev_sub (ev_get (i := 3) hr63 rfl) (ev_intB (ev_gt (ev_get (i := 3) hr63 rfl) (ev_get (i := 5) hr63 rfl)))))))) hm fun x_doors_67 v_68 σ1 H1 (he : EnvOk H F56 [some (bG a_parts v_parts), some (bN (Ls.mk y60) v_62), none, none, none, some (bN x_gone_57 v_58), some (bN (Ls.mk x_doors_67.l) v_68)] σ1 H1) hm => ?_)
        refine (x_app (i := 1) he rfl (ew_l2 th2_tup (ew_ret (ev_inr (α := (Tr Str Int Int)) (ev_pair ev_str (ev_get (i := 5) he.r rfl)))) (ew_l2 th2_tup (ew_ret (ev_sub (ev_fst (ev_get (i := 0) he.r rfl)) ev_int)) (ew_l1 th1_cb (ew_F (ewF_sortedL he.ne (ev_get (i := 6) he.r rfl))) fun z70 _ H9 g9 r0 => (ew_ret (ev_tupL (ev_c (d := Ls.mk z70.l) r0)))) fun z71 z72 _ _ H9 g9 r0 r1 => (ew_ret (ev_pair (ev_c r0) (ev_c r1)))) fun z73 z74 _ _ H9 g9 r0 r1 => (ew_ret (ev_pair (ev_c r0) (ev_c r1)))) hm fun a75 H1 (he : EnvOk H F56 [some (bG a_parts v_parts), some (bN (Ls.mk (y60 ++ [a75])) v_62), none, none, none, some (bN x_gone_57 v_58), some (bN (Ls.mk x_doors_67.l) v_68)] _ H1) hm => ?_)
        have he := he.drop (i := 5)
        have he := he.drop (i := 6)
        exact hn52 (y60 ++ [a75]) _ _ ⟨v_62, he⟩ hm
      · first | refine e_of ?_ | skip
        obtain ⟨v_77, he⟩ := hI
        have he : EnvOk H (fun _ => True) [some (bG a_parts v_parts), some (bN (Ls.mk y61) v_77), none, none, none, none, none] σ1 H1 := he
        exact x_retV (i := 1) he rfl hm kq

end
end Cl
namespace Cl
open PySem L2 Zw RZ
section
variable {P : Program} {w : World} {K : PySem.W.Frag} {mg : Str → Option Value} {base : Heap}
theorem w_law (T : Ctx K mg) : FnOk P w K mg base CX0 9 T.a_law T.fd_law ["script"] (SpW1 (fun (a_script : (Scr K)) => M_law (C := T.C_House) a_script)) := by
  have G_House___init__ := w_House___init__ (P := P) (w := w) (base := base) T
  have G_law_fast := w_law_fast (P := P) (w := w) (base := base) T
  have G_law_hand := w_law_hand (P := P) (w := w) (base := base) T
  have G_law_house := w_law_house (P := P) (w := w) (base := base) T
  have G_law_is := w_law_is (P := P) (w := w) (base := base) T
  have G_law_made := w_law_made (P := P) (w := w) (base := base) T
  have G_law_nears := w_law_nears (P := P) (w := w) (base := base) T
  have G_law_steps := w_law_steps (P := P) (w := w) (base := base) T
  have G_fewest_fast := w_fewest_fast (P := P) (w := w) (base := base) T
  have G_smaller := w_smaller (P := P) (w := w) (base := base) T
  refine T.F_law.ok sc_law (fun vs H Q E h => h.len) (fun cdv A outer s H vs Q E hr h => ?_)
  obtain ⟨hne, v_script, a_script, rfl, r_script, Pq, hm, kq⟩ := h
  have he : EnvOk H (fun _ => True) [some (bG a_script v_script), none, none, none, none, none, none, none, none] (L2.start ["script", "hand", "turn", "parts", "house", "many", "good", "step", "less_v"] [v_script]) H := env0 (show Ini [some (bG a_script v_script), none, none, none, none, none, none, none, none] [some v_script, none, none, none, none, none, none, none, none] H from ⟨rfl, rfl, r_script, trivial⟩) hne
  unfold M_law at hm
  refine ⟨_, (pss_cons (ps_set (i := 1) sc_law.nd rfl (Or.inl rfl) (pe_call (G_law_hand) (hr.mono (by first | decide | omega)) (by rfl) T.m_law_hand T.F_law_hand.kp T.b_law_hand .nil pass0 (pa_cons (pv 0) pa_nil)))
      (pss_cons (ps_for PassesOwn.never rfl (pi_range1 (by rfl) T.n_range (pa_cons pe_int pa_nil)) (pg_name (i := 2) sc_law.nd rfl (Or.inl rfl) (Or.inr rfl))
      (pss_cons (ps_set (i := 3) sc_law.nd rfl (Or.inl rfl) (pe_call (G_law_house) (hr.mono (by first | decide | omega)) (by rfl) T.m_law_house T.F_law_house.kp T.b_law_house .nil pass0 (pa_cons (pv 1) (pa_cons pe_int pa_nil))))
      (pss_cons (ps_asg (pe_tup (pa_cons (pe_call (G_law_made) (hr.mono (by first | decide | omega)) (by rfl) T.m_law_made T.F_law_made.kp T.b_law_made .nil pass0 (pa_cons (pv 3) pa_nil)) (pa_cons (pe_call (G_law_fast) (hr.mono (by first | decide | omega)) (by rfl) T.m_law_fast T.F_law_fast.kp T.b_law_fast .nil pass0 (pa_cons (pe_call (G_law_nears) (hr.mono (by first | decide | omega)) (by rfl) T.m_law_nears T.F_law_nears.kp T.b_law_nears .nil pass0 (pa_cons (pv 3) pa_nil)) pa_nil)) pa_nil))) (k_pg_tup (K := K) (n := 2) rfl rfl (pgs_cons (pg_name (i := 4) sc_law.nd rfl (Or.inl rfl) (Or.inr rfl)) (pgs_cons (pg_name (i := 5) sc_law.nd rfl (Or.inr rfl) (Or.inl rfl)) pgs_nil)) rfl))
      (pss_cons (ps_setLc (i := 6) (own := [("step", 7), ("less_v", 8)]) rfl sc_law.nd rfl rfl (sw_true rfl rfl rfl (by decide +kernel)) (k_pi_list (K := K) rfl (pe_call (G_law_steps) (hr.mono (by first | decide | omega)) (by rfl) T.m_law_steps T.F_law_steps.kp T.b_law_steps .nil pass0 (pa_cons (pv 3) pa_nil))) (blkOk_by (by kernel_rfl)) (fun _ _ _ _ _ => (k_pg_tup (K := K) (n := 2) rfl rfl (pgs_cons (pg_name (i := 7) sc_law.nd rfl (Or.inl rfl) (Or.inr rfl)) (pgs_cons (pg_name (i := 8) sc_law.nd rfl (Or.inl rfl) (Or.inr rfl)) pgs_nil)) rfl)) (fun _ _ _ _ _ => (pts_one (pt_cmpR op_eq (pe_call (G_law_fast) (hr.mono (by first | decide | omega)) (by rfl) T.m_law_fast T.F_law_fast.kp T.b_law_fast .nil pass0 (pa_cons (pe_call (G_law_nears) (hr.mono (by first | decide | omega)) (by rfl) T.m_law_nears T.F_law_nears.kp T.b_law_nears .nil pass0 (pa_cons (pv 8) pa_nil)) pa_nil)) (pv 5) (nomark _)))) (fun _ _ _ _ _ => (pv 7)))
      (pss_one (ps_if (PW.pt (pw_or (pt_not (pt_val (pe_call (G_law_is) (hr.mono (by first | decide | omega)) (by rfl) T.m_law_is T.F_law_is.kp T.b_law_is .nil pass0 (pa_cons (pe_call (G_smaller) (hr.mono (by first | decide | omega)) (by rfl) T.m_smaller T.F_smaller.kp T.b_smaller .nil pass0 (pa_cons (pv 4) pa_nil)) (pa_cons (pe_ifExp (pt_cmpR op_gt (pe_callB (k_len (K := K) rfl) (by rfl) T.n_len (by decide +kernel) (pa_cons (pv 6) pa_nil)) pe_int (nomark _)) (pe_ix (k_ix_list (K := K) rfl) (pv 6) pe_int (fun _ _ => rfl)) pe_non) pa_nil))))) (pw_or1 (pt_not (pt_val (pe_call (G_law_is) (hr.mono (by first | decide | omega)) (by rfl) T.m_law_is T.F_law_is.kp T.b_law_is .nil pass0 (pa_cons (pe_call (G_fewest_fast) (hr.mono (by first | decide | omega)) (by rfl) T.m_fewest_fast T.F_fewest_fast.kp T.b_fewest_fast .nil pass0 (pa_cons (pv 4) pa_nil)) (pa_cons (pv 5) pa_nil)))))))) (pss_one (ps_ret pe_bl)) pss_nil))))))
      (pss_one (ps_ret (pe_and (pe_cmpR op_isN (pe_call (G_smaller) (hr.mono (by first | decide | omega)) (by rfl) T.m_smaller T.F_smaller.kp T.b_smaller .nil pass0 (pa_cons (pe_make T.mk_House (G_House___init__) (hr.mono (by first | decide | omega)) (by rfl) T.m_House T.b_House___init__ .nil pass0 (pa_cons pe_int (pa_cons (pe_tup (pa_cons (pe_tup (pa_cons pe_int (pa_cons pe_int pa_nil))) (pa_cons (pe_tup (pa_cons pe_int (pa_cons pe_int pa_nil))) (pa_cons (pe_tup (pa_cons pe_int (pa_cons pe_int pa_nil))) pa_nil)))) pa_nil))) pa_nil)) pe_non (nomark _)) (pe_one (pe_cmpR (k_eqD (K := K) rfl hr.units) (pe_call (G_smaller) (hr.mono (by first | decide | omega)) (by rfl) T.m_smaller T.F_smaller.kp T.b_smaller .nil pass0 (pa_cons (pe_make T.mk_House (G_House___init__) (hr.mono (by first | decide | omega)) (by rfl) T.m_House T.b_House___init__ .nil pass0 (pa_cons pe_int (pa_cons (pe_tup pa_nil) pa_nil))) pa_nil)) (pe_tup (pa_cons pe_str (pa_cons pe_int pa_nil))) (nomark _)))))))), ?_⟩
  refine q_of (x_asg (i := 1) he (show 1 < 9 from by decide) (ew_call1 he.ne (ev_get (i := 0) he.r rfl)) hm fun x_hand_1 v_2 σ1 H1 (he : EnvOk H (fun _ => True) [some (bG a_script v_script), some (bN x_hand_1 v_2), none, none, none, none, none, none, none] σ1 H1) hm => ?_)
  refine q_of (x_forC (S := Unit) (R := Bool) he (srcW_rng1 (ew_ret ev_int)) hm (fun F8 s0 σ0 H0 => EnvOk H F8 [some (bG a_script v_script), some (bN x_hand_1 v_2), none, none, none, none, none, none, none] σ0 H0) (fun F8 H1 he => he) (fun F8 s0 σ0 H0 he => he.frm) (fun F8 s0 σ0 H0 H1 g0 he => he.mono g0) (fun F8 s0 σ0 H0 i0 he => he.imp i0) (fun F8 x_turn_9 v_10 y12 σ1 H1 k7 N hn4 hb5 hr6 hI hx hm => ?_) (fun y13 σ1 H1 hI hm => ?_) (fun r v H1 hm g0 r0 => kq r v H1 hm g0 r0))
  · have he := hI
    refine tg_name (i := 2) he (show 2 < 9 from by decide) hx fun σ2 he => ?_
    have he : EnvOk H F8 [some (bG a_script v_script), some (bN x_hand_1 v_2), some (bN x_turn_9 v_10), none, none, none, none, none, none] σ2 _ := he
    refine q_of (x_asg (i := 3) he (show 3 < 9 from by decide) (ew_call2 he.ne (ev_get (i := 1) he.r rfl) ev_int) hm fun x_parts_14 v_15 σ1 H1 (he : EnvOk H F8 [some (bG a_script v_script), some (bN x_hand_1 v_2), some (bN x_turn_9 v_10), some (bN x_parts_14 v_15), none, none, none, none, none] σ1 H1) hm => ?_)
    refine q_of (x_par2 (K := K) (i := 4) (j := 5) he (show 4 < 9 from by decide) (show 5 < 9 from by decide) (ew_call1 he.ne (ev_get (i := 3) he.r rfl)) (ewF_l1 th1_call (ew_F (ew_call1 he.ne (ev_get (i := 3) he.r rfl))) fun z16 _ H9 g9 r0 => (ew_call1 (g9.neat he.ne) (ev_c (d := Ls.mk z16.l) r0))) hm fun x_house_17 x_many_18 v_19 v_20 σ1 H1 (he : EnvOk H F8 [some (bG a_script v_script), some (bN x_hand_1 v_2), some (bN x_turn_9 v_10), some (bN x_parts_14 v_15), some (bN x_house_17 v_19), some (bN x_many_18 v_20), none, none, none] σ1 H1) hm => ?_)
    refine q_of (x_asg (i := 6) he (show 6 < 9 from by decide) (ewF_lcP (K := K) (i := 7) (j := 8) he.r (SrcW.c (srcW_lst (ew_call1 he.ne (ev_get (i := 3) he.r rfl)))) (show 7 < 9 from by decide) (show 8 < 9 from by decide) (by decide) (by decide) (fun x_step_24 x_less_v_25 _ _ _ _ hr22 => (ewt_test (ew_l2 th2_op (ew_F (ewF_l1 th1_call (ew_F (ew_call1 hr22.ne (ev_get (i := 8) hr22 rfl))) fun z26 _ H9 g9 r0 => (ew_call1 (g9.neat hr22.ne) (ev_c (d := Ls.mk z26.l) r0)))) (ew_ret (ev_get (i := 5) hr22 rfl)) fun z27 z28 _ _ H9 g9 r0 r1 => (ew_ret (ev_eqI (ev_c r0) (ev_c r1)))))) (fun x_step_24 x_less_v_25 _ _ _ _ hr22 => (ew_r (ev_get (i := 7) hr22 rfl)))) hm fun x_good_29 v_30 σ1 H1 (he : EnvOk H F8 [some (bG a_script v_script), some (bN x_hand_1 v_2), some (bN x_turn_9 v_10), some (bN x_parts_14 v_15), some (bN x_house_17 v_19), some (bN x_many_18 v_20), some (bN (Ls.mk x_good_29.l) v_30), none, none] σ1 H1) hm => ?_)
    refine (x_if he (ewt_or (ewt_not (ewt_B (ew_F (ewF_l2 th2_call (ew_l1 th1_id (ew_F (ew_call1 he.ne (ev_get (i := 4) he.r rfl))) fun z31 _ H9 g9 r0 => (ew_ret (ev_toQ (K := K) (ev_c r0)))) (ew_if (ewt_ret (et_test (ev_gt (ev_lenL (ev_get (i := 6) he.r rfl)) ev_int))) (ew_l1 th1_id (ew_ixL (ev_get (i := 6) he.r rfl) ev_int) fun z32 _ H9 g9 r0 => (ew_ret (ev_toQ (K := K) (ev_c r0)))) (ew_ret (ev_c (d := (Dq.mk (K := K) PyData.none)) (v := .non) Dp.non))) fun z34 z35 _ _ H9 g9 r0 r1 => (ew_call2 (g9.neat he.ne) (ev_c r0) (ev_c r1)))))) (ewt_not (ewt_B (ew_F (ewF_l2 th2_call (ew_l1 th1_id (ew_F (ew_call1 he.ne (ev_get (i := 4) he.r rfl))) fun z37 _ H9 g9 r0 => (ew_ret (ev_toQ (K := K) (ev_c r0)))) (ew_ret (ev_toQ (K := K) (ev_get (i := 5) he.r rfl))) fun z38 z39 _ _ H9 g9 r0 r1 => (ew_call2 (g9.neat he.ne) (ev_c r0) (ev_c r1))))))) hm (fun H1 (he : EnvOk H F8 [some (bG a_script v_script), some (bN x_hand_1 v_2), some (bN x_turn_9 v_10), some (bN x_parts_14 v_15), some (bN x_house_17 v_19), some (bN x_many_18 v_20), some (bN (Ls.mk x_good_29.l) v_30), none, none] _ H1) hm => ?_) (fun H1 (he : EnvOk H F8 [some (bG a_script v_script), some (bN x_hand_1 v_2), some (bN x_turn_9 v_10), some (bN x_parts_14 v_15), some (bN x_house_17 v_19), some (bN x_many_18 v_20), some (bN (Ls.mk x_good_29.l) v_30), none, none] _ H1) hm => ?_))
    · exact x_ret (P := fun r => k7 (Ctl.rt r)) he (ew_r ev_bl) hm hr6
    · have he := he.drop (i := 2)
      have he := he.drop (i := 3)
      have he := he.drop (i := 4)
      have he := he.drop (i := 5)
      have he := he.drop (i := 6)
      exact hn4 () _ _ he hm
  · first | refine e_of ?_ | skip
    have he := hI
    have he : EnvOk H (fun _ => True) [some (bG a_script v_script), some (bN x_hand_1 v_2), none, none, none, none, none, none, none] σ1 H1 := he
    exact x_ret he (ewF_I (ew_andV (ew_l1 th2_isn (ew_F (ewF_l1 th1_call (ew_make he.ne ev_int (ev_tup (α := (Int × Int)) (eal_cons (ev_pair ev_int ev_int) (eal_cons (ev_pair ev_int ev_int) (eal_cons (ev_pair ev_int ev_int) eal_nil))) (show 3 ≤ _ by decide))) fun z44 _ H9 g9 r0 => (ew_call1 (g9.neat he.ne) (ev_c r0)))) fun z45 _ H9 g9 r0 => (ew_ret (ev_isN (ev_c r0)))) (ew_l2 th2_op (ew_F (ewF_l1 th1_call (ew_make he.ne ev_int (ev_tup (α := (Int × Int)) eal_nil (Nat.zero_le _))) fun z46 _ H9 g9 r0 => (ew_call1 (g9.neat he.ne) (ev_c r0)))) (ew_ret (ev_someO (ev_inr (α := (Tr Str Int Int)) (ev_pair ev_str ev_int)))) fun z47 z48 _ _ H9 g9 r0 r1 => (ew_eqQ (ev_c r0) (ev_c r1))))) hm kq

end
end Cl
namespace Cl
open PySem L2 Zw RZ
section
variable {P : Program} {w : World} {K : PySem.W.Frag} {mg : Str → Option Value} {base : Heap}
theorem ok_law (T : Ctx K mg) : FnOk P w K mg base CX0 9 T.a_law T.fd_law ["script"] (Sp1 (fun (_ : Nd (Scr K)) => True) (fun _ (b : Bool) => b = true)) :=
  (w_law T).imp fun vs H Q E ⟨v, d, ev, ⟨ra, hn⟩, _, k⟩ => ⟨hn, v, d.v, ev, ra, (· = true), (law_true d.v).to, fun b w H' e g r => k b w H' e g (PyR.frep r)⟩
end
end Cl
namespace Cl
open PySem L2 Zw RZ
/-! ### the head -/
theorem all_mk {l : PySem.W.OpenLaw} {w : World} {K : PySem.W.Frag} {h : Heap} {mg : Str → Option Value} {fa : Addr} (X : K.In h) (G : h.Ns mainGlobals mg) (hfa : mg "law" = some (.ref fa))
    {C_House : Addr} {f_is_integer : Addr} {od_is_integer an_is_integer : Option Addr} {sl_is_integer : Array (Option Value)} {oc_is_integer kV_is_integer dc_is_integer pm_is_integer cd_is_integer ct_is_integer : Value} {f_is_within : Addr} {od_is_within an_is_within : Option Addr} {sl_is_within : Array (Option Value)} {oc_is_within kV_is_within dc_is_within pm_is_within cd_is_within ct_is_within : Value} {f_is_tuple : Addr} {od_is_tuple an_is_tuple : Option Addr} {sl_is_tuple : Array (Option Value)} {oc_is_tuple kV_is_tuple dc_is_tuple pm_is_tuple cd_is_tuple ct_is_tuple : Value} {f_is_door : Addr} {od_is_door an_is_door : Option Addr} {sl_is_door : Array (Option Value)} {oc_is_door kV_is_door dc_is_door pm_is_door cd_is_door ct_is_door : Value} {f_are_doors : Addr} {od_are_doors an_are_doors : Option Addr} {sl_are_doors : Array (Option Value)} {oc_are_doors kV_are_doors dc_are_doors pm_are_doors cd_are_doors ct_are_doors : Value} {f_House___init__ : Addr} {od_House___init__ an_House___init__ : Option Addr} {sl_House___init__ : Array (Option Value)} {oc_House___init__ kV_House___init__ dc_House___init__ pm_House___init__ cd_House___init__ ct_House___init__ : Value} {f_besides : Addr} {od_besides an_besides : Option Addr} {sl_besides : Array (Option Value)} {oc_besides kV_besides dc_besides pm_besides cd_besides ct_besides : Value} {f_nears : Addr} {od_nears an_nears : Option Addr} {sl_nears : Array (Option Value)} {oc_nears kV_nears dc_nears pm_nears cd_nears ct_nears : Value} {f_reached_by : Addr} {od_reached_by an_reached_by : Option Addr} {sl_reached_by : Array (Option Value)} {oc_reached_by kV_reached_by dc_reached_by pm_reached_by cd_reached_by ct_reached_by : Value} {f_lots_of : Addr} {od_lots_of an_lots_of : Option Addr} {sl_lots_of : Array (Option Value)} {oc_lots_of kV_lots_of dc_lots_of pm_lots_of cd_lots_of ct_lots_of : Value} {f_best_rows : Addr} {od_best_rows an_best_rows : Option Addr} {sl_best_rows : Array (Option Value)} {oc_best_rows kV_best_rows dc_best_rows pm_best_rows cd_best_rows ct_best_rows : Value} {f_best_row : Addr} {od_best_row an_best_row : Option Addr} {sl_best_row : Array (Option Value)} {oc_best_row kV_best_row dc_best_row pm_best_row cd_best_row ct_best_row : Value} {f_fewest_fast : Addr} {od_fewest_fast an_fewest_fast : Option Addr} {sl_fewest_fast : Array (Option Value)} {oc_fewest_fast kV_fewest_fast dc_fewest_fast pm_fewest_fast cd_fewest_fast ct_fewest_fast : Value} {f_less : Addr} {od_less an_less : Option Addr} {sl_less : Array (Option Value)} {oc_less kV_less dc_less pm_less cd_less ct_less : Value} {f_numbered : Addr} {od_numbered an_numbered : Option Addr} {sl_numbered : Array (Option Value)} {oc_numbered kV_numbered dc_numbered pm_numbered cd_numbered ct_numbered : Value} {f_without : Addr} {od_without an_without : Option Addr} {sl_without : Array (Option Value)} {oc_without kV_without dc_without pm_without cd_without ct_without : Value} {f_one_of : Addr} {od_one_of an_one_of : Option Addr} {sl_one_of : Array (Option Value)} {oc_one_of kV_one_of dc_one_of pm_one_of cd_one_of ct_one_of : Value} {f_smaller : Addr} {od_smaller an_smaller : Option Addr} {sl_smaller : Array (Option Value)} {oc_smaller kV_smaller dc_smaller pm_smaller cd_smaller ct_smaller : Value} {f_law_hand : Addr} {od_law_hand an_law_hand : Option Addr} {sl_law_hand : Array (Option Value)} {oc_law_hand kV_law_hand dc_law_hand pm_law_hand cd_law_hand ct_law_hand : Value} {f_law_draw : Addr} {od_law_draw an_law_draw : Option Addr} {sl_law_draw : Array (Option Value)} {oc_law_draw kV_law_draw dc_law_draw pm_law_draw cd_law_draw ct_law_draw : Value} {f_law_is : Addr} {od_law_is an_law_is : Option Addr} {sl_law_is : Array (Option Value)} {oc_law_is kV_law_is dc_law_is pm_law_is cd_law_is ct_law_is : Value} {f_law_house : Addr} {od_law_house an_law_house : Option Addr} {sl_law_house : Array (Option Value)} {oc_law_house kV_law_house dc_law_house pm_law_house cd_law_house ct_law_house : Value} {f_law_nears : Addr} {od_law_nears an_law_nears : Option Addr} {sl_law_nears : Array (Option Value)} {oc_law_nears kV_law_nears dc_law_nears pm_law_nears cd_law_nears ct_law_nears : Value} {f_law_made : Addr} {od_law_made an_law_made : Option Addr} {sl_law_made : Array (Option Value)} {oc_law_made kV_law_made dc_law_made pm_law_made cd_law_made ct_law_made : Value} {f_law_lots : Addr} {od_law_lots an_law_lots : Option Addr} {sl_law_lots : Array (Option Value)} {oc_law_lots kV_law_lots dc_law_lots pm_law_lots cd_law_lots ct_law_lots : Value} {f_law_by : Addr} {od_law_by an_law_by : Option Addr} {sl_law_by : Array (Option Value)} {oc_law_by kV_law_by dc_law_by pm_law_by cd_law_by ct_law_by : Value} {f_law_fast : Addr} {od_law_fast an_law_fast : Option Addr} {sl_law_fast : Array (Option Value)} {oc_law_fast kV_law_fast dc_law_fast pm_law_fast cd_law_fast ct_law_fast : Value} {f_law_one : Addr} {od_law_one an_law_one : Option Addr} {sl_law_one : Array (Option Value)} {oc_law_one kV_law_one dc_law_one pm_law_one cd_law_one ct_law_one : Value} {f_law_steps : Addr} {od_law_steps an_law_steps : Option Addr} {sl_law_steps : Array (Option Value)} {oc_law_steps kV_law_steps dc_law_steps pm_law_steps cd_law_steps ct_law_steps : Value} {f_law : Addr} {od_law an_law : Option Addr} {sl_law : Array (Option Value)} {oc_law kV_law dc_law pm_law cd_law ct_law : Value} {t_MOST_ROOMS : Tok}
    (z_abs : PySem.W.nsIn K mainGlobals "abs" = some none)
    (z_all : PySem.W.nsIn K mainGlobals "all" = some none)
    (z_bool : PySem.W.nsIn K mainGlobals "bool" = some none)
    (z_dict : PySem.W.nsIn K mainGlobals "dict" = some none)
    (z_enumerate : PySem.W.nsIn K mainGlobals "enumerate" = some none)
    (z_int : PySem.W.nsIn K mainGlobals "int" = some none)
    (z_isinstance : PySem.W.nsIn K mainGlobals "isinstance" = some none)
    (z_len : PySem.W.nsIn K mainGlobals "len" = some none)
    (z_list : PySem.W.nsIn K mainGlobals "list" = some none)
    (z_max : PySem.W.nsIn K mainGlobals "max" = some none)
    (z_min : PySem.W.nsIn K mainGlobals "min" = some none)
    (z_range : PySem.W.nsIn K mainGlobals "range" = some none)
    (z_sorted : PySem.W.nsIn K mainGlobals "sorted" = some none)
    (z_tuple : PySem.W.nsIn K mainGlobals "tuple" = some none)
    (z_zip : PySem.W.nsIn K mainGlobals "zip" = some none)
    (k_MOST_ROOMS : PySem.W.nsIn K mainGlobals "MOST_ROOMS" = some (some (.int 9 t_MOST_ROOMS)))
    (c1_House : PySem.W.nsIn K mainGlobals "House" = some (some (.ref C_House)))
    (c2_House : PySem.W.plainGet K C_House Str.empty = true)
    (c3_House : PySem.W.hasDictIn K C_House = true)
    (c4_House : PySem.W.plainOver K C_House = true)
    (c5_House : PySem.W.findIn K (.ref C_House) "__setattr__" = some (some (.builtin "object.__setattr__")))
    (c6_House : PySem.W.makesIn K C_House = true)
    (c7_House : PySem.W.keepIn K (.ref C_House) = true)
    (nf_House_rooms : PySem.W.findIn K (.ref C_House) "rooms" = some none)
    (nf_House_doors : PySem.W.findIn K (.ref C_House) "doors" = some none)
    (nf_House_looked : PySem.W.findIn K (.ref C_House) "looked" = some none)
    (a_is_integer : PySem.W.nsIn K mainGlobals "is_integer" = some (some (.ref f_is_integer)))
    (l_is_integer : K.lookup f_is_integer = some ⟨oc_is_integer, od_is_integer, .func (PySem.W.fnOf "is_integer" "is_integer" (defArgs st_is_integer) (defBody st_is_integer) (defScope st_is_integer) .none kV_is_integer dc_is_integer pm_is_integer an_is_integer cd_is_integer ct_is_integer), sl_is_integer⟩)
    (e_is_integer : PySem.W.codeIn K cd_is_integer "is_integer" = true)
    (k_is_integer : PySem.W.keepIn K (.ref f_is_integer) = true)
    (a_is_within : PySem.W.nsIn K mainGlobals "is_within" = some (some (.ref f_is_within)))
    (l_is_within : K.lookup f_is_within = some ⟨oc_is_within, od_is_within, .func (PySem.W.fnOf "is_within" "is_within" (defArgs st_is_within) (defBody st_is_within) (defScope st_is_within) .none kV_is_within dc_is_within pm_is_within an_is_within cd_is_within ct_is_within), sl_is_within⟩)
    (e_is_within : PySem.W.codeIn K cd_is_within "is_within" = true)
    (k_is_within : PySem.W.keepIn K (.ref f_is_within) = true)
    (a_is_tuple : PySem.W.nsIn K mainGlobals "is_tuple" = some (some (.ref f_is_tuple)))
    (l_is_tuple : K.lookup f_is_tuple = some ⟨oc_is_tuple, od_is_tuple, .func (PySem.W.fnOf "is_tuple" "is_tuple" (defArgs st_is_tuple) (defBody st_is_tuple) (defScope st_is_tuple) .none kV_is_tuple dc_is_tuple pm_is_tuple an_is_tuple cd_is_tuple ct_is_tuple), sl_is_tuple⟩)
    (e_is_tuple : PySem.W.codeIn K cd_is_tuple "is_tuple" = true)
    (k_is_tuple : PySem.W.keepIn K (.ref f_is_tuple) = true)
    (a_is_door : PySem.W.nsIn K mainGlobals "is_door" = some (some (.ref f_is_door)))
    (l_is_door : K.lookup f_is_door = some ⟨oc_is_door, od_is_door, .func (PySem.W.fnOf "is_door" "is_door" (defArgs st_is_door) (defBody st_is_door) (defScope st_is_door) .none kV_is_door dc_is_door pm_is_door an_is_door cd_is_door ct_is_door), sl_is_door⟩)
    (e_is_door : PySem.W.codeIn K cd_is_door "is_door" = true)
    (k_is_door : PySem.W.keepIn K (.ref f_is_door) = true)
    (a_are_doors : PySem.W.nsIn K mainGlobals "are_doors" = some (some (.ref f_are_doors)))
    (l_are_doors : K.lookup f_are_doors = some ⟨oc_are_doors, od_are_doors, .func (PySem.W.fnOf "are_doors" "are_doors" (defArgs st_are_doors) (defBody st_are_doors) (defScope st_are_doors) .none kV_are_doors dc_are_doors pm_are_doors an_are_doors cd_are_doors ct_are_doors), sl_are_doors⟩)
    (e_are_doors : PySem.W.codeIn K cd_are_doors "are_doors" = true)
    (k_are_doors : PySem.W.keepIn K (.ref f_are_doors) = true)
    (a_House___init__ : PySem.W.findIn K (.ref C_House) "__init__" = some (some (.ref f_House___init__)))
    (i_House___init__ : PySem.W.isFn K (.ref f_House___init__) = true)
    (l_House___init__ : K.lookup f_House___init__ = some ⟨oc_House___init__, od_House___init__, .func (PySem.W.fnOf "__init__" "House.__init__" (defArgs st_House___init__) (defBody st_House___init__) (defScope st_House___init__) .none kV_House___init__ dc_House___init__ pm_House___init__ an_House___init__ cd_House___init__ ct_House___init__), sl_House___init__⟩)
    (e_House___init__ : PySem.W.codeIn K cd_House___init__ "House.__init__" = true)
    (k_House___init__ : PySem.W.keepIn K (.ref f_House___init__) = true)
    (a_besides : PySem.W.nsIn K mainGlobals "besides" = some (some (.ref f_besides)))
    (l_besides : K.lookup f_besides = some ⟨oc_besides, od_besides, .func (PySem.W.fnOf "besides" "besides" (defArgs st_besides) (defBody st_besides) (defScope st_besides) .none kV_besides dc_besides pm_besides an_besides cd_besides ct_besides), sl_besides⟩)
    (e_besides : PySem.W.codeIn K cd_besides "besides" = true)
    (k_besides : PySem.W.keepIn K (.ref f_besides) = true)
    (a_nears : PySem.W.nsIn K mainGlobals "nears" = some (some (.ref f_nears)))
    (l_nears : K.lookup f_nears = some ⟨oc_nears, od_nears, .func (PySem.W.fnOf "nears" "nears" (defArgs st_nears) (defBody st_nears) (defScope st_nears) .none kV_nears dc_nears pm_nears an_nears cd_nears ct_nears), sl_nears⟩)
    (e_nears : PySem.W.codeIn K cd_nears "nears" = true)
    (k_nears : PySem.W.keepIn K (.ref f_nears) = true)
    (a_reached_by : PySem.W.nsIn K mainGlobals "reached_by" = some (some (.ref f_reached_by)))
    (l_reached_by : K.lookup f_reached_by = some ⟨oc_reached_by, od_reached_by, .func (PySem.W.fnOf "reached_by" "reached_by" (defArgs st_reached_by) (defBody st_reached_by) (defScope st_reached_by) .none kV_reached_by dc_reached_by pm_reached_by an_reached_by cd_reached_by ct_reached_by), sl_reached_by⟩)
    (e_reached_by : PySem.W.codeIn K cd_reached_by "reached_by" = true)
    (k_reached_by : PySem.W.keepIn K (.ref f_reached_by) = true)
    (a_lots_of : PySem.W.nsIn K mainGlobals "lots_of" = some (some (.ref f_lots_of)))
    (l_lots_of : K.lookup f_lots_of = some ⟨oc_lots_of, od_lots_of, .func (PySem.W.fnOf "lots_of" "lots_of" (defArgs st_lots_of) (defBody st_lots_of) (defScope st_lots_of) .none kV_lots_of dc_lots_of pm_lots_of an_lots_of cd_lots_of ct_lots_of), sl_lots_of⟩)
    (e_lots_of : PySem.W.codeIn K cd_lots_of "lots_of" = true)
    (k_lots_of : PySem.W.keepIn K (.ref f_lots_of) = true)
    (a_best_rows : PySem.W.nsIn K mainGlobals "best_rows" = some (some (.ref f_best_rows)))
    (l_best_rows : K.lookup f_best_rows = some ⟨oc_best_rows, od_best_rows, .func (PySem.W.fnOf "best_rows" "best_rows" (defArgs st_best_rows) (defBody st_best_rows) (defScope st_best_rows) .none kV_best_rows dc_best_rows pm_best_rows an_best_rows cd_best_rows ct_best_rows), sl_best_rows⟩)
    (e_best_rows : PySem.W.codeIn K cd_best_rows "best_rows" = true)
    (k_best_rows : PySem.W.keepIn K (.ref f_best_rows) = true)
    (a_best_row : PySem.W.nsIn K mainGlobals "best_row" = some (some (.ref f_best_row)))
    (l_best_row : K.lookup f_best_row = some ⟨oc_best_row, od_best_row, .func (PySem.W.fnOf "best_row" "best_row" (defArgs st_best_row) (defBody st_best_row) (defScope st_best_row) .none kV_best_row dc_best_row pm_best_row an_best_row cd_best_row ct_best_row), sl_best_row⟩)
    (e_best_row : PySem.W.codeIn K cd_best_row "best_row" = true)
    (k_best_row : PySem.W.keepIn K (.ref f_best_row) = true)
    (a_fewest_fast : PySem.W.nsIn K mainGlobals "fewest_fast" = some (some (.ref f_fewest_fast)))
    (l_fewest_fast : K.lookup f_fewest_fast = some ⟨oc_fewest_fast, od_fewest_fast, .func (PySem.W.fnOf "fewest_fast" "fewest_fast" (defArgs st_fewest_fast) (defBody st_fewest_fast) (defScope st_fewest_fast) .none kV_fewest_fast dc_fewest_fast pm_fewest_fast an_fewest_fast cd_fewest_fast ct_fewest_fast), sl_fewest_fast⟩)
    (e_fewest_fast : PySem.W.codeIn K cd_fewest_fast "fewest_fast" = true)
    (k_fewest_fast : PySem.W.keepIn K (.ref f_fewest_fast) = true)
    (a_less : PySem.W.nsIn K mainGlobals "less" = some (some (.ref f_less)))
    (l_less : K.lookup f_less = some ⟨oc_less, od_less, .func (PySem.W.fnOf "less" "less" (defArgs st_less) (defBody st_less) (defScope st_less) .none kV_less dc_less pm_less an_less cd_less ct_less), sl_less⟩)
    (e_less : PySem.W.codeIn K cd_less "less" = true)
    (k_less : PySem.W.keepIn K (.ref f_less) = true)
    (a_numbered : PySem.W.nsIn K mainGlobals "numbered" = some (some (.ref f_numbered)))
    (l_numbered : K.lookup f_numbered = some ⟨oc_numbered, od_numbered, .func (PySem.W.fnOf "numbered" "numbered" (defArgs st_numbered) (defBody st_numbered) (defScope st_numbered) .none kV_numbered dc_numbered pm_numbered an_numbered cd_numbered ct_numbered), sl_numbered⟩)
    (e_numbered : PySem.W.codeIn K cd_numbered "numbered" = true)
    (k_numbered : PySem.W.keepIn K (.ref f_numbered) = true)
    (a_without : PySem.W.nsIn K mainGlobals "without" = some (some (.ref f_without)))
    (l_without : K.lookup f_without = some ⟨oc_without, od_without, .func (PySem.W.fnOf "without" "without" (defArgs st_without) (defBody st_without) (defScope st_without) .none kV_without dc_without pm_without an_without cd_without ct_without), sl_without⟩)
    (e_without : PySem.W.codeIn K cd_without "without" = true)
    (k_without : PySem.W.keepIn K (.ref f_without) = true)
    (a_one_of : PySem.W.nsIn K mainGlobals "one_of" = some (some (.ref f_one_of)))
    (l_one_of : K.lookup f_one_of = some ⟨oc_one_of, od_one_of, .func (PySem.W.fnOf "one_of" "one_of" (defArgs st_one_of) (defBody st_one_of) (defScope st_one_of) .none kV_one_of dc_one_of pm_one_of an_one_of cd_one_of ct_one_of), sl_one_of⟩)
    (e_one_of : PySem.W.codeIn K cd_one_of "one_of" = true)
    (k_one_of : PySem.W.keepIn K (.ref f_one_of) = true)
    (a_smaller : PySem.W.nsIn K mainGlobals "smaller" = some (some (.ref f_smaller)))
    (l_smaller : K.lookup f_smaller = some ⟨oc_smaller, od_smaller, .func (PySem.W.fnOf "smaller" "smaller" (defArgs st_smaller) (defBody st_smaller) (defScope st_smaller) .none kV_smaller dc_smaller pm_smaller an_smaller cd_smaller ct_smaller), sl_smaller⟩)
    (e_smaller : PySem.W.codeIn K cd_smaller "smaller" = true)
    (k_smaller : PySem.W.keepIn K (.ref f_smaller) = true)
    (a_law_hand : PySem.W.nsIn K mainGlobals "_law_hand" = some (some (.ref f_law_hand)))
    (l_law_hand : K.lookup f_law_hand = some ⟨oc_law_hand, od_law_hand, .func (PySem.W.fnOf "_law_hand" "_law_hand" (defArgs st_law_hand) (defBody st_law_hand) (defScope st_law_hand) .none kV_law_hand dc_law_hand pm_law_hand an_law_hand cd_law_hand ct_law_hand), sl_law_hand⟩)
    (e_law_hand : PySem.W.codeIn K cd_law_hand "_law_hand" = true)
    (k_law_hand : PySem.W.keepIn K (.ref f_law_hand) = true)
    (a_law_draw : PySem.W.nsIn K mainGlobals "_law_draw" = some (some (.ref f_law_draw)))
    (l_law_draw : K.lookup f_law_draw = some ⟨oc_law_draw, od_law_draw, .func (PySem.W.fnOf "_law_draw" "_law_draw" (defArgs st_law_draw) (defBody st_law_draw) (defScope st_law_draw) .none kV_law_draw dc_law_draw pm_law_draw an_law_draw cd_law_draw ct_law_draw), sl_law_draw⟩)
    (e_law_draw : PySem.W.codeIn K cd_law_draw "_law_draw" = true)
    (k_law_draw : PySem.W.keepIn K (.ref f_law_draw) = true)
    (a_law_is : PySem.W.nsIn K mainGlobals "_law_is" = some (some (.ref f_law_is)))
    (l_law_is : K.lookup f_law_is = some ⟨oc_law_is, od_law_is, .func (PySem.W.fnOf "_law_is" "_law_is" (defArgs st_law_is) (defBody st_law_is) (defScope st_law_is) .none kV_law_is dc_law_is pm_law_is an_law_is cd_law_is ct_law_is), sl_law_is⟩)
    (e_law_is : PySem.W.codeIn K cd_law_is "_law_is" = true)
    (k_law_is : PySem.W.keepIn K (.ref f_law_is) = true)
    (a_law_house : PySem.W.nsIn K mainGlobals "_law_house" = some (some (.ref f_law_house)))
    (l_law_house : K.lookup f_law_house = some ⟨oc_law_house, od_law_house, .func (PySem.W.fnOf "_law_house" "_law_house" (defArgs st_law_house) (defBody st_law_house) (defScope st_law_house) .none kV_law_house dc_law_house pm_law_house an_law_house cd_law_house ct_law_house), sl_law_house⟩)
    (e_law_house : PySem.W.codeIn K cd_law_house "_law_house" = true)
    (k_law_house : PySem.W.keepIn K (.ref f_law_house) = true)
    (a_law_nears : PySem.W.nsIn K mainGlobals "_law_nears" = some (some (.ref f_law_nears)))
    (l_law_nears : K.lookup f_law_nears = some ⟨oc_law_nears, od_law_nears, .func (PySem.W.fnOf "_law_nears" "_law_nears" (defArgs st_law_nears) (defBody st_law_nears) (defScope st_law_nears) .none kV_law_nears dc_law_nears pm_law_nears an_law_nears cd_law_nears ct_law_nears), sl_law_nears⟩)
    (e_law_nears : PySem.W.codeIn K cd_law_nears "_law_nears" = true)
    (k_law_nears : PySem.W.keepIn K (.ref f_law_nears) = true)
    (a_law_made : PySem.W.nsIn K mainGlobals "_law_made" = some (some (.ref f_law_made)))
    (l_law_made : K.lookup f_law_made = some ⟨oc_law_made, od_law_made, .func (PySem.W.fnOf "_law_made" "_law_made" (defArgs st_law_made) (defBody st_law_made) (defScope st_law_made) .none kV_law_made dc_law_made pm_law_made an_law_made cd_law_made ct_law_made), sl_law_made⟩)
    (e_law_made : PySem.W.codeIn K cd_law_made "_law_made" = true)
    (k_law_made : PySem.W.keepIn K (.ref f_law_made) = true)
    (a_law_lots : PySem.W.nsIn K mainGlobals "_law_lots" = some (some (.ref f_law_lots)))
    (l_law_lots : K.lookup f_law_lots = some ⟨oc_law_lots, od_law_lots, .func (PySem.W.fnOf "_law_lots" "_law_lots" (defArgs st_law_lots) (defBody st_law_lots) (defScope st_law_lots) .none kV_law_lots dc_law_lots pm_law_lots an_law_lots cd_law_lots ct_law_lots), sl_law_lots⟩)
    (e_law_lots : PySem.W.codeIn K cd_law_lots "_law_lots" = true)
    (k_law_lots : PySem.W.keepIn K (.ref f_law_lots) = true)
    (a_law_by : PySem.W.nsIn K mainGlobals "_law_by" = some (some (.ref f_law_by)))
    (l_law_by : K.lookup f_law_by = some ⟨oc_law_by, od_law_by, .func (PySem.W.fnOf "_law_by" "_law_by" (defArgs st_law_by) (defBody st_law_by) (defScope st_law_by) .none kV_law_by dc_law_by pm_law_by an_law_by cd_law_by ct_law_by), sl_law_by⟩)
    (e_law_by : PySem.W.codeIn K cd_law_by "_law_by" = true)
    (k_law_by : PySem.W.keepIn K (.ref f_law_by) = true)
    (a_law_fast : PySem.W.nsIn K mainGlobals "_law_fast" = some (some (.ref f_law_fast)))
    (l_law_fast : K.lookup f_law_fast = some ⟨oc_law_fast, od_law_fast, .func (PySem.W.fnOf "_law_fast" "_law_fast" (defArgs st_law_fast) (defBody st_law_fast) (defScope st_law_fast) .none kV_law_fast dc_law_fast pm_law_fast an_law_fast cd_law_fast ct_law_fast), sl_law_fast⟩)
    (e_law_fast : PySem.W.codeIn K cd_law_fast "_law_fast" = true)
    (k_law_fast : PySem.W.keepIn K (.ref f_law_fast) = true)
    (a_law_one : PySem.W.nsIn K mainGlobals "_law_one" = some (some (.ref f_law_one)))
    (l_law_one : K.lookup f_law_one = some ⟨oc_law_one, od_law_one, .func (PySem.W.fnOf "_law_one" "_law_one" (defArgs st_law_one) (defBody st_law_one) (defScope st_law_one) .none kV_law_one dc_law_one pm_law_one an_law_one cd_law_one ct_law_one), sl_law_one⟩)
    (e_law_one : PySem.W.codeIn K cd_law_one "_law_one" = true)
    (k_law_one : PySem.W.keepIn K (.ref f_law_one) = true)
    (a_law_steps : PySem.W.nsIn K mainGlobals "_law_steps" = some (some (.ref f_law_steps)))
    (l_law_steps : K.lookup f_law_steps = some ⟨oc_law_steps, od_law_steps, .func (PySem.W.fnOf "_law_steps" "_law_steps" (defArgs st_law_steps) (defBody st_law_steps) (defScope st_law_steps) .none kV_law_steps dc_law_steps pm_law_steps an_law_steps cd_law_steps ct_law_steps), sl_law_steps⟩)
    (e_law_steps : PySem.W.codeIn K cd_law_steps "_law_steps" = true)
    (k_law_steps : PySem.W.keepIn K (.ref f_law_steps) = true)
    (a_law : PySem.W.nsIn K mainGlobals "law" = some (some (.ref f_law)))
    (l_law : K.lookup f_law = some ⟨oc_law, od_law, .func (PySem.W.fnOf "law" "law" (defArgs st_law) (defBody st_law) (defScope st_law) .none kV_law dc_law pm_law an_law cd_law ct_law), sl_law⟩)
    (e_law : PySem.W.codeIn K cd_law "law" = true)
    (k_law : PySem.W.keepIn K (.ref f_law) = true)
    : ∃ fd : FuncData, (∀ (s : Shared) (v : Value), BindsTo s fd ⟨[v], []⟩ [("script", v)]) ∧ ∀ base : Heap, K.In base → base.Ns mainGlobals mg → FnOk l.prog w K mg base CX0 9 fa fd ["script"] (Sp1 (fun (_ : Nd (Scr K)) => True) (fun _ (b : Bool) => b = true)) := by
  have e := hfa.symm.trans (PySem.W.mg_of X G a_law)
  cases e
  have F_is_integer := fun_mk (st := st_is_integer) l_is_integer e_is_integer k_is_integer
  have b_is_integer := F_is_integer.binds (ps := ["thing"]) fun _ _ _ _ _ _ us hl => match us, hl with | [_], _ => rfl
  have F_is_within := fun_mk (st := st_is_within) l_is_within e_is_within k_is_within
  have b_is_within := F_is_within.binds (ps := ["thing", "low", "high"]) fun _ _ _ _ _ _ us hl => match us, hl with | [_, _, _], _ => rfl
  have F_is_tuple := fun_mk (st := st_is_tuple) l_is_tuple e_is_tuple k_is_tuple
  have b_is_tuple := F_is_tuple.binds (ps := ["thing", "least", "most"]) fun _ _ _ _ _ _ us hl => match us, hl with | [_, _, _], _ => rfl
  have F_is_door := fun_mk (st := st_is_door) l_is_door e_is_door k_is_door
  have b_is_door := F_is_door.binds (ps := ["rooms", "thing"]) fun _ _ _ _ _ _ us hl => match us, hl with | [_, _], _ => rfl
  have F_are_doors := fun_mk (st := st_are_doors) l_are_doors e_are_doors k_are_doors
  have b_are_doors := F_are_doors.binds (ps := ["rooms", "thing"]) fun _ _ _ _ _ _ us hl => match us, hl with | [_, _], _ => rfl
  have F_House___init__ := fun_mk (st := st_House___init__) l_House___init__ e_House___init__ k_House___init__
  have b_House___init__ := F_House___init__.binds (ps := ["self", "rooms", "doors"]) fun _ _ _ _ _ _ us hl => match us, hl with | [_, _, _], _ => rfl
  have F_besides := fun_mk (st := st_besides) l_besides e_besides k_besides
  have b_besides := F_besides.binds (ps := ["house"]) fun _ _ _ _ _ _ us hl => match us, hl with | [_], _ => rfl
  have F_nears := fun_mk (st := st_nears) l_nears e_nears k_nears
  have b_nears := F_nears.binds (ps := ["house"]) fun _ _ _ _ _ _ us hl => match us, hl with | [_], _ => rfl
  have F_reached_by := fun_mk (st := st_reached_by) l_reached_by e_reached_by k_reached_by
  have b_reached_by := F_reached_by.binds (ps := ["house", "gone", "room"]) fun _ _ _ _ _ _ us hl => match us, hl with | [_, _, _], _ => rfl
  have F_lots_of := fun_mk (st := st_lots_of) l_lots_of e_lots_of k_lots_of
  have b_lots_of := F_lots_of.binds (ps := ["rooms"]) fun _ _ _ _ _ _ us hl => match us, hl with | [_], _ => rfl
  have F_best_rows := fun_mk (st := st_best_rows) l_best_rows e_best_rows k_best_rows
  have b_best_rows := F_best_rows.binds (ps := ["house"]) fun _ _ _ _ _ _ us hl => match us, hl with | [_], _ => rfl
  have F_best_row := fun_mk (st := st_best_row) l_best_row e_best_row k_best_row
  have b_best_row := F_best_row.binds (ps := ["house"]) fun _ _ _ _ _ _ us hl => match us, hl with | [_], _ => rfl
  have F_fewest_fast := fun_mk (st := st_fewest_fast) l_fewest_fast e_fewest_fast k_fewest_fast
  have b_fewest_fast := F_fewest_fast.binds (ps := ["house"]) fun _ _ _ _ _ _ us hl => match us, hl with | [_], _ => rfl
  have F_less := fun_mk (st := st_less) l_less e_less k_less
  have b_less := F_less.binds (ps := ["house", "a", "b"]) fun _ _ _ _ _ _ us hl => match us, hl with | [_, _, _], _ => rfl
  have F_numbered := fun_mk (st := st_numbered) l_numbered e_numbered k_numbered
  have b_numbered := F_numbered.binds (ps := ["room", "gone"]) fun _ _ _ _ _ _ us hl => match us, hl with | [_, _], _ => rfl
  have F_without := fun_mk (st := st_without) l_without e_without k_without
  have b_without := F_without.binds (ps := ["house", "a"]) fun _ _ _ _ _ _ us hl => match us, hl with | [_, _], _ => rfl
  have F_one_of := fun_mk (st := st_one_of) l_one_of e_one_of k_one_of
  have b_one_of := F_one_of.binds (ps := ["house", "a", "b"]) fun _ _ _ _ _ _ us hl => match us, hl with | [_, _, _], _ => rfl
  have F_smaller := fun_mk (st := st_smaller) l_smaller e_smaller k_smaller
  have b_smaller := F_smaller.binds (ps := ["house"]) fun _ _ _ _ _ _ us hl => match us, hl with | [_], _ => rfl
  have F_law_hand := fun_mk (st := st_law_hand) l_law_hand e_law_hand k_law_hand
  have b_law_hand := F_law_hand.binds (ps := ["script"]) fun _ _ _ _ _ _ us hl => match us, hl with | [_], _ => rfl
  have F_law_draw := fun_mk (st := st_law_draw) l_law_draw e_law_draw k_law_draw
  have b_law_draw := F_law_draw.binds (ps := ["hand", "many"]) fun _ _ _ _ _ _ us hl => match us, hl with | [_, _], _ => rfl
  have F_law_is := fun_mk (st := st_law_is) l_law_is e_law_is k_law_is
  have b_law_is := F_law_is.binds (ps := ["one", "other"]) fun _ _ _ _ _ _ us hl => match us, hl with | [_, _], _ => rfl
  have F_law_house := fun_mk (st := st_law_house) l_law_house e_law_house k_law_house
  have b_law_house := F_law_house.binds (ps := ["hand", "most"]) fun _ _ _ _ _ _ us hl => match us, hl with | [_, _], _ => rfl
  have F_law_nears := fun_mk (st := st_law_nears) l_law_nears e_law_nears k_law_nears
  have b_law_nears := F_law_nears.binds (ps := ["parts"]) fun _ _ _ _ _ _ us hl => match us, hl with | [_], _ => rfl
  have F_law_made := fun_mk (st := st_law_made) l_law_made e_law_made k_law_made
  have b_law_made := F_law_made.binds (ps := ["parts"]) fun _ _ _ _ _ _ us hl => match us, hl with | [_], _ => rfl
  have F_law_lots := fun_mk (st := st_law_lots) l_law_lots e_law_lots k_law_lots
  have b_law_lots := F_law_lots.binds (ps := ["rooms"]) fun _ _ _ _ _ _ us hl => match us, hl with | [_], _ => rfl
  have F_law_by := fun_mk (st := st_law_by) l_law_by e_law_by k_law_by
  have b_law_by := F_law_by.binds (ps := ["nears_v", "gone", "room"]) fun _ _ _ _ _ _ us hl => match us, hl with | [_, _, _], _ => rfl
  have F_law_fast := fun_mk (st := st_law_fast) l_law_fast e_law_fast k_law_fast
  have b_law_fast := F_law_fast.binds (ps := ["nears_v"]) fun _ _ _ _ _ _ us hl => match us, hl with | [_], _ => rfl
  have F_law_one := fun_mk (st := st_law_one) l_law_one e_law_one k_law_one
  have b_law_one := F_law_one.binds (ps := ["parts", "a", "b"]) fun _ _ _ _ _ _ us hl => match us, hl with | [_, _, _], _ => rfl
  have F_law_steps := fun_mk (st := st_law_steps) l_law_steps e_law_steps k_law_steps
  have b_law_steps := F_law_steps.binds (ps := ["parts"]) fun _ _ _ _ _ _ us hl => match us, hl with | [_], _ => rfl
  have F_law := fun_mk (st := st_law) l_law e_law k_law
  have b_law := F_law.binds (ps := ["script"]) fun _ _ _ _ _ _ us hl => match us, hl with | [_], _ => rfl
  let T : Ctx K mg := {
    n_abs := PySem.W.mg_none_of X G z_abs
    n_all := PySem.W.mg_none_of X G z_all
    n_bool := PySem.W.mg_none_of X G z_bool
    n_dict := PySem.W.mg_none_of X G z_dict
    n_enumerate := PySem.W.mg_none_of X G z_enumerate
    n_int := PySem.W.mg_none_of X G z_int
    n_isinstance := PySem.W.mg_none_of X G z_isinstance
    n_len := PySem.W.mg_none_of X G z_len
    n_list := PySem.W.mg_none_of X G z_list
    n_max := PySem.W.mg_none_of X G z_max
    n_min := PySem.W.mg_none_of X G z_min
    n_range := PySem.W.mg_none_of X G z_range
    n_sorted := PySem.W.mg_none_of X G z_sorted
    n_tuple := PySem.W.mg_none_of X G z_tuple
    n_zip := PySem.W.mg_none_of X G z_zip
    c_MOST_ROOMS := ⟨_, PySem.W.mg_of X G k_MOST_ROOMS⟩
    C_House := C_House
    m_House := PySem.W.mg_of X G c1_House
    cl_House := ⟨c2_House, c3_House, c4_House, c5_House⟩
    na_House_rooms := nf_House_rooms
    na_House_doors := nf_House_doors
    na_House_looked := nf_House_looked
    a_is_integer := f_is_integer
    fd_is_integer := _
    F_is_integer := F_is_integer
    b_is_integer := b_is_integer
    m_is_integer := PySem.W.mg_of X G a_is_integer
    a_is_within := f_is_within
    fd_is_within := _
    F_is_within := F_is_within
    b_is_within := b_is_within
    m_is_within := PySem.W.mg_of X G a_is_within
    a_is_tuple := f_is_tuple
    fd_is_tuple := _
    F_is_tuple := F_is_tuple
    b_is_tuple := b_is_tuple
    m_is_tuple := PySem.W.mg_of X G a_is_tuple
    a_is_door := f_is_door
    fd_is_door := _
    F_is_door := F_is_door
    b_is_door := b_is_door
    m_is_door := PySem.W.mg_of X G a_is_door
    a_are_doors := f_are_doors
    fd_are_doors := _
    F_are_doors := F_are_doors
    b_are_doors := b_are_doors
    m_are_doors := PySem.W.mg_of X G a_are_doors
    a_House___init__ := f_House___init__
    fd_House___init__ := _
    F_House___init__ := F_House___init__
    b_House___init__ := b_House___init__
    mk_House := ⟨c6_House, a_House___init__, i_House___init__, c7_House⟩
    a_besides := f_besides
    fd_besides := _
    F_besides := F_besides
    b_besides := b_besides
    m_besides := PySem.W.mg_of X G a_besides
    a_nears := f_nears
    fd_nears := _
    F_nears := F_nears
    b_nears := b_nears
    m_nears := PySem.W.mg_of X G a_nears
    a_reached_by := f_reached_by
    fd_reached_by := _
    F_reached_by := F_reached_by
    b_reached_by := b_reached_by
    m_reached_by := PySem.W.mg_of X G a_reached_by
    a_lots_of := f_lots_of
    fd_lots_of := _
    F_lots_of := F_lots_of
    b_lots_of := b_lots_of
    m_lots_of := PySem.W.mg_of X G a_lots_of
    a_best_rows := f_best_rows
    fd_best_rows := _
    F_best_rows := F_best_rows
    b_best_rows := b_best_rows
    m_best_rows := PySem.W.mg_of X G a_best_rows
    a_best_row := f_best_row
    fd_best_row := _
    F_best_row := F_best_row
    b_best_row := b_best_row
    m_best_row := PySem.W.mg_of X G a_best_row
    a_fewest_fast := f_fewest_fast
    fd_fewest_fast := _
    F_fewest_fast := F_fewest_fast
    b_fewest_fast := b_fewest_fast
    m_fewest_fast := PySem.W.mg_of X G a_fewest_fast
    a_less := f_less
    fd_less := _
    F_less := F_less
    b_less := b_less
    m_less := PySem.W.mg_of X G a_less
    a_numbered := f_numbered
    fd_numbered := _
    F_numbered := F_numbered
    b_numbered := b_numbered
    m_numbered := PySem.W.mg_of X G a_numbered
    a_without := f_without
    fd_without := _
    F_without := F_without
    b_without := b_without
    m_without := PySem.W.mg_of X G a_without
    a_one_of := f_one_of
    fd_one_of := _
    F_one_of := F_one_of
    b_one_of := b_one_of
    m_one_of := PySem.W.mg_of X G a_one_of
    a_smaller := f_smaller
    fd_smaller := _
    F_smaller := F_smaller
    b_smaller := b_smaller
    m_smaller := PySem.W.mg_of X G a_smaller
    a_law_hand := f_law_hand
    fd_law_hand := _
    F_law_hand := F_law_hand
    b_law_hand := b_law_hand
    m_law_hand := PySem.W.mg_of X G a_law_hand
    a_law_draw := f_law_draw
    fd_law_draw := _
    F_law_draw := F_law_draw
    b_law_draw := b_law_draw
    m_law_draw := PySem.W.mg_of X G a_law_draw
    a_law_is := f_law_is
    fd_law_is := _
    F_law_is := F_law_is
    b_law_is := b_law_is
    m_law_is := PySem.W.mg_of X G a_law_is
    a_law_house := f_law_house
    fd_law_house := _
    F_law_house := F_law_house
    b_law_house := b_law_house
    m_law_house := PySem.W.mg_of X G a_law_house
    a_law_nears := f_law_nears
    fd_law_nears := _
    F_law_nears := F_law_nears
    b_law_nears := b_law_nears
    m_law_nears := PySem.W.mg_of X G a_law_nears
    a_law_made := f_law_made
    fd_law_made := _
    F_law_made := F_law_made
    b_law_made := b_law_made
    m_law_made := PySem.W.mg_of X G a_law_made
    a_law_lots := f_law_lots
    fd_law_lots := _
    F_law_lots := F_law_lots
    b_law_lots := b_law_lots
    m_law_lots := PySem.W.mg_of X G a_law_lots
    a_law_by := f_law_by
    fd_law_by := _
    F_law_by := F_law_by
    b_law_by := b_law_by
    m_law_by := PySem.W.mg_of X G a_law_by
    a_law_fast := f_law_fast
    fd_law_fast := _
    F_law_fast := F_law_fast
    b_law_fast := b_law_fast
    m_law_fast := PySem.W.mg_of X G a_law_fast
    a_law_one := f_law_one
    fd_law_one := _
    F_law_one := F_law_one
    b_law_one := b_law_one
    m_law_one := PySem.W.mg_of X G a_law_one
    a_law_steps := f_law_steps
    fd_law_steps := _
    F_law_steps := F_law_steps
    b_law_steps := b_law_steps
    m_law_steps := PySem.W.mg_of X G a_law_steps
    a_law := fa
    fd_law := _
    F_law := F_law
    b_law := b_law
    m_law := PySem.W.mg_of X G a_law }
  exact ⟨PySem.W.fnOf "law" "law" (defArgs st_law) (defBody st_law) (defScope st_law) .none kV_law dc_law pm_law an_law cd_law ct_law, fun s v => .of_eq rfl, fun base _ _ => ok_law (P := l.prog) (w := w) (base := base) T⟩
theorem neat_only {H : Hp} (h : Only H) : Neat H := ⟨fun p C dx r t l e => by
    rcases h p with z | ⟨o, xs, z⟩ <;> (rw [z] at e; cases e), fun p p2 C C2 dx dx2 r r2 t t2 l e _ => by
    rcases h p with z | ⟨o, xs, z⟩ <;> (rw [z] at e; cases e)⟩
theorem walk {l : PySem.W.OpenLaw} {q : Program} {loose : List Str} {XP : (Str → Option Value) → Heap → Prop} {YP : World → Heap → Prop} {d : DefRec} {K : Params → PySem.W.Frag} (hn : l.most = some 63) (hdf : d.params.defaults = [])
    (hY : ∀ (w : World) (h : Heap), YP w h → (K w.params).In h)
    (F : ∀ (w : World) (mg : Str → Option Value) (fa : Addr) (h : Heap), (K w.params).In h → h.Ns mainGlobals mg → mg d.name = some (.ref fa) →
      ∃ fd : FuncData, (∀ (s : Shared) (u : Value), BindsTo s fd ⟨[u], []⟩ [("script", u)]) ∧ ∀ base : Heap, (K w.params).In base → base.Ns mainGlobals mg → FnOk l.prog w (K w.params) mg base CX0 9 fa fd ["script"] (Sp1 (fun (_ : Nd (Scr (K w.params))) => True) (fun _ (b : Bool) => b = true))) :
    PySem.W.WalkO q loose XP YP l.row.toRowW d [] (fun f vs => PySem.call f vs) :=
  L2.walk_of (n := 63) (k := 9) (x := "script") (CX := fun _ => CX0) (sp := fun w => Sp1 (fun (_ : Nd (Scr (K w.params))) => True) (fun _ (b : Bool) => b = true)) hn (by decide) hdf ⟨rfl, by decide, by decide⟩ hY F (fun _ H a ns hl hO hS => ⟨.ref a, ⟨⟨ns⟩⟩, rfl, ⟨⟨a, rfl, hS, hl⟩, neat_only hO⟩, trivial, fun d w H2 e _ r => by subst e; exact r⟩) fun _ _ _ _ _ z => z
end Cl
open PySem PySem.W PyProof.Rows in
set_option maxRecDepth 100000 in
set_option maxHeartbeats 0 in
theorem PySem.Challenge.cw_sweptrooms_k26_whole_smaller_holds : PySem.Challenge.rw_sweptrooms_k26_whole_smaller.Holds := by
  w_on; o_law; k_head; (case hw => w_witness2)
  k_fill
  refine Cl.walk (l := PySem.Challenge.rw_sweptrooms_k26_whole_smaller) rfl rfl (fun w h Y => PySem.W.kIn_of Y) ?F
  case F =>
    intro w mg fa h KX G hmg
    refine' Cl.all_mk KX G hmg ?z_abs ?z_all ?z_bool ?z_dict ?z_enumerate ?z_int ?z_isinstance ?z_len ?z_list ?z_max ?z_min ?z_range ?z_sorted ?z_tuple ?z_zip ?k_MOST_ROOMS ?c1_House ?c2_House ?c3_House ?c4_House ?c5_House ?c6_House ?c7_House ?nf_House_rooms ?nf_House_doors ?nf_House_looked ?a_is_integer ?l_is_integer ?e_is_integer ?k_is_integer ?a_is_within ?l_is_within ?e_is_within ?k_is_within ?a_is_tuple ?l_is_tuple ?e_is_tuple ?k_is_tuple ?a_is_door ?l_is_door ?e_is_door ?k_is_door ?a_are_doors ?l_are_doors ?e_are_doors ?k_are_doors ?a_House___init__ ?i_House___init__ ?l_House___init__ ?e_House___init__ ?k_House___init__ ?a_besides ?l_besides ?e_besides ?k_besides ?a_nears ?l_nears ?e_nears ?k_nears ?a_reached_by ?l_reached_by ?e_reached_by ?k_reached_by ?a_lots_of ?l_lots_of ?e_lots_of ?k_lots_of ?a_best_rows ?l_best_rows ?e_best_rows ?k_best_rows ?a_best_row ?l_best_row ?e_best_row ?k_best_row ?a_fewest_fast ?l_fewest_fast ?e_fewest_fast ?k_fewest_fast ?a_less ?l_less ?e_less ?k_less ?a_numbered ?l_numbered ?e_numbered ?k_numbered ?a_without ?l_without ?e_without ?k_without ?a_one_of ?l_one_of ?e_one_of ?k_one_of ?a_smaller ?l_smaller ?e_smaller ?k_smaller ?a_law_hand ?l_law_hand ?e_law_hand ?k_law_hand ?a_law_draw ?l_law_draw ?e_law_draw ?k_law_draw ?a_law_is ?l_law_is ?e_law_is ?k_law_is ?a_law_house ?l_law_house ?e_law_house ?k_law_house ?a_law_nears ?l_law_nears ?e_law_nears ?k_law_nears ?a_law_made ?l_law_made ?e_law_made ?k_law_made ?a_law_lots ?l_law_lots ?e_law_lots ?k_law_lots ?a_law_by ?l_law_by ?e_law_by ?k_law_by ?a_law_fast ?l_law_fast ?e_law_fast ?k_law_fast ?a_law_one ?l_law_one ?e_law_one ?k_law_one ?a_law_steps ?l_law_steps ?e_law_steps ?k_law_steps ?a_law ?l_law ?e_law ?k_law
    (case z_abs => k_is)
    (case z_all => k_is)
    (case z_bool => k_is)
    (case z_dict => k_is)
    (case z_enumerate => k_is)
    (case z_int => k_is)
    (case z_isinstance => k_is)
    (case z_len => k_is)
    (case z_list => k_is)
    (case z_max => k_is)
    (case z_min => k_is)
    (case z_range => k_is)
    (case z_sorted => k_is)
    (case z_tuple => k_is)
    (case z_zip => k_is)
    (case k_MOST_ROOMS => k_is)
    (case c1_House => k_is)
    (case c2_House => k_is)
    (case c3_House => k_is)
    (case c4_House => k_is)
    (case c5_House => k_is)
    (case c6_House => k_is)
    (case c7_House => k_is)
    (case nf_House_rooms => k_is)
    (case nf_House_doors => k_is)
    (case nf_House_looked => k_is)
    (case a_is_integer => k_is)
    (case l_is_integer => k_is)
    (case e_is_integer => k_is)
    (case k_is_integer => k_is)
    (case a_is_within => k_is)
    (case l_is_within => k_is)
    (case e_is_within => k_is)
    (case k_is_within => k_is)
    (case a_is_tuple => k_is)
    (case l_is_tuple => k_is)
    (case e_is_tuple => k_is)
    (case k_is_tuple => k_is)
    (case a_is_door => k_is)
    (case l_is_door => k_is)
    (case e_is_door => k_is)
    (case k_is_door => k_is)
    (case a_are_doors => k_is)
    (case l_are_doors => k_is)
    (case e_are_doors => k_is)
    (case k_are_doors => k_is)
    (case a_House___init__ => k_is)
    (case i_House___init__ => k_is)
    (case l_House___init__ => k_is)
    (case e_House___init__ => k_is)
    (case k_House___init__ => k_is)
    (case a_besides => k_is)
    (case l_besides => k_is)
    (case e_besides => k_is)
    (case k_besides => k_is)
    (case a_nears => k_is)
    (case l_nears => k_is)
    (case e_nears => k_is)
    (case k_nears => k_is)
    (case a_reached_by => k_is)
    (case l_reached_by => k_is)
    (case e_reached_by => k_is)
    (case k_reached_by => k_is)
    (case a_lots_of => k_is)
    (case l_lots_of => k_is)
    (case e_lots_of => k_is)
    (case k_lots_of => k_is)
    (case a_best_rows => k_is)
    (case l_best_rows => k_is)
    (case e_best_rows => k_is)
    (case k_best_rows => k_is)
    (case a_best_row => k_is)
    (case l_best_row => k_is)
    (case e_best_row => k_is)
    (case k_best_row => k_is)
    (case a_fewest_fast => k_is)
    (case l_fewest_fast => k_is)
    (case e_fewest_fast => k_is)
    (case k_fewest_fast => k_is)
    (case a_less => k_is)
    (case l_less => k_is)
    (case e_less => k_is)
    (case k_less => k_is)
    (case a_numbered => k_is)
    (case l_numbered => k_is)
    (case e_numbered => k_is)
    (case k_numbered => k_is)
    (case a_without => k_is)
    (case l_without => k_is)
    (case e_without => k_is)
    (case k_without => k_is)
    (case a_one_of => k_is)
    (case l_one_of => k_is)
    (case e_one_of => k_is)
    (case k_one_of => k_is)
    (case a_smaller => k_is)
    (case l_smaller => k_is)
    (case e_smaller => k_is)
    (case k_smaller => k_is)
    (case a_law_hand => k_is)
    (case l_law_hand => k_is)
    (case e_law_hand => k_is)
    (case k_law_hand => k_is)
    (case a_law_draw => k_is)
    (case l_law_draw => k_is)
    (case e_law_draw => k_is)
    (case k_law_draw => k_is)
    (case a_law_is => k_is)
    (case l_law_is => k_is)
    (case e_law_is => k_is)
    (case k_law_is => k_is)
    (case a_law_house => k_is)
    (case l_law_house => k_is)
    (case e_law_house => k_is)
    (case k_law_house => k_is)
    (case a_law_nears => k_is)
    (case l_law_nears => k_is)
    (case e_law_nears => k_is)
    (case k_law_nears => k_is)
    (case a_law_made => k_is)
    (case l_law_made => k_is)
    (case e_law_made => k_is)
    (case k_law_made => k_is)
    (case a_law_lots => k_is)
    (case l_law_lots => k_is)
    (case e_law_lots => k_is)
    (case k_law_lots => k_is)
    (case a_law_by => k_is)
    (case l_law_by => k_is)
    (case e_law_by => k_is)
    (case k_law_by => k_is)
    (case a_law_fast => k_is)
    (case l_law_fast => k_is)
    (case e_law_fast => k_is)
    (case k_law_fast => k_is)
    (case a_law_one => k_is)
    (case l_law_one => k_is)
    (case e_law_one => k_is)
    (case k_law_one => k_is)
    (case a_law_steps => k_is)
    (case l_law_steps => k_is)
    (case e_law_steps => k_is)
    (case k_law_steps => k_is)
    (case a_law => k_is)
    (case l_law => k_is)
    (case e_law => k_is)
    (case k_law => k_is)
