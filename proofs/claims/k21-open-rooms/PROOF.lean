import PyProof.Rows.All
import Wide.All
import OpenK.AllK
import Wide.FinOn
import HandS.ForMost
import HandS.TupAny
import HandS.Conv
import HandS.Zip
import HandS.IsInst
import HandS.TupLen
import HandS.SortRule
import HandS.SortInts
import HandS.Deep
import HandS.TupLe
import HandS.Style
import KE.GoesMore
import KE.GoesEnum
import HandS.More
import KE.KDictDisplayH
import PySem.Challenge.RW_sweptrooms_k21_whole_open_rooms_and_swee
set_option Elab.async false
set_option linter.all false
set_option maxRecDepth 100000
set_option maxHeartbeats 4000000
/-! Z1: values as typed data, growth of the heap, what an expression evaluates to. -/
namespace Zw
open PySem L2

/-! ### data that never changes -/
def TupK (H H' : Hp) : Prop := ∀ a xs, H a = some (.tup xs) → H' a = some (.tup xs)
theorem TupK.refl (H : Hp) : TupK H H := fun _ _ h => h
theorem TupK.trans {H H1 H2 : Hp} (a : TupK H H1) (b : TupK H1 H2) : TupK H H2 := fun x o h => b x o (a x o h)
theorem TupK.new {H : Hp} {p : Addr} {o : HO} (h : H p = none) : TupK H (upd H p o) := fun a u e => by
  rw [upd_ne (ne_of_none e h)]; exact e
theorem TupK.put {H : Hp} {p : Addr} {o u : HO} (h : H p = some u) (hn : ∀ xs, u ≠ .tup xs) : TupK H (upd H p o) := fun a xs e => by
  rw [upd_ne (ne_of e h (fun z => hn xs z.symm))]; exact e

class PyI (α : Type) where
  rep : α → V → Hp → Prop
  keep : ∀ {d : α} {v : V} {H H' : Hp}, TupK H H' → rep d v H → rep d v H'
class NN (α : Type) [PyI α] : Prop where
  nn : ∀ {d : α} {v : V} {H : Hp}, PyI.rep d v H → v ≠ .non

/-- two lists side by side -/
def RL {α : Type} (R : α → V → Prop) (ds : List α) (xs : List V) : Prop := ds.length = xs.length ∧ ∀ (i : Nat) d x, ds[i]? = some d → xs[i]? = some x → R d x
theorem RL.nil {α : Type} {R : α → V → Prop} : RL R [] [] := ⟨rfl, fun i d x h => by simp at h⟩
theorem RL.mono {α : Type} {R R' : α → V → Prop} {ds : List α} {xs : List V} (h : RL R ds xs) (m : ∀ d x, R d x → R' d x) : RL R' ds xs := ⟨h.1, fun i d x a b => m d x (h.2 i d x a b)⟩
theorem RL.cons {α : Type} {R : α → V → Prop} {d : α} {x : V} {ds : List α} {xs : List V} (h : R d x) (t : RL R ds xs) : RL R (d :: ds) (x :: xs) := by
  refine ⟨by simp [t.1], fun i d' x' a b => ?_⟩
  cases i with
  | zero => simp at a b; rw [← a, ← b]; exact h
  | succ i => simp at a b; exact t.2 i d' x' a b
theorem RL.uncons {α : Type} {R : α → V → Prop} {d : α} {ds : List α} {xs : List V} (h : RL R (d :: ds) xs) : ∃ y ys, xs = y :: ys ∧ R d y ∧ RL R ds ys := by
  cases xs with
  | nil => exact absurd h.1 (by simp)
  | cons y ys => exact ⟨y, ys, rfl, h.2 0 d y rfl rfl, by have := h.1; simpa using this, fun i d' x' a b => h.2 (i + 1) d' x' (by simpa using a) (by simpa using b)⟩
theorem RL.nil_inv {α : Type} {R : α → V → Prop} {xs : List V} (h : RL R ([] : List α) xs) : xs = [] := by
  cases xs with
  | nil => rfl
  | cons y ys => exact absurd h.1 (by simp)
theorem RL.snoc {α : Type} {R : α → V → Prop} {d : α} {x : V} {ds : List α} {xs : List V} (t : RL R ds xs) (h : R d x) : RL R (ds ++ [d]) (xs ++ [x]) := by
  refine ⟨by simp [t.1], fun i d' x' a b => ?_⟩
  by_cases hi : i < ds.length
  · rw [List.getElem?_append_left hi] at a
    rw [List.getElem?_append_left (t.1 ▸ hi)] at b
    exact t.2 i d' x' a b
  · rw [List.getElem?_append_right (by omega)] at a
    rw [List.getElem?_append_right (by have := t.1; omega)] at b
    rw [← t.1] at b
    have hz : i - ds.length = 0 := by
      have := (List.getElem?_eq_some_iff.mp a).1
      simp at this
      omega
    rw [hz] at a b
    simp at a b
    rw [← a, ← b]; exact h
theorem RL.append {α : Type} {R : α → V → Prop} {ds es : List α} {xs ys : List V} (t : RL R ds xs) (u : RL R es ys) : RL R (ds ++ es) (xs ++ ys) := by
  refine ⟨by simp [t.1, u.1], fun i d' x' a b => ?_⟩
  by_cases hi : i < ds.length
  · rw [List.getElem?_append_left hi] at a
    rw [List.getElem?_append_left (t.1 ▸ hi)] at b
    exact t.2 i d' x' a b
  · rw [List.getElem?_append_right (by omega)] at a
    rw [List.getElem?_append_right (by have := t.1; omega)] at b
    rw [← t.1] at b
    exact u.2 _ d' x' a b
theorem RL.get {α : Type} {R : α → V → Prop} {ds : List α} {xs : List V} (t : RL R ds xs) {i : Nat} {d : α} (h : ds[i]? = some d) : ∃ x, xs[i]? = some x ∧ R d x := by
  have hi : i < xs.length := by rw [← t.1]; exact (List.getElem?_eq_some_iff.mp h).1
  exact ⟨xs[i], by simp [hi], t.2 i d _ h (by simp [hi])⟩
theorem RL.getR {α : Type} {R : α → V → Prop} {ds : List α} {xs : List V} (t : RL R ds xs) {i : Nat} {x : V} (h : xs[i]? = some x) : ∃ d, ds[i]? = some d ∧ R d x := by
  have hi : i < ds.length := by rw [t.1]; exact (List.getElem?_eq_some_iff.mp h).1
  exact ⟨ds[i], by simp [hi], t.2 i _ x (by simp [hi]) h⟩
theorem RL.drop {α : Type} {R : α → V → Prop} {ds : List α} {xs : List V} (t : RL R ds xs) (n : Nat) : RL R (ds.drop n) (xs.drop n) :=
  ⟨by simp [t.1], fun i d x a b => t.2 (n + i) d x (by simpa using a) (by simpa using b)⟩
theorem RL.take {α : Type} {R : α → V → Prop} {ds : List α} {xs : List V} (t : RL R ds xs) (n : Nat) : RL R (ds.take n) (xs.take n) := by
  refine ⟨by simp [t.1], fun i d x a b => ?_⟩
  rw [List.getElem?_take] at a b
  split at a
  · rename_i hi
    rw [if_pos hi] at b
    exact t.2 i d x a b
  · cases a
theorem RL.map {α : Type} {R : α → V → Prop} {f : α → V} {ds : List α} (h : ∀ d ∈ ds, R d (f d)) : RL R ds (ds.map f) := by
  refine ⟨by simp, fun i d x a b => ?_⟩
  rw [List.getElem?_map, a] at b
  simp at b
  rw [← b]; exact h d (List.mem_of_getElem? a)
theorem RL.eq_map {α : Type} {f : α → V} {ds : List α} {xs : List V} (h : RL (fun d x => x = f d) ds xs) : xs = ds.map f := by
  refine List.ext_getElem? fun i => ?_
  rw [List.getElem?_map]
  cases e : ds[i]? with
  | none =>
    have : ds.length ≤ i := List.getElem?_eq_none_iff.mp e
    rw [h.1] at this
    rw [List.getElem?_eq_none_iff.mpr this]
    rfl
  | some d =>
    obtain ⟨x, hx, r⟩ := h.get e
    rw [hx, r]; rfl
theorem RL.erase {α : Type} {R : α → V → Prop} : ∀ {ds : List α} {xs : List V} (k : Nat), RL R ds xs → RL R (ds.eraseIdx k) (xs.eraseIdx k)
  | [], xs, k, h => by rw [h.nil_inv]; simp; exact RL.nil
  | d :: ds, xs, 0, h => by obtain ⟨y, ys, rfl, _, t⟩ := h.uncons; simpa using t
  | d :: ds, xs, k + 1, h => by obtain ⟨y, ys, rfl, r, t⟩ := h.uncons; simpa using (RL.erase k t).cons r
theorem RL.reverse {α : Type} {R : α → V → Prop} : ∀ {ds : List α} {xs : List V}, RL R ds xs → RL R ds.reverse xs.reverse
  | [], xs, h => by rw [h.nil_inv]; exact RL.nil
  | d :: ds, xs, h => by obtain ⟨y, ys, rfl, r, t⟩ := h.uncons; simpa using (RL.reverse t).snoc r

instance : PyI Int := ⟨fun i v _ => v = .int i, fun _ h => h⟩
instance : PyI Bool := ⟨fun b v _ => v = .bl b, fun _ h => h⟩
instance : PyI Str := ⟨fun s v _ => v = .str s, fun _ h => h⟩
instance : PyI Unit := ⟨fun _ v _ => v = .non, fun _ h => h⟩
instance instPair {α β : Type} [PyI α] [PyI β] : PyI (α × β) := ⟨fun d v H => ∃ p x y, v = .ref p ∧ H p = some (.tup [x, y]) ∧ PyI.rep d.1 x H ∧ PyI.rep d.2 y H,
  fun k ⟨p, x, y, e, h, a, b⟩ => ⟨p, x, y, e, k _ _ h, PyI.keep k a, PyI.keep k b⟩⟩
/-- a list of Lean is a tuple of Python -/
instance instTup {α : Type} [PyI α] : PyI (List α) := ⟨fun d v H => ∃ p xs, v = .ref p ∧ H p = some (.tup xs) ∧ RL (fun a x => PyI.rep a x H) d xs,
  fun k ⟨p, xs, e, h, a⟩ => ⟨p, xs, e, k _ _ h, a.mono fun _ _ r => PyI.keep k r⟩⟩
instance instOpt {α : Type} [PyI α] : PyI (Option α) := ⟨fun d v H => match d with | none => v = .non | some a => v ≠ .non ∧ PyI.rep a v H,
  fun {d v H H'} k h => by cases d with | none => exact h | some a => exact ⟨h.1, PyI.keep k h.2⟩⟩
instance : NN Int := ⟨fun h => by rw [h]; exact fun z => nomatch z⟩
instance : NN Bool := ⟨fun h => by rw [h]; exact fun z => nomatch z⟩
instance : NN Str := ⟨fun h => by rw [h]; exact fun z => nomatch z⟩
instance {α β : Type} [PyI α] [PyI β] : NN (α × β) := ⟨fun ⟨p, x, y, e, _⟩ => by rw [e]; exact fun z => nomatch z⟩
instance {α : Type} [PyI α] : NN (List α) := ⟨fun ⟨p, x, e, _⟩ => by rw [e]; exact fun z => nomatch z⟩

/-! ### houses: what besides keeps -/
def nbrs (a : Int) : List (Int × Int) → List Int
  | [] => []
  | (x, y) :: r => (if x = a then [y] else []) ++ (if y = a then [x] else []) ++ nbrs a r
def isortI (l : List Int) : List Int := l.mergeSort (fun a b => decide (a ≤ b))
def besM (r : Int) (ds : List (Int × Int)) : List (List Int) := (List.range r.toNat).map fun (a : Nat) => isortI (nbrs (a : Int) ds)
def hFields (r : Int) (t l : Addr) : List (Str × V) := [("rooms", .int r), ("doors", .ref t), ("looked", .ref l)]
def Own (H : Hp) (a : Addr) (ns : List (List Int)) : Prop := ∀ p C dx r t (ds : List (Int × Int)), H p = some (.ins C dx (hFields r t a)) → PyI.rep ds (.ref t) H → ns = besM r ds

/-! ### growth -/
/-- houses own their looked -/
def NotH (o : HO) : Prop := ∀ C dx r t l, o ≠ .ins C dx (hFields r t l)
def Neat (H : Hp) : Prop := (∀ p C dx r t l, H p = some (.ins C dx (hFields r t l)) → H l ≠ none) ∧ ∀ p p' C C' dx dx' r r' t t' l, H p = some (.ins C dx (hFields r t l)) → H p' = some (.ins C' dx' (hFields r' t' l)) → p = p'
theorem Neat.put {H : Hp} {p : Addr} {o : HO} (n : Neat H) (h : NotH o) : Neat (upd H p o) := by
  have key : ∀ q C dx r t l, (upd H p o) q = some (.ins C dx (hFields r t l)) → H q = some (.ins C dx (hFields r t l)) := fun q C dx r t l e => by
    by_cases hq : q = p
    · rw [hq, upd_same] at e; cases e; exact absurd rfl (h C dx r t l)
    · rw [upd_ne hq] at e; exact e
  refine ⟨fun q C dx r t l e => ?_, fun q q' C C' dx dx' r r' t t' l e e' => n.2 q q' C C' dx dx' r r' t t' l (key _ _ _ _ _ _ e) (key _ _ _ _ _ _ e')⟩
  have := n.1 q C dx r t l (key _ _ _ _ _ _ e)
  by_cases hl : l = p
  · rw [hl, upd_same]; exact fun z => nomatch z
  · rw [upd_ne hl]; exact this
def warm (v : V) : HO := .dK [(Sum.inr "beside", v)]
def Chg : HO → Prop
  | .dK [] => True
  | .dK [(Sum.inr _, _)] => True
  | _ => False
/-- a house of H keeps its looked at a -/
def Owned (H : Hp) (a : Addr) : Prop := ∃ p C dx r t, H p = some (.ins C dx (hFields r t a))
structure Gr (H H' : Hp) : Prop where
  old : ∀ a o, H a = some o → H' a = some o ∨ (Chg o ∧ Owned H a ∧ ∃ v ns, H' a = some (warm v) ∧ PyI.rep (α := List (List Int)) ns v H' ∧ Own H a ns)
  neat : Neat H → Neat H'
  newH : ∀ p C dx r t l, H' p = some (.ins C dx (hFields r t l)) → H l ≠ none → H p = some (.ins C dx (hFields r t l))
theorem Gr.refl (H : Hp) : Gr H H := ⟨fun _ _ h => .inl h, id, fun _ _ _ _ _ _ h _ => h⟩
theorem Gr.at {H H' : Hp} (g : Gr H H') {a : Addr} {o : HO} (h : H a = some o) (n : ¬ Chg o) : H' a = some o := (g.old a o h).elim id fun z => absurd z.1 n
theorem Gr.tup {H H' : Hp} (g : Gr H H') : TupK H H' := fun a xs h => g.at h (fun z => nomatch z)
theorem Gr.lst {H H' : Hp} (g : Gr H H') {a : Addr} {xs : List V} (h : H a = some (.lst xs)) : H' a = some (.lst xs) := g.at h (fun z => nomatch z)
theorem Gr.ins {H H' : Hp} (g : Gr H H') {a C dx : Addr} {fs : List (Str × V)} (h : H a = some (.ins C dx fs)) : H' a = some (.ins C dx fs) := g.at h (fun z => nomatch z)
theorem Gr.dT {H H' : Hp} (g : Gr H H') {a : Addr} {kvs} (h : H a = some (.dT kvs)) : H' a = some (.dT kvs) := g.at h (fun z => nomatch z)
theorem Gr.back {H H' : Hp} {p : Addr} (e : Gr H H') (h : H' p = none) : H p = none := by
  cases h1 : H p with
  | none => rfl
  | some o =>
    rcases e.old p o h1 with z | ⟨_, _, v, ns, z, _⟩ <;> (rw [h] at z; cases z)
theorem Gr.owned {H H' : Hp} (g : Gr H H') {a : Addr} (h : H a ≠ none) (o : Owned H' a) : Owned H a := by
  obtain ⟨p, C, dx, r, t, e⟩ := o
  exact ⟨p, C, dx, r, t, g.newH p C dx r t a e h⟩
theorem Gr.trans {H H1 H2 : Hp} (a : Gr H H1) (b : Gr H1 H2) : Gr H H2 := ⟨fun x o h => by
  have key : ∀ v ns, H2 x = some (warm v) → PyI.rep (α := List (List Int)) ns v H2 → Own H1 x ns → Owned H1 x → Chg o → H2 x = some o ∨ (Chg o ∧ Owned H x ∧ ∃ v ns, H2 x = some (warm v) ∧ PyI.rep (α := List (List Int)) ns v H2 ∧ Own H x ns) := fun v ns h2 r ow od e => .inr ⟨e, a.owned (by rw [h]; exact fun z => nomatch z) od, v, ns, h2, r, fun p C dx r t ds hp hd => ow p C dx r t ds (a.ins hp) (PyI.keep a.tup hd)⟩
  rcases a.old x o h with h1 | ⟨e, od, v, ns, h1, r, ow⟩
  · rcases b.old x o h1 with h2 | ⟨e, od, v, ns, h2, r, ow⟩
    · exact .inl h2
    · exact key v ns h2 r ow od e
  · rcases b.old x _ h1 with h2 | ⟨_, od', v, ns, h2, r, ow⟩
    · exact .inr ⟨e, od, v, ns, h2, PyI.keep b.tup r, ow⟩
    · exact key v ns h2 r ow od' e, fun n => b.neat (a.neat n), fun p C dx r t l e h => a.newH p C dx r t l (b.newH p C dx r t l e (fun z => h (a.back z))) h⟩
theorem Gr.new {H : Hp} {p : Addr} {o : HO} (h : H p = none) (no : NotH o := by intro _ _ _ _ _ z; cases z) : Gr H (upd H p o) := ⟨fun a u e => by
  rw [upd_ne (ne_of_none e h)]; exact .inl e, fun n => n.put no, fun q C dx r t l e _ => by
  by_cases hq : q = p
  · rw [hq, upd_same] at e; cases e; exact absurd rfl (no C dx r t l)
  · rw [upd_ne hq] at e; exact e⟩
/-- an object that H does not know may change -/
theorem Gr.mutN {H H' : Hp} {p : Addr} {o u : HO} (g : Gr H H') (h : H p = none) (hp : H' p = some u) (hn : ∀ xs, u ≠ .tup xs) (no : Neat H' → Neat (upd H' p o)) (nh : ∀ C dx r t l, o = .ins C dx (hFields r t l) → H l = none) : Gr H (upd H' p o) := ⟨fun a w ha => by
  have ne : a ≠ p := ne_of_none ha h
  rw [upd_ne ne]
  rcases g.old a w ha with z | ⟨e, od, v, ns, z, r, ow⟩
  · exact .inl z
  · exact .inr ⟨e, od, v, ns, z, PyI.keep (TupK.put hp hn) r, ow⟩, fun n => no (g.neat n), fun q C dx r t l e hl => by
  by_cases hq : q = p
  · rw [hq, upd_same] at e; cases e; exact absurd (nh C dx r t l rfl) hl
  · rw [upd_ne hq] at e; exact g.newH q C dx r t l e hl⟩
theorem Gr.mut {H H' : Hp} {p : Addr} {o u : HO} (g : Gr H H') (h : H p = none) (hp : H' p = some u) (hn : ∀ xs, u ≠ .tup xs) (no : NotH o := by intro _ _ _ _ _ z; cases z) : Gr H (upd H' p o) := g.mutN h hp hn (fun n => n.put no) fun C dx r t l e => absurd e (no C dx r t l)
theorem Gr.rd {H H' : Hp} (g : Gr H H') {a : Addr} {u : HO} (h : Rd H a u) (n : ¬ Chg u) : Rd H' a u := by
  rcases h with h | ⟨o, h⟩
  · exact .inl (g.at h n)
  · exact .inr ⟨o, g.at h (fun z => nomatch z)⟩
theorem Gr.sqL {K : PySem.W.Frag} {H H' : Hp} {a : Addr} {xs : List V} (g : Gr H H') (h : SqL K H a xs) : SqL K H' a xs := by
  rcases h with h | h
  · exact .inl (g.rd h (fun z => nomatch z))
  · exact .inr h
theorem Gr.sqT {K : PySem.W.Frag} {H H' : Hp} {a : Addr} {xs : List V} (g : Gr H H') (h : SqT K H a xs) : SqT K H' a xs := by
  rcases h with h | h
  · exact .inl (g.rd h (fun z => nomatch z))
  · exact .inr h

/-! ### data -/
class Py (α : Type) where
  rep : α → V → Hp → Prop
  mono : ∀ {d : α} {v : V} {H H' : Hp}, Gr H H' → rep d v H → rep d v H'
instance (priority := 10) instPyI {α : Type} [PyI α] : Py α := ⟨PyI.rep, fun g h => PyI.keep g.tup h⟩
/-- a list of Python -/
structure Ls (α : Type) where
  l : List α
instance instLs {α : Type} [Py α] : Py (Ls α) := ⟨fun d v H => ∃ p xs, v = .ref p ∧ H p = some (.lst xs) ∧ RL (fun a x => Py.rep a x H) d.l xs,
  fun g ⟨p, xs, e, h, a⟩ => ⟨p, xs, e, g.lst h, a.mono fun _ _ r => Py.mono g r⟩⟩
/-- a list or a tuple -/
structure Sq (α : Type) where
  l : List α
instance instSq {α : Type} [Py α] : Py (Sq α) := ⟨fun d v H => ∃ p xs, v = .ref p ∧ (H p = some (.lst xs) ∨ H p = some (.tup xs)) ∧ RL (fun a x => Py.rep a x H) d.l xs,
  fun g ⟨p, xs, e, h, a⟩ => ⟨p, xs, e, h.imp g.lst (g.tup _ _), a.mono fun _ _ r => Py.mono g r⟩⟩
theorem rep_i {α : Type} [PyI α] {d : α} {v : V} {H : Hp} : Py.rep d v H = PyI.rep d v H := rfl
theorem Ls.sq {α : Type} [Py α] {l : List α} {v : V} {H : Hp} (h : Py.rep (Ls.mk l) v H) : Py.rep (Sq.mk l) v H := let ⟨p, xs, e, a, b⟩ := h; ⟨p, xs, e, .inl a, b⟩
theorem tup_sq {α : Type} [PyI α] {l : List α} {v : V} {H : Hp} (h : Py.rep l v H) : Py.rep (Sq.mk l) v H := let ⟨p, xs, e, a, b⟩ := h; ⟨p, xs, e, .inr a, b⟩

/-! ### what evaluates to what -/
def Ed {α : Type} [Py α] (te : TE) (σ : L2.St) (H : Hp) (P : α → Prop) : Prop := ∀ H1, Gr H H1 → ∀ Q : VK, (∀ d v H2, P d → Gr H1 H2 → Py.rep d v H2 → Q v H2) → te σ H1 Q
abbrev Ev {α : Type} [Py α] (te : TE) (σ : L2.St) (H : Hp) (d : α) : Prop := Ed te σ H (· = d)
def EdT (tt : TT) (σ : L2.St) (H : Hp) (P : Bool → Prop) : Prop := ∀ H1, Gr H H1 → ∀ Q : Bool → Hp → Prop, (∀ b H2, P b → Gr H1 H2 → Q b H2) → tt σ H1 Q
abbrev EvT (tt : TT) (σ : L2.St) (H : Hp) (b : Bool) : Prop := EdT tt σ H (· = b)
/-- argument lists -/
def EvA (ta : TA) (σ : L2.St) (H : Hp) (R : List V → Hp → Prop) : Prop := ∀ H1, Gr H H1 → ∀ Q : List V → Hp → Prop, (∀ vs H2, Gr H1 H2 → R vs H2 → Q vs H2) → ta σ H1 Q
def EvO (to : TO) (σ : L2.St) (H : Hp) (o : Option Int) : Prop := ∀ H1, Gr H H1 → ∀ Q : Option Int → Hp → Prop, (∀ H2, Gr H1 H2 → Q o H2) → to σ H1 Q

section
variable {K : PySem.W.Frag} {σ : L2.St} {H H' : Hp} {ta tb te : TE} {t u : TT} {α β γ : Type} [Py α] [Py β] [Py γ]
theorem Ed.mono {P : α → Prop} (e : Gr H H') (h : Ed te σ H P) : Ed te σ H' P := fun H1 a Q q => h H1 (e.trans a) Q q
theorem Ed.imp {P P' : α → Prop} (h : Ed te σ H P) (i : ∀ d, P d → P' d) : Ed te σ H P' := fun H1 a Q q => h H1 a Q fun d v H2 p => q d v H2 (i d p)
theorem EdT.mono {P : Bool → Prop} (e : Gr H H') (h : EdT t σ H P) : EdT t σ H' P := fun H1 a Q q => h H1 (e.trans a) Q q
theorem EdT.imp {P P' : Bool → Prop} (h : EdT t σ H P) (i : ∀ d, P d → P' d) : EdT t σ H P' := fun H1 a Q q => h H1 a Q fun d H2 p => q d H2 (i d p)
theorem ev_is {x y : α} (h : Ev te σ H x) (e : x = y) : Ev te σ H y := e ▸ h
theorem et_is {x y : Bool} (h : EvT t σ H x) (e : x = y) : EvT t σ H y := e ▸ h
theorem ev_var {i : Nat} {v : V} {d : α} (h : σ[i]? = some (some v)) (r : Py.rep d v H) : Ev (tVar i) σ H d := fun H1 g _ q => ⟨v, h, q d v H1 rfl (Gr.refl H1) (Py.mono g r)⟩
theorem ev_c {v : V} {d : α} (r : Py.rep d v H) : Ev (tC v) σ H d := fun H1 g _ q => q d v H1 rfl (Gr.refl H1) (Py.mono g r)
theorem ev_int {i : Int} : Ev (tC (.int i)) σ H i := ev_c rfl
theorem ev_bl {i : Bool} : Ev (tC (.bl i)) σ H i := ev_c rfl
theorem ev_str {i : Str} : Ev (tC (.str i)) σ H i := ev_c rfl
/-- two-place operations on values -/
def RO (r : R2) (a : α) (b : β) (P : γ → Prop) : Prop := ∀ (x y : V) (H : Hp), Py.rep a x H → Py.rep b y H → ∀ Q : VK, (∀ d v H2, P d → Gr H H2 → Py.rep d v H2 → Q v H2) → r x y H Q
theorem ed_op {r : R2} {Pa : α → Prop} {Pb : β → Prop} {P : γ → Prop} (ha : Ed ta σ H Pa) (hb : Ed tb σ H Pb) (hr : ∀ a b, Pa a → Pb b → RO r a b P) : Ed (tOp r ta tb) σ H P := fun H1 e Q q =>
  ha H1 e _ fun a x H2 pa e2 rx => hb H2 (e.trans e2) _ fun b y H3 pb e3 ry => hr a b pa pb x y H3 (Py.mono e3 rx) ry Q fun d v H4 p e4 r4 => q d v H4 p ((e2.trans e3).trans e4) r4
theorem ev_op {r : R2} {a : α} {b : β} {c : γ} (ha : Ev ta σ H a) (hb : Ev tb σ H b) (hr : RO r a b (· = c)) : Ev (tOp r ta tb) σ H c := ed_op ha hb (by rintro _ _ rfl rfl; exact hr)
theorem RO.inl {r r' : R2} {a : α} {b : β} {P : γ → Prop} (h : RO r a b P) : RO (fun x y H Q => r x y H Q ∨ r' x y H Q) a b P := fun x y H rx ry Q q => .inl (h x y H rx ry Q q)
theorem RO.inr {r r' : R2} {a : α} {b : β} {P : γ → Prop} (h : RO r' a b P) : RO (fun x y H Q => r x y H Q ∨ r' x y H Q) a b P := fun x y H rx ry Q q => .inr (h x y H rx ry Q q)
theorem RO.imp {r : R2} {a : α} {b : β} {P P' : γ → Prop} (h : RO r a b P) (i : ∀ d, P d → P' d) : RO r a b P' := fun x y H rx ry Q q => h x y H rx ry Q fun d v H2 p => q d v H2 (i d p)
end
end Zw
/-! Z2: the rules of expressions, by type. -/
namespace Zw
open PySem L2

section
variable {K : PySem.W.Frag} {σ : L2.St} {H H' : Hp} {ta tb tc te : TE} {t u : TT}

/-! ### ints -/
theorem ro_I0 {γ : Type} [Py γ] {g : Int → Int → V} {i j : Int} {c : γ} (h : ∀ H, Py.rep c (g i j) H) : RO (rI0 g) i j (· = c) := fun x y H rx ry Q q => ⟨i, j, rx, ry, q c _ H rfl (Gr.refl H) (h H)⟩
theorem ro_I {γ : Type} [Py γ] {C : Int → Int → Prop} {g : Int → Int → V} {i j : Int} {c : γ} (hc : C i j) (h : ∀ H, Py.rep c (g i j) H) : RO (rI C g) i j (· = c) := fun x y H rx ry Q q => ⟨i, j, rx, ry, hc, q c _ H rfl (Gr.refl H) (h H)⟩
abbrev rAddI : R2 := rI0 fun i j => .int (i + j)
abbrev rSubI : R2 := rI0 fun i j => .int (i - j)
theorem ev_add {i j : Int} (ha : Ev ta σ H i) (hb : Ev tb σ H j) : Ev (tOp (rI0 fun i j => .int (i + j)) ta tb) σ H (i + j) := ev_op ha hb (ro_I0 fun _ => rfl)
theorem ev_sub {i j : Int} (ha : Ev ta σ H i) (hb : Ev tb σ H j) : Ev (tOp (rI0 fun i j => .int (i - j)) ta tb) σ H (i - j) := ev_op ha hb (ro_I0 fun _ => rfl)
theorem ev_lt {i j : Int} (ha : Ev ta σ H i) (hb : Ev tb σ H j) : Ev (tOp (rI0 fun i j => .bl (decide (i < j))) ta tb) σ H (decide (i < j)) := ev_op ha hb (ro_I0 fun _ => rfl)
theorem ev_le {i j : Int} (ha : Ev ta σ H i) (hb : Ev tb σ H j) : Ev (tOp (rI0 fun i j => .bl (decide (i ≤ j))) ta tb) σ H (decide (i ≤ j)) := ev_op ha hb (ro_I0 fun _ => rfl)
theorem ev_gt {i j : Int} (ha : Ev ta σ H i) (hb : Ev tb σ H j) : Ev (tOp (rI0 fun i j => .bl (decide (j < i))) ta tb) σ H (decide (j < i)) := ev_op ha hb (ro_I0 fun _ => rfl)
theorem ev_ge {i j : Int} (ha : Ev ta σ H i) (hb : Ev tb σ H j) : Ev (tOp (rI0 fun i j => .bl (decide (j ≤ i))) ta tb) σ H (decide (j ≤ i)) := ev_op ha hb (ro_I0 fun _ => rfl)
theorem ev_neg {i : Int} (ha : Ev ta σ H i) : Ev (tUn (rU fun i => .int (-i)) ta) σ H (-i) := fun H1 g Q q => ha H1 g _ fun d x H2 e g2 r => by subst e; exact ⟨d, r, q _ _ H2 rfl g2 rfl⟩
theorem ev_not {i : Bool} (ha : Ev ta σ H i) : Ev (tNotV ta) σ H (!i) := fun H1 g Q q => ha H1 g _ fun d x H2 e g2 r => by subst e; exact ⟨d, r, q _ _ H2 rfl g2 rfl⟩
theorem ro_eq {α : Type} [Py α] [DecidableEq α] (f : α → V) (hf : ∀ d v H, Py.rep d v H → v = f d) (inj : ∀ a b, f a = f b → a = b) (sc : ∀ a b, scal (f a) (f b) = true) {a b : α} : RO rEq a b (· = decide (a = b)) := fun x y H rx ry Q q => by
  have e1 := hf _ _ _ rx
  have e2 := hf _ _ _ ry
  subst e1 e2
  refine ⟨sc a b, ?_⟩
  have e : decide (f a = f b) = decide (a = b) := decide_eq_decide.mpr ⟨inj a b, fun e => by rw [e]⟩
  rw [e]
  exact q _ _ H rfl (Gr.refl H) rfl
theorem ro_ne {α : Type} [Py α] [DecidableEq α] (f : α → V) (hf : ∀ d v H, Py.rep d v H → v = f d) (inj : ∀ a b, f a = f b → a = b) (sc : ∀ a b, scal (f a) (f b) = true) {a b : α} : RO rNe a b (· = !decide (a = b)) := fun x y H rx ry Q q => by
  have e1 := hf _ _ _ rx
  have e2 := hf _ _ _ ry
  subst e1 e2
  refine ⟨sc a b, ?_⟩
  have e : decide (f a = f b) = decide (a = b) := decide_eq_decide.mpr ⟨inj a b, fun e => by rw [e]⟩
  rw [e]
  exact q _ _ H rfl (Gr.refl H) rfl
theorem ev_eqI {i j : Int} (ha : Ev ta σ H i) (hb : Ev tb σ H j) : Ev (tOp rEq ta tb) σ H (decide (i = j)) := ev_op ha hb (ro_eq V.int (fun _ _ _ h => h) (fun _ _ e => V.int.inj e) fun _ _ => rfl)
theorem ev_neI {i j : Int} (ha : Ev ta σ H i) (hb : Ev tb σ H j) : Ev (tOp rNe ta tb) σ H (!decide (i = j)) := ev_op ha hb (ro_ne V.int (fun _ _ _ h => h) (fun _ _ e => V.int.inj e) fun _ _ => rfl)
theorem ev_eqB {i j : Bool} (ha : Ev ta σ H i) (hb : Ev tb σ H j) : Ev (tOp rEq ta tb) σ H (decide (i = j)) := ev_op ha hb (ro_eq V.bl (fun _ _ _ h => h) (fun _ _ e => V.bl.inj e) fun _ _ => rfl)
theorem ev_neB {i j : Bool} (ha : Ev ta σ H i) (hb : Ev tb σ H j) : Ev (tOp rNe ta tb) σ H (!decide (i = j)) := ev_op ha hb (ro_ne V.bl (fun _ _ _ h => h) (fun _ _ e => V.bl.inj e) fun _ _ => rfl)
theorem ev_eqS {i j : Str} (ha : Ev ta σ H i) (hb : Ev tb σ H j) : Ev (tOp rEq ta tb) σ H (decide (i = j)) := ev_op ha hb (ro_eq V.str (fun _ _ _ h => h) (fun _ _ e => V.str.inj e) fun _ _ => rfl)
theorem ev_neS {i j : Str} (ha : Ev ta σ H i) (hb : Ev tb σ H j) : Ev (tOp rNe ta tb) σ H (!decide (i = j)) := ev_op ha hb (ro_ne V.str (fun _ _ _ h => h) (fun _ _ e => V.str.inj e) fun _ _ => rfl)
/-- a < b < c -/
theorem ev_chain {r r' : R2} {a b c : Int} {k k' : Bool} (ha : Ev ta σ H a) (hb : Ev tb σ H b) (hc : Ev tc σ H c) (h1 : RO r a b (· = k)) (h2 : RO r' b c (· = k')) : Ev (tChain r r' ta tb tc) σ H (k && k') := by
  intro H1 g Q q
  refine ha H1 g _ fun a' x H2 ea g2 rx => ?_
  refine hb H2 (g.trans g2) _ fun b' y H3 eb g3 ry => ?_
  subst ea eb
  refine h1 x y H3 (Py.mono g3 rx) ry _ fun d z H4 ek g4 rz => ?_
  subst ek
  refine ⟨d, rz, ?_⟩
  cases d with
  | true =>
    refine hc H4 (((g.trans g2).trans g3).trans g4) _ fun c' w H5 ec g5 rw' => ?_
    subst ec
    refine h2 y w H5 (Py.mono (g4.trans g5) ry) rw' Q fun d2 z2 H6 e6 g6 r6 => ?_
    subst e6
    exact q _ z2 H6 rfl ((((g2.trans g3).trans g4).trans g5).trans g6) (by simpa using r6)
  | false => exact q _ _ H4 rfl ((g2.trans g3).trans g4) rfl
theorem ro_lt {i j : Int} : RO (rI0 fun i j => .bl (decide (i < j))) i j (· = decide (i < j)) := ro_I0 fun _ => rfl
theorem ro_le {i j : Int} : RO (rI0 fun i j => .bl (decide (i ≤ j))) i j (· = decide (i ≤ j)) := ro_I0 fun _ => rfl

/-! ### tests -/
theorem et_test {b : Bool} (h : Ev te σ H b) : EvT (tTest te) σ H b := fun H1 e _ q => h H1 e _ fun d v H2 p e2 r => by subst p; exact ⟨d, r, q _ H2 rfl e2⟩
theorem et_B {b : Bool} (h : Ev te σ H b) : EvT (tB te) σ H b := fun H1 e _ q => h H1 e _ fun d v H2 p e2 r => by subst p; exact ⟨d, r, q _ H2 rfl e2⟩
theorem etd_test {P : Bool → Prop} (h : Ed te σ H P) : EdT (tTest te) σ H P := fun H1 e _ q => h H1 e _ fun d v H2 p e2 r => ⟨d, r, q _ H2 p e2⟩
theorem etd_B {P : Bool → Prop} (h : Ed te σ H P) : EdT (tB te) σ H P := fun H1 e _ q => h H1 e _ fun d v H2 p e2 r => ⟨d, r, q _ H2 p e2⟩
theorem et_yes : EvT tYes σ H true := fun H1 _ _ q => q _ H1 rfl (Gr.refl H1)
theorem et_and {a b : Bool} (h1 : EvT t σ H a) (h2 : a = true → EvT u σ H b) : EvT (tAnd t u) σ H (a && b) := fun H1 e Q q => h1 H1 e _ fun a' H2 ea e2 => by
  subst ea
  cases a' with
  | true => exact h2 rfl H2 (e.trans e2) Q fun b' H3 eb e3 => by subst eb; exact q _ H3 rfl (e2.trans e3)
  | false => exact q _ H2 rfl e2
theorem et_or {a b : Bool} (h1 : EvT t σ H a) (h2 : a = false → EvT u σ H b) : EvT (tOr t u) σ H (a || b) := fun H1 e Q q => h1 H1 e _ fun a' H2 ea e2 => by
  subst ea
  cases a' with
  | true => exact q _ H2 rfl e2
  | false => exact h2 rfl H2 (e.trans e2) Q fun b' H3 eb e3 => by subst eb; exact q _ H3 rfl (e2.trans e3)
theorem et_not {a : Bool} (h1 : EvT t σ H a) : EvT (tNot t) σ H (!a) := fun H1 e _ q => h1 H1 e _ fun a' H2 ea e2 => by subst ea; exact q _ H2 rfl e2
theorem etd_and {Pa Pb : Bool → Prop} (h1 : EdT t σ H Pa) (h2 : EdT u σ H Pb) : EdT (tAnd t u) σ H (fun _ => True) := fun H1 e Q q => h1 H1 e _ fun a' H2 ea e2 => by
  cases a' with
  | true => exact h2 H2 (e.trans e2) Q fun b' H3 eb e3 => q _ H3 trivial (e2.trans e3)
  | false => exact q _ H2 trivial e2
theorem ev_andV {a b : Bool} (h1 : Ev ta σ H a) (h2 : a = true → Ev tb σ H b) : Ev (tAndV ta tb) σ H (a && b) := fun H1 e Q q => h1 H1 e _ fun a' v H2 ea e2 r => by
  subst ea
  refine ⟨a', r, ?_⟩
  cases a' with
  | true => exact h2 rfl H2 (e.trans e2) Q fun b' w H3 eb e3 r3 => by subst eb; exact q _ w H3 rfl (e2.trans e3) (by simpa using r3)
  | false => exact q _ _ H2 rfl e2 rfl
theorem ev_orV {a b : Bool} (h1 : Ev ta σ H a) (h2 : a = false → Ev tb σ H b) : Ev (tOrV ta tb) σ H (a || b) := fun H1 e Q q => h1 H1 e _ fun a' v H2 ea e2 r => by
  subst ea
  refine ⟨a', r, ?_⟩
  cases a' with
  | true => exact q _ _ H2 rfl e2 rfl
  | false => exact h2 rfl H2 (e.trans e2) Q fun b' w H3 eb e3 r3 => by subst eb; exact q _ w H3 rfl (e2.trans e3) (by simpa using r3)
theorem ev_if {α : Type} [Py α] {b : Bool} {x y : α} (h : EvT t σ H b) (h1 : b = true → Ev ta σ H x) (h2 : b = false → Ev tb σ H y) : Ev (tIf t ta tb) σ H (if b = true then x else y) := fun H1 e Q q => h H1 e _ fun b' H2 eb e2 => by
  subst eb
  cases b' with
  | true => exact h1 rfl H2 (e.trans e2) Q fun d v H3 p e3 r => q d v H3 (by rw [p]; rfl) (e2.trans e3) r
  | false => exact h2 rfl H2 (e.trans e2) Q fun d v H3 p e3 r => q d v H3 (by rw [p]; rfl) (e2.trans e3) r
theorem ed_if {α : Type} [Py α] {b : Bool} {P : α → Prop} (h : EvT t σ H b) (h1 : b = true → Ed ta σ H P) (h2 : b = false → Ed tb σ H P) : Ed (tIf t ta tb) σ H P := fun H1 e Q q => h H1 e _ fun b' H2 eb e2 => by
  subst eb
  cases b' with
  | true => exact h1 rfl H2 (e.trans e2) Q fun d v H3 p e3 r => q d v H3 p (e2.trans e3) r
  | false => exact h2 rfl H2 (e.trans e2) Q fun d v H3 p e3 r => q d v H3 p (e2.trans e3) r

/-! ### arguments -/
theorem ea_nil : EvA tNil σ H (fun vs _ => vs = []) := fun H1 _ _ q => q [] H1 (Gr.refl H1) rfl
theorem ea_cons {α : Type} [Py α] {P : α → Prop} {tr : TA} {R : List V → Hp → Prop} (h : Ed te σ H P) (hr : EvA tr σ H R) : EvA (tCons te tr) σ H (fun vs H' => ∃ v ws d, vs = v :: ws ∧ P d ∧ Py.rep d v H' ∧ R ws H') := fun H1 e Q q =>
  h H1 e _ fun d v H2 p e2 r => hr H2 (e.trans e2) _ fun ws H3 e3 rr => q _ H3 (e2.trans e3) ⟨v, ws, d, rfl, p, Py.mono e3 r, rr⟩
theorem ea_1 {α : Type} [Py α] {P : α → Prop} (h : Ed te σ H P) : EvA (tCons te tNil) σ H (fun vs H' => ∃ v d, vs = [v] ∧ P d ∧ Py.rep d v H') := fun H1 e Q q =>
  h H1 e _ fun d v H2 p e2 r => q _ H2 e2 ⟨v, d, rfl, p, r⟩
theorem ea_2 {α β : Type} [Py α] [Py β] {P : α → Prop} {P' : β → Prop} (h : Ed ta σ H P) (h' : Ed tb σ H P') : EvA (tCons ta (tCons tb tNil)) σ H (fun vs H' => ∃ v w d d', vs = [v, w] ∧ P d ∧ P' d' ∧ Py.rep d v H' ∧ Py.rep d' w H') := fun H1 e Q q =>
  h H1 e _ fun d v H2 p e2 r => h' H2 (e.trans e2) _ fun d' w H3 p' e3 r' => q _ H3 (e2.trans e3) ⟨v, w, d, d', rfl, p, p', Py.mono e3 r, r'⟩
/-- a tuple of items of one kind -/
def AllI {α : Type} [Py α] (ds : List α) (vs : List V) (H : Hp) : Prop := RL (fun d v => Py.rep d v H) ds vs
theorem eal_nil {α : Type} [Py α] : EvA tNil σ H (AllI ([] : List α)) := fun H1 _ _ q => q [] H1 (Gr.refl H1) RL.nil
theorem eal_cons {α : Type} [Py α] {d : α} {ds : List α} {tr : TA} (h : Ev te σ H d) (hr : EvA tr σ H (AllI ds)) : EvA (tCons te tr) σ H (AllI (d :: ds)) := fun H1 e Q q =>
  h H1 e _ fun d' v H2 p e2 r => hr H2 (e.trans e2) _ fun ws H3 e3 rr => by subst p; exact q _ H3 (e2.trans e3) (rr.cons (Py.mono e3 r))
theorem ev_tup {α : Type} [PyI α] {ds : List α} {tr : TA} (h : EvA tr σ H (AllI ds)) (hl : ds.length ≤ 100000) : Ev (tTup tr) σ H ds := fun H1 e Q q =>
  h H1 e _ fun vs H2 e2 r => ⟨by rw [← r.1]; exact Nat.le_trans hl (by decide), fun p hp => q ds _ _ rfl (e2.trans (Gr.new hp)) ⟨p, vs, rfl, upd_same, r.mono fun _ _ z => Py.mono (Gr.new hp) z⟩⟩
theorem ev_lst {α : Type} [Py α] {ds : List α} {tr : TA} (h : EvA tr σ H (AllI ds)) (hl : ds.length ≤ 100000) : Ev (tLst tr) σ H (Ls.mk ds) := fun H1 e Q q =>
  h H1 e _ fun vs H2 e2 r => ⟨by rw [← r.1]; exact Nat.le_trans hl (by decide), fun p hp => q _ _ _ rfl (e2.trans (Gr.new hp)) ⟨p, vs, rfl, upd_same, r.mono fun _ _ z => Py.mono (Gr.new hp) z⟩⟩
theorem ed_pair {α β : Type} [PyI α] [PyI β] {P : α → Prop} {P' : β → Prop} (h : Ed ta σ H P) (h' : Ed tb σ H P') : Ed (tTup (tCons ta (tCons tb tNil))) σ H (fun d : α × β => P d.1 ∧ P' d.2) := fun H1 e Q q =>
  ea_2 h h' H1 e _ fun vs H2 e2 ⟨v, w, d, d', ev, p, p', r, r'⟩ => by
    subst ev
    exact ⟨by show 2 ≤ sizeLine; decide, fun p0 hp => q (d, d') _ _ ⟨p, p'⟩ (e2.trans (Gr.new hp)) ⟨p0, v, w, rfl, upd_same, Py.mono (Gr.new hp) r, Py.mono (Gr.new hp) r'⟩⟩
theorem ev_pair {α β : Type} [PyI α] [PyI β] {a : α} {b : β} (h : Ev ta σ H a) (h' : Ev tb σ H b) : Ev (tTup (tCons ta (tCons tb tNil))) σ H (a, b) := (ed_pair h h').imp fun d h => Prod.ext h.1 h.2
theorem eo_none : EvO tNoPart σ H none := fun H1 _ _ q => q H1 (Gr.refl H1)
theorem eo_some {i : Int} (h : Ev te σ H i) : EvO (tPart te) σ H (some i) := fun H1 e _ q => h H1 e _ fun d v H2 p e2 r => by subst p; exact ⟨d, r, q H2 e2⟩

/-! ### built-ins by values -/
def RC {α γ : Type} [Py α] [Py γ] (r : List V → Hp → VK → Prop) (a : α) (P : γ → Prop) : Prop := ∀ (x : V) (H : Hp), Py.rep a x H → ∀ Q : VK, (∀ d v H2, P d → Gr H H2 → Py.rep d v H2 → Q v H2) → r [x] H Q
theorem ed_cb1 {α γ : Type} [Py α] [Py γ] {r : List V → Hp → VK → Prop} {P : α → Prop} {P' : γ → Prop} (h : Ed te σ H P) (hr : ∀ a, P a → RC r a P') : Ed (tCB r (tCons te tNil)) σ H P' := fun H1 e Q q =>
  h H1 e _ fun d v H2 p e2 rv => hr d p v H2 rv Q fun d' v' H3 p' e3 r3 => q d' v' H3 p' (e2.trans e3) r3
theorem ev_cb1 {α γ : Type} [Py α] [Py γ] {r : List V → Hp → VK → Prop} {a : α} {c : γ} (h : Ev te σ H a) (hr : RC r a (· = c)) : Ev (tCB r (tCons te tNil)) σ H c := ed_cb1 h fun a' e => by rw [e]; exact hr
def RC2 {α β γ : Type} [Py α] [Py β] [Py γ] (r : List V → Hp → VK → Prop) (a : α) (b : β) (P : γ → Prop) : Prop := ∀ (x y : V) (H : Hp), Py.rep a x H → Py.rep b y H → ∀ Q : VK, (∀ d v H2, P d → Gr H H2 → Py.rep d v H2 → Q v H2) → r [x, y] H Q
theorem ed_cb2 {α β γ : Type} [Py α] [Py β] [Py γ] {r : List V → Hp → VK → Prop} {Pa : α → Prop} {Pb : β → Prop} {P' : γ → Prop} (h : Ed ta σ H Pa) (h' : Ed tb σ H Pb) (hr : ∀ a b, Pa a → Pb b → RC2 r a b P') : Ed (tCB r (tCons ta (tCons tb tNil))) σ H P' := fun H1 e Q q =>
  h H1 e _ fun d v H2 p e2 rv => h' H2 (e.trans e2) _ fun d' v' H3 p' e3 r3 => hr d d' p p' v v' H3 (Py.mono e3 rv) r3 Q fun d2 v2 H4 p2 e4 r4 => q d2 v2 H4 p2 ((e2.trans e3).trans e4) r4
theorem ev_cb2 {α β γ : Type} [Py α] [Py β] [Py γ] {r : List V → Hp → VK → Prop} {a : α} {b : β} {c : γ} (h : Ev ta σ H a) (h' : Ev tb σ H b) (hr : RC2 r a b (· = c)) : Ev (tCB r (tCons ta (tCons tb tNil))) σ H c := ed_cb2 h h' fun a' b' e e' => by rw [e, e']; exact hr
theorem sqL_of {α : Type} [Py α] {l : List α} {v : V} {H : Hp} (h : Py.rep (Ls.mk l) v H) : ∃ p xs, v = .ref p ∧ H p = some (.lst xs) ∧ RL (fun a x => Py.rep a x H) l xs := h
theorem ints_of {l : List Int} {xs : List V} {H : Hp} (h : RL (fun (a : Int) x => Py.rep a x H) l xs) : xs = l.map V.int := RL.eq_map h
theorem bools_of {l : List Bool} {xs : List V} {H : Hp} (h : RL (fun (a : Bool) x => Py.rep a x H) l xs) : xs = l.map V.bl := RL.eq_map h
theorem of_ints {l : List Int} {H : Hp} : RL (fun (a : Int) x => Py.rep a x H) l (l.map V.int) := RL.map fun _ _ => rfl
theorem rc_all {K : PySem.W.Frag} {l : List Bool} : RC (rAll K) (Ls.mk l) (· = l.all id) := fun x H ⟨p, xs, e, hp, r⟩ Q q => ⟨p, l, by rw [e], .of (by rw [hp, bools_of r]), q _ _ H rfl (Gr.refl H) rfl⟩
theorem rc_any {K : PySem.W.Frag} {l : List Bool} : RC (rAny K) (Ls.mk l) (· = l.any id) := fun x H ⟨p, xs, e, hp, r⟩ Q q => ⟨p, l, by rw [e], .of (by rw [hp, bools_of r]), q _ _ H rfl (Gr.refl H) rfl⟩
theorem ev_all {l : List Bool} (h : Ev te σ H (Ls.mk l)) : Ev (tCB (rAll K) (tCons te tNil)) σ H (l.all id) := ev_cb1 h rc_all
theorem ev_any {l : List Bool} (h : Ev te σ H (Ls.mk l)) : Ev (tCB (rAny K) (tCons te tNil)) σ H (l.any id) := ev_cb1 h rc_any
abbrev rLenA (K : PySem.W.Frag) : List V → Hp → VK → Prop := fun xs H Q => ∃ x n, xs = [x] ∧ LenV K x H n ∧ Q (.int n) H
theorem rc_lenL {α : Type} [Py α] {K : PySem.W.Frag} {l : List α} : RC (rLenA K) (Ls.mk l) (· = (l.length : Int)) := fun x H ⟨p, xs, e, hp, r⟩ Q q => ⟨x, l.length, rfl, by rw [e]; exact .inl ⟨xs, .of hp, r.1⟩, q _ _ H rfl (Gr.refl H) rfl⟩
theorem rc_lenT {α : Type} [PyI α] {K : PySem.W.Frag} {l : List α} : RC (rLenA K) l (· = (l.length : Int)) := fun x H ⟨p, xs, e, hp, r⟩ Q q => ⟨x, l.length, rfl, by rw [e]; exact .inr ⟨xs, .of hp, r.1⟩, q _ _ H rfl (Gr.refl H) rfl⟩
theorem rc_lenS {K : PySem.W.Frag} {s : Str} (hs : s.length ≤ 100000) : RC (rLenA K) s (· = (s.length : Int)) := fun x H e Q q => ⟨x, s.length, rfl, by rw [show x = V.str s from e]; exact ⟨Nat.le_trans hs (by decide), rfl⟩, q _ _ H rfl (Gr.refl H) rfl⟩
theorem ev_lenL {α : Type} [Py α] {l : List α} (h : Ev te σ H (Ls.mk l)) : Ev (tCB (rLenA K) (tCons te tNil)) σ H (l.length : Int) := ev_cb1 h rc_lenL
theorem ev_lenT {α : Type} [PyI α] {l : List α} (h : Ev te σ H l) : Ev (tCB (rLenA K) (tCons te tNil)) σ H (l.length : Int) := ev_cb1 h rc_lenT
theorem ev_lenS {s : Str} (h : Ev te σ H s) (hs : s.length ≤ 100000) : Ev (tCB (rLenA K) (tCons te tNil)) σ H (s.length : Int) := ev_cb1 h (rc_lenS hs)
end
end Zw
/-! Z3: subscripts, slices, comprehensions, calls, statements, loops. -/
namespace Zw
open PySem L2 RZ

theorem RL.atI {α : Type} {R : α → V → Prop} {ds : List α} {xs : List V} (h : RL R ds xs) {i : Int} {d : α} (e : L2.atI ds i = some d) : ∃ x, L2.atI xs i = some x ∧ R d x := by
  unfold L2.atI at e ⊢
  rw [← h.1]
  cases q : ixN ds.length i with
  | none => rw [q] at e; cases e
  | some j => rw [q] at e; exact h.get e
def cutL {α : Type} (xs : List α) (lo hi : Option Int) : List α := (xs.drop (HT.sIx xs.length 0 lo)).take (HT.sIx xs.length xs.length hi - HT.sIx xs.length 0 lo)
theorem RL.cut {α : Type} {R : α → V → Prop} {ds : List α} {xs : List V} (h : RL R ds xs) (lo hi : Option Int) : RL R (cutL ds lo hi) (cutV xs lo hi) := by
  unfold cutL cutV
  rw [← h.1]
  exact (h.drop _).take _
theorem cutL_whole {α : Type} {xs : List α} {lo hi : Option Int} (h : HT.sIx xs.length 0 lo = 0 ∧ HT.sIx xs.length xs.length hi = xs.length) : cutL xs lo hi = xs := by
  unfold cutL
  rw [h.1, h.2]
  simp

section
variable {K : PySem.W.Frag} {σ : L2.St} {H H' : Hp} {ta tb tc te tl : TE} {t u tt : TT} {α β γ : Type}

/-! ### subscripts -/
theorem ed_ixT [PyI α] {ds : List α} {Pi : Int → Prop} {P : α → Prop} (h : Ev ta σ H ds) (hi : Ed tb σ H Pi) (e : ∀ i, Pi i → ∃ d, L2.atI ds i = some d ∧ P d) : Ed (tOp (rIxT K) ta tb) σ H P := ed_op h hi fun ds' i e1 pi x y H2 ⟨p, xs, ex, hp, r⟩ ry Q q => by
  subst e1
  obtain ⟨d, ed, pd⟩ := e i pi
  obtain ⟨z, ez, rz⟩ := r.atI ed
  exact ⟨p, xs, i, z, ex, ry, .of hp, ez, q d z H2 pd (Gr.refl H2) rz⟩
theorem ev_ixT [PyI α] {ds : List α} {i : Int} {d : α} (h : Ev ta σ H ds) (hi : Ev tb σ H i) (e : L2.atI ds i = some d) : Ev (tOp (rIxT K) ta tb) σ H d := ed_ixT h hi fun i' e' => ⟨d, by rw [e']; exact e, rfl⟩
theorem ed_ixL [Py α] {ds : List α} {Pi : Int → Prop} {P : α → Prop} (h : Ev ta σ H (Ls.mk ds)) (hi : Ed tb σ H Pi) (e : ∀ i, Pi i → ∃ d, L2.atI ds i = some d ∧ P d) : Ed (tOp (rIxL K) ta tb) σ H P := ed_op h hi fun ds' i e1 pi x y H2 ⟨p, xs, ex, hp, r⟩ ry Q q => by
  subst e1
  obtain ⟨d, ed, pd⟩ := e i pi
  obtain ⟨z, ez, rz⟩ := r.atI ed
  exact ⟨p, xs, i, z, ex, ry, .of hp, ez, q d z H2 pd (Gr.refl H2) rz⟩
theorem ev_ixL [Py α] {ds : List α} {i : Int} {d : α} (h : Ev ta σ H (Ls.mk ds)) (hi : Ev tb σ H i) (e : L2.atI ds i = some d) : Ev (tOp (rIxL K) ta tb) σ H d := ed_ixL h hi fun i' e' => ⟨d, by rw [e']; exact e, rfl⟩
theorem ev_fst [PyI α] [PyI β] {d : α × β} (h : Ev ta σ H d) : Ev (tOp (rIxT K) ta (tC (.int 0))) σ H d.1 := fun H1 g Q q => h H1 g _ fun d' v H2 e g2 ⟨p, x, y, ev, hp, r1, r2⟩ => by
  subst e
  exact ⟨p, _, 0, x, ev, rfl, .of hp, rfl, q _ x H2 rfl g2 r1⟩
theorem ev_snd [PyI α] [PyI β] {d : α × β} (h : Ev ta σ H d) : Ev (tOp (rIxT K) ta (tC (.int 1))) σ H d.2 := fun H1 g Q q => h H1 g _ fun d' v H2 e g2 ⟨p, x, y, ev, hp, r1, r2⟩ => by
  subst e
  exact ⟨p, _, 1, y, ev, rfl, .of hp, rfl, q _ y H2 rfl g2 r2⟩
theorem ev_slT [PyI α] {ds : List α} {lo hi : Option Int} {to th : TO} (h : Ev te σ H ds) (h1 : EvO to σ H lo) (h2 : EvO th σ H hi) : Ev (tSl (rSlA K) te to th) σ H (cutL ds lo hi) := fun H1 e Q q =>
  h H1 e _ fun d v H2 p e2 ⟨a, xs, ev, ha, r⟩ => h1 H2 (e.trans e2) _ fun H3 e3 => h2 H3 ((e.trans e2).trans e3) _ fun H4 e4 => by
    subst p
    have e24 := e3.trans e4
    refine ⟨a, xs, ev, .of (e24.tup _ _ ha), fun hw => ?_, fun _ p hp => ?_⟩
    · rw [← r.1] at hw
      exact q _ _ H4 (cutL_whole hw).symm (e2.trans e24) ⟨a, xs, rfl, e24.tup _ _ ha, r.mono fun _ _ z => PyI.keep e24.tup z⟩
    · exact q _ _ _ rfl ((e2.trans e24).trans (Gr.new hp)) ⟨p, _, rfl, upd_same, (r.cut lo hi).mono fun _ _ z => PyI.keep (e24.tup.trans (TupK.new hp)) z⟩
theorem ev_slL [PyI α] {ds : List α} {lo hi : Option Int} {to th : TO} (h : Ev te σ H (Ls.mk ds)) (h1 : EvO to σ H lo) (h2 : EvO th σ H hi) : Ev (tSl (rSlL K) te to th) σ H (Ls.mk (cutL ds lo hi)) := fun H1 e Q q =>
  h H1 e _ fun d v H2 p e2 ⟨a, xs, ev, ha, r⟩ => h1 H2 (e.trans e2) _ fun H3 e3 => h2 H3 ((e.trans e2).trans e3) _ fun H4 e4 => by
    subst p
    have e24 := e3.trans e4
    exact ⟨a, xs, ev, .of (e24.lst ha), fun p hp => q _ _ _ rfl ((e2.trans e24).trans (Gr.new hp)) ⟨p, _, rfl, upd_same, (r.cut lo hi).mono fun _ _ z => PyI.keep (e24.tup.trans (TupK.new hp)) z⟩⟩
/-- t + u of tuples -/
theorem ro_catT [PyI α] {a b : List α} (hz : a.length + b.length ≤ 100000) : RO (rCatA K) a b (· = a ++ b) := fun x y H ⟨p, xs, e, hp, r⟩ ⟨p', xs', e', hp', r'⟩ Q q => by
  refine ⟨p, p', xs, xs', e, e', .of hp, .of hp', by rw [← r.1, ← r'.1]; exact Nat.le_trans hz (by decide), fun h0 => ?_, fun h0 h1 => ?_, fun _ _ p0 hp0 => ?_⟩
  · have ea : a = [] := by have := r.1; rw [h0] at this; exact List.eq_nil_of_length_eq_zero this
    exact q _ _ H (by rw [ea]; rfl) (Gr.refl H) ⟨p', xs', rfl, hp', r'⟩
  · have eb : b = [] := by have := r'.1; rw [h1] at this; exact List.eq_nil_of_length_eq_zero this
    exact q _ _ H (by rw [eb, List.append_nil]) (Gr.refl H) ⟨p, xs, rfl, hp, r⟩
  · exact q _ _ _ rfl (Gr.new hp0) ⟨p0, _, rfl, upd_same, (r.append r').mono fun _ _ z => PyI.keep (TupK.new hp0) z⟩
theorem ev_catT [PyI α] {a b : List α} (ha : Ev ta σ H a) (hb : Ev tb σ H b) (hz : a.length + b.length ≤ 100000) : Ev (tOp (rCatA K) ta tb) σ H (a ++ b) := ev_op ha hb (ro_catT hz)
theorem ro_catL [PyI α] {a b : List α} (hz : a.length + b.length ≤ 100000) : RO rCat (Ls.mk a) (Ls.mk b) (· = Ls.mk (a ++ b)) := fun x y H ⟨p, xs, e, hp, r⟩ ⟨p', xs', e', hp', r'⟩ Q q =>
  ⟨p, p', xs, xs', e, e', hp, hp', by rw [← r.1, ← r'.1]; exact Nat.le_trans hz (by decide), fun p0 hp0 => q _ _ _ rfl (Gr.new hp0) ⟨p0, _, rfl, upd_same, (r.append r').mono fun _ _ z => PyI.keep (TupK.new hp0) z⟩⟩
theorem ev_catL [PyI α] {a b : List α} (ha : Ev ta σ H (Ls.mk a)) (hb : Ev tb σ H (Ls.mk b)) (hz : a.length + b.length ≤ 100000) : Ev (tOp rCat ta tb) σ H (Ls.mk (a ++ b)) := ev_op ha hb (ro_catL hz)
/-- tuple(xs), list(xs) -/
abbrev rTupOf (K : PySem.W.Frag) : List V → Hp → VK → Prop := fun xs H Q => ∃ p ys, xs = [.ref p] ∧ ((SqL K H p ys ∧ ∀ l, H l = none → Q (.ref l) (upd H l (.tup ys))) ∨ (SqT K H p ys ∧ Q (.ref p) H))
abbrev rLstOf (K : PySem.W.Frag) : List V → Hp → VK → Prop := fun xs H Q => ∃ p ys, xs = [.ref p] ∧ (SqL K H p ys ∨ SqT K H p ys) ∧ ∀ l, H l = none → Q (.ref l) (upd H l (.lst ys))
theorem rc_tupL [PyI α] {a : List α} : RC (rTupOf K) (Ls.mk a) (· = a) := fun x H ⟨p, xs, e, hp, r⟩ Q q => ⟨p, xs, by rw [e], .inl ⟨.of hp, fun l hl => q _ _ _ rfl (Gr.new hl) ⟨l, xs, rfl, upd_same, r.mono fun _ _ z => PyI.keep (TupK.new hl) z⟩⟩⟩
theorem rc_tupT [PyI α] {a : List α} : RC (rTupOf K) a (· = a) := fun x H ⟨p, xs, e, hp, r⟩ Q q => ⟨p, xs, by rw [e], .inr ⟨.of hp, q _ _ _ rfl (Gr.refl H) ⟨p, xs, rfl, hp, r⟩⟩⟩
theorem rc_lstL [PyI α] {a : List α} : RC (rLstOf K) (Ls.mk a) (· = Ls.mk a) := fun x H ⟨p, xs, e, hp, r⟩ Q q => ⟨p, xs, by rw [e], .inl (.of hp), fun l hl => q _ _ _ rfl (Gr.new hl) ⟨l, xs, rfl, upd_same, r.mono fun _ _ z => PyI.keep (TupK.new hl) z⟩⟩
theorem rc_lstT [PyI α] {a : List α} : RC (rLstOf K) a (· = Ls.mk a) := fun x H ⟨p, xs, e, hp, r⟩ Q q => ⟨p, xs, by rw [e], .inr (.of hp), fun l hl => q _ _ _ rfl (Gr.new hl) ⟨l, xs, rfl, upd_same, r.mono fun _ _ z => PyI.keep (TupK.new hl) z⟩⟩
theorem ev_tupL [PyI α] {a : List α} (h : Ev te σ H (Ls.mk a)) : Ev (tCB (rTupOf K) (tCons te tNil)) σ H a := ev_cb1 h rc_tupL
theorem ev_tupT [PyI α] {a : List α} (h : Ev te σ H a) : Ev (tCB (rTupOf K) (tCons te tNil)) σ H a := ev_cb1 h rc_tupT
theorem ev_lstL [PyI α] {a : List α} (h : Ev te σ H (Ls.mk a)) : Ev (tCB (rLstOf K) (tCons te tNil)) σ H (Ls.mk a) := ev_cb1 h rc_lstL
theorem ev_lstT [PyI α] {a : List α} (h : Ev te σ H a) : Ev (tCB (rLstOf K) (tCons te tNil)) σ H (Ls.mk a) := ev_cb1 h rc_lstT

/-! ### what is walked -/
/-- S: what must stand of the source; ds: what is yielded -/
structure Wk [Py α] (J : It) (ds : List α) (S : Hp → Prop) : Prop where
  stop : ∀ H, S H → J.stop ds.length H
  go : ∀ H, S H → ∀ i d, ds[i]? = some d → J.go i H ∧ ∀ x H', J.yld i H x H' → Gr H H' ∧ Py.rep d x H'
/-- a source that stands while tuples stand -/
def SrcT [Py α] (wi : TI) (σ : L2.St) (H : Hp) (ds : List α) : Prop := ∀ H1, Gr H H1 → ∀ R : It → Hp → Prop, (∀ J H2, Gr H1 H2 → Wk J ds (TupK H2) → R J H2) → wi σ H1 R
/-- a list -/
def SrcL [Py α] (wi : TI) (σ : L2.St) (H : Hp) (ds : List α) : Prop := ∀ H1, Gr H H1 → ∀ R : It → Hp → Prop, (∀ J H2 a xs, Gr H1 H2 → H2 a = some (.lst xs) → Wk J ds (fun H3 => H3 a = some (.lst xs) ∧ TupK H2 H3) → R J H2) → wi σ H1 R
/-- while the heap grows only -/
def Src [Py α] (wi : TI) (σ : L2.St) (H : Hp) (ds : List α) : Prop := ∀ H1, Gr H H1 → ∀ R : It → Hp → Prop, (∀ J H2, Gr H1 H2 → Wk J ds (Gr H2) → R J H2) → wi σ H1 R
theorem Wk.imp [Py α] {J : It} {ds : List α} {S S' : Hp → Prop} (w : Wk J ds S) (i : ∀ H, S' H → S H) : Wk J ds S' := ⟨fun H h => w.stop H (i H h), fun H h => w.go H (i H h)⟩
theorem SrcT.src [Py α] {wi : TI} {ds : List α} (h : SrcT wi σ H ds) : Src wi σ H ds := fun H1 g R r => h H1 g R fun J H2 g2 w => r J H2 g2 (w.imp fun _ z => z.tup)
theorem SrcL.src [Py α] {wi : TI} {ds : List α} (h : SrcL wi σ H ds) : Src wi σ H ds := fun H1 g R r => h H1 g R fun J H2 a xs g2 ha w => r J H2 g2 (w.imp fun _ z => ⟨z.lst ha, z.tup⟩)
theorem src_tup [PyI α] {ds : List α} (h : Ev tl σ H ds) : SrcT (iTup K tl) σ H ds := fun H1 g R r => h H1 g _ fun d v H2 e g2 ⟨p, xs, ev, hp, rl⟩ => by
  subst e
  refine ⟨p, ev, ⟨xs, .of hp⟩, r _ H2 g2 ⟨fun H3 k => ⟨xs, .of (k _ _ hp), by rw [rl.1]; exact Nat.le_refl _⟩, fun H3 k i d' hd => ?_⟩⟩
  obtain ⟨x, hx, rx⟩ := rl.get hd
  refine ⟨⟨xs, x, .of (k _ _ hp), hx⟩, fun y H4 hy => ?_⟩
  obtain ⟨e4, hy⟩ := hy
  subst e4
  have e5 := hy xs (.of (k _ _ hp))
  rw [hx] at e5
  cases e5
  exact ⟨Gr.refl _, PyI.keep k rx⟩
theorem src_lst [PyI α] {ds : List α} (h : Ev tl σ H (Ls.mk ds)) : SrcL (iList K tl) σ H ds := fun H1 g R r => h H1 g _ fun d v H2 e g2 ⟨p, xs, ev, hp, rl⟩ => by
  subst e
  refine ⟨p, ev, ⟨xs, .of hp⟩, r _ H2 p xs g2 hp ⟨fun H3 k => ⟨xs, .of k.1, by rw [rl.1]; exact Nat.le_refl _⟩, fun H3 k i d' hd => ?_⟩⟩
  obtain ⟨x, hx, rx⟩ := rl.get hd
  refine ⟨⟨xs, x, .of k.1, hx⟩, fun y H4 hy => ?_⟩
  obtain ⟨e4, hy⟩ := hy
  subst e4
  have e5 := hy xs (.of k.1)
  rw [hx] at e5
  cases e5
  exact ⟨Gr.refl _, PyI.keep k.2 rx⟩
def rngI (lo : Int) (n : Nat) : List Int := (List.range n).map fun (i : Nat) => lo + (i : Int)
theorem rngI_length (lo : Int) (n : Nat) : (rngI lo n).length = n := by unfold rngI; simp
theorem rngI_get {lo : Int} {n i : Nat} {d : Int} (h : (rngI lo n)[i]? = some d) : i < n ∧ d = lo + i := by
  unfold rngI at h
  rw [List.getElem?_map] at h
  by_cases hi : i < n
  · rw [List.getElem?_range hi] at h
    simp at h
    exact ⟨hi, h.symm⟩
  · rw [List.getElem?_eq_none (by simp; omega)] at h
    cases h
theorem mem_rngI {lo : Int} {n : Nat} {d : Int} : d ∈ rngI lo n ↔ lo ≤ d ∧ d < lo + n := by
  unfold rngI
  rw [List.mem_map]
  constructor
  · rintro ⟨i, hi, rfl⟩
    have := List.mem_range.mp hi
    omega
  · rintro ⟨h1, h2⟩
    exact ⟨(d - lo).toNat, List.mem_range.mpr (by omega), by omega⟩
theorem wk_rng {lo : Int} {n : Nat} {S : Hp → Prop} : Wk (Itr lo n) (rngI lo n) S :=
  ⟨fun H _ => by rw [rngI_length]; exact Nat.le_refl n, fun H _ i d hd => by
    obtain ⟨hi, rfl⟩ := rngI_get hd
    exact ⟨hi, fun x H' ⟨e, ex⟩ => by subst e; exact ⟨Gr.refl _, ex⟩⟩⟩
theorem src_rng1 {n : Int} (h : Ev te σ H n) (hn : -100000 ≤ n ∧ n ≤ 100000) : SrcT (iRng1 (tCons te tNil)) σ H (rngI 0 n.toNat) := fun H1 g R r => ea_1 h H1 g _ fun vs H2 g2 ⟨v, d, ev, pd, rd⟩ => by
  subst ev pd
  exact ⟨d, by rw [show v = V.int d from rd], by omega, by omega, r _ H2 g2 wk_rng⟩
theorem src_rng2 {lo n : Int} (h0 : Ev ta σ H lo) (h : Ev te σ H n) (hn : -100000 ≤ lo ∧ lo ≤ 100000 ∧ -100000 ≤ n ∧ n ≤ 100000) : SrcT (iRng2 (tCons ta (tCons te tNil))) σ H (rngI lo (n - lo).toNat) := fun H1 g R r => ea_2 h0 h H1 g _ fun vs H2 g2 ⟨v, w, d, d', ev, pd, pd', rd, rd'⟩ => by
  subst ev pd pd'
  exact ⟨d, d', by rw [show v = V.int d from rd, show w = V.int d' from rd'], ⟨by omega, by omega, by omega, by omega⟩, r _ H2 g2 wk_rng⟩
/-- zip of two tuples; of two lists -/
theorem src_zipT [PyI α] [PyI β] {ds : List α} {es : List β} (h : Ev ta σ H ds) (h' : Ev tb σ H es) : SrcT (iZipA K (tCons ta (tCons tb tNil))) σ H (ds.zip es) := fun H1 g R r => ea_2 h h' H1 g _ fun vs H2 g2 ⟨v, w, d, d', ev, pd, pd', ⟨a, xs, e1, ha, r1⟩, ⟨b, ys, e2, hb, r2⟩⟩ => by
  subst ev pd pd'
  refine ⟨a, b, xs, ys, by rw [e1, e2], .inr ⟨.of ha, .of hb, r _ H2 g2 ⟨fun H3 k => ⟨xs, ys, .of (k _ _ ha), .of (k _ _ hb), ?_⟩, fun H3 k i z hz => ?_⟩⟩⟩
  · rw [List.length_zip, r1.1, r2.1]
    by_cases hl : xs.length ≤ ys.length
    · exact .inl (by omega)
    · exact .inr (by omega)
  · obtain ⟨z1, z2⟩ := z
    obtain ⟨hd1, hd2⟩ := List.getElem?_zip_eq_some.mp hz
    obtain ⟨x, hx, rx⟩ := r1.get hd1
    obtain ⟨y, hy, ry⟩ := r2.get hd2
    refine ⟨⟨xs, ys, x, y, .of (k _ _ ha), .of (k _ _ hb), hx, hy⟩, fun v' H4 hv => ?_⟩
    obtain ⟨T, x', y', ev', hT, e4, hx', hy'⟩ := hv
    have q1 := hx' xs (.of (k _ _ ha))
    have q2 := hy' ys (.of (k _ _ hb))
    rw [hx] at q1
    rw [hy] at q2
    cases q1
    cases q2
    subst e4
    exact ⟨Gr.new hT, T, x, y, ev', upd_same, PyI.keep (k.trans (TupK.new hT)) rx, PyI.keep (k.trans (TupK.new hT)) ry⟩
theorem src_zipL [PyI α] [PyI β] {ds : List α} {es : List β} (h : Ev ta σ H (Ls.mk ds)) (h' : Ev tb σ H (Ls.mk es)) : Src (iZipA K (tCons ta (tCons tb tNil))) σ H (ds.zip es) := fun H1 g R r => ea_2 h h' H1 g _ fun vs H2 g2 ⟨v, w, d, d', ev, pd, pd', ⟨a, xs, e1, ha, r1⟩, ⟨b, ys, e2, hb, r2⟩⟩ => by
  subst ev pd pd'
  refine ⟨a, b, xs, ys, by rw [e1, e2], .inl ⟨.of ha, .of hb, r _ H2 g2 ⟨fun H3 k => ⟨xs, ys, .of (k.lst ha), .of (k.lst hb), ?_⟩, fun H3 k i z hz => ?_⟩⟩⟩
  · rw [List.length_zip, r1.1, r2.1]
    by_cases hl : xs.length ≤ ys.length
    · exact .inl (by omega)
    · exact .inr (by omega)
  · obtain ⟨z1, z2⟩ := z
    obtain ⟨hd1, hd2⟩ := List.getElem?_zip_eq_some.mp hz
    obtain ⟨x, hx, rx⟩ := r1.get hd1
    obtain ⟨y, hy, ry⟩ := r2.get hd2
    refine ⟨⟨xs, ys, x, y, .of (k.lst ha), .of (k.lst hb), hx, hy⟩, fun v' H4 hv => ?_⟩
    obtain ⟨T, x', y', ev', hT, e4, hx', hy'⟩ := hv
    have q1 := hx' xs (.of (k.lst ha))
    have q2 := hy' ys (.of (k.lst hb))
    rw [hx] at q1
    rw [hy] at q2
    cases q1
    cases q2
    subst e4
    exact ⟨Gr.new hT, T, x, y, ev', upd_same, PyI.keep (k.tup.trans (TupK.new hT)) rx, PyI.keep (k.tup.trans (TupK.new hT)) ry⟩
/-- the signs of a text -/
def signsL (x : Str) : List Str := x.cps.toList.map fun c => ⟨#[c]⟩
theorem src_str {x : Str} (h : Ev te σ H x) : SrcT (iStr te) σ H (signsL x) := fun H1 g R r => h H1 g _ fun d v H2 e g2 rv => by
  subst e
  refine ⟨d, rv, r _ H2 g2 ⟨fun H3 _ => by unfold signsL; show d.cps.size ≤ _; simp, fun H3 k i z hz => ?_⟩⟩
  unfold signsL at hz
  rw [List.getElem?_map] at hz
  have hz' : (d.cps[i]?).map (fun c => (⟨#[c]⟩ : Str)) = some z := by simpa using hz
  cases q : d.cps[i]? with
  | none => rw [q] at hz'; cases hz'
  | some c =>
    rw [q] at hz'
    simp at hz'
    subst hz'
    refine ⟨?_, fun x H4 ⟨e, c', hc, ex⟩ => ?_⟩
    · show i < d.cps.size
      exact (Array.getElem?_eq_some_iff.mp q).1
    · subst e
      rw [q] at hc
      cases hc
      exact ⟨Gr.refl _, ex⟩

/-! ### comprehensions -/
def SlotN [Py α] (σw : L2.St) (j : Nat) (d : α) (σ2 : L2.St) (H : Hp) : Prop := ∃ x, σ2 = σw.set j (some x) ∧ Py.rep d x H
def SlotP [Py α] [Py β] (σw : L2.St) (i j : Nat) (d : α × β) (σ2 : L2.St) (H : Hp) : Prop := ∃ x y, σ2 = (σw.set i (some x)).set j (some y) ∧ Py.rep d.1 x H ∧ Py.rep d.2 y H
theorem el_lc [Py α] [PyI β] {wi : TI} {g : TG} {vs : List Nat} {ds : List α} (S : α → L2.St → Hp → Prop) (f : α → Bool) (v : α → β) (hs : Src wi σ H ds) (hz : ds.length ≤ 100000)
    (hg : ∀ d x H', Py.rep d x H' → ∀ Q : L2.St → Hp → Prop, (∀ σ2, wipe σ2 vs = wipe σ vs → S d σ2 H' → Q σ2 H') → g x (wipe σ vs) H' Q)
    (ht : ∀ d σ2 H', d ∈ ds → Gr H H' → S d σ2 H' → EvT tt σ2 H' (f d)) (he : ∀ d σ2 H', d ∈ ds → Gr H H' → S d σ2 H' → f d = true → Ev te σ2 H' (v d)) :
    Ev (tLc wi g tt te vs) σ H (Ls.mk ((ds.filter f).map v)) := by
  intro H1 g1 Q q
  refine hs H1 g1 _ fun J H2 g2 w D hD => ?_
  have gD : Gr H2 (upd H2 D (.lst [])) := Gr.new hD
  refine ⟨fun i m H' => m = ds.length - i ∧ i ≤ ds.length ∧ Gr H2 H' ∧ ∃ xs, H' D = some (.lst xs) ∧ RL (fun a x => PyI.rep a x H') (((ds.take i).filter f).map v) xs, ⟨ds.length, by simp, Nat.zero_le _, gD, [], upd_same, by simpa using RL.nil⟩, ?_⟩
  rintro i m H3 ⟨rfl, hi, g3, xs, hx, rx⟩
  by_cases hlt : i < ds.length
  · have hd : ds[i]? = some ds[i] := by simp [hlt]
    obtain ⟨hgo, hy⟩ := w.go H3 g3 i _ hd
    have hmem : ds[i] ∈ ds := List.getElem_mem hlt
    have htk : ds.take (i + 1) = ds.take i ++ [ds[i]] := by rw [List.take_add_one, hd]; rfl
    have hle : (((ds.take i).filter f).map v).length ≤ 100000 := by
      rw [List.length_map]
      exact Nat.le_trans (List.length_filter_le _ _) (by rw [List.length_take]; omega)
    refine .inr ⟨hgo, fun H' => i + 1 ≤ ds.length ∧ Gr H2 H' ∧ ∃ xs, H' D = some (.lst xs) ∧ RL (fun a x => PyI.rep a x H') (((ds.take (i + 1)).filter f).map v) xs, fun H' h => ⟨ds.length - (i + 1), by omega, rfl, h.1, h.2⟩, fun x H4 hyl => ?_⟩
    obtain ⟨g4, r4⟩ := hy x H4 hyl
    refine hg _ x H4 r4 _ fun σ2 hw hS => ⟨hw, ?_⟩
    have gH4 : Gr H H4 := ((g1.trans g2).trans g3).trans g4
    refine ht _ σ2 H4 hmem gH4 hS H4 (Gr.refl _) _ fun b H5 eb g5 => ?_
    subst eb
    cases hf : f ds[i] with
    | true =>
      refine he _ σ2 H4 hmem gH4 hS hf H5 g5 _ fun z y H6 ez g6 r6 => ?_
      subst ez
      have g36 : Gr H3 H6 := (g4.trans g5).trans g6
      refine ⟨xs, g36.lst hx, by rw [← rx.1]; exact Nat.lt_of_le_of_lt hle (by decide), hlt, (g3.trans g36).mut hD (g36.lst hx) (fun _ z => nomatch z), _, upd_same, ?_⟩
      have hp : TupK H6 (upd H6 D (.lst (xs ++ [y]))) := TupK.put (g36.lst hx) (fun _ z => nomatch z)
      rw [htk, List.filter_append, List.map_append, List.filter_cons, if_pos hf]
      exact (rx.mono fun _ _ z => PyI.keep (g36.tup.trans hp) z).snoc (PyI.keep hp r6)
    | false =>
      refine ⟨hlt, g3.trans (g4.trans g5), xs, (g4.trans g5).lst hx, ?_⟩
      rw [htk, List.filter_append, List.map_append, List.filter_cons, if_neg (by rw [hf]; decide)]
      simpa using rx.mono fun _ _ z => PyI.keep (g4.trans g5).tup z
  · have e : i = ds.length := by omega
    subst e
    refine .inl ⟨w.stop H3 g3, q _ _ H3 rfl (g2.trans g3) ⟨D, xs, rfl, hx, ?_⟩⟩
    rw [List.take_length] at rx
    exact rx
theorem el_lcN [Py α] [PyI β] {wi : TI} {j : Nat} {vs : List Nat} {ds : List α} {f : α → Bool} {v : α → β} (hs : Src wi σ H ds) (hz : ds.length ≤ 100000) (hw : ∀ x, wipe ((wipe σ vs).set j (some x)) vs = wipe σ vs)
    (ht : ∀ d x H', d ∈ ds → Gr H H' → Py.rep d x H' → EvT tt ((wipe σ vs).set j (some x)) H' (f d)) (he : ∀ d x H', d ∈ ds → Gr H H' → Py.rep d x H' → f d = true → Ev te ((wipe σ vs).set j (some x)) H' (v d)) :
    Ev (tLc wi (gName j) tt te vs) σ H (Ls.mk ((ds.filter f).map v)) :=
  el_lc (SlotN (wipe σ vs) j) f v hs hz (fun d x H' r Q q => q _ (hw x) ⟨x, rfl, r⟩) (fun d σ2 H' m g ⟨x, e, r⟩ => by subst e; exact ht d x H' m g r) (fun d σ2 H' m g ⟨x, e, r⟩ hf => by subst e; exact he d x H' m g r hf)
theorem gTup2 [PyI α] [PyI β] {i j : Nat} {d : α × β} {x : V} {H : Hp} {Q : L2.St → Hp → Prop} (r : Py.rep d x H) (q : ∀ y z, Py.rep d.1 y H → Py.rep d.2 z H → Q ((σ.set i (some y)).set j (some z)) H) :
    gTup K 2 (gCons (gName i) (gCons (gName j) gNil)) x σ H Q := by
  obtain ⟨p, y, z, e, hp, r1, r2⟩ := r
  exact ⟨p, _, e, .of hp, rfl, y, _, rfl, z, _, rfl, rfl, q y z r1 r2⟩
theorem el_lcP [PyI α] [PyI β] [PyI γ] {wi : TI} {i j : Nat} {vs : List Nat} {ds : List (α × β)} {f : α × β → Bool} {v : α × β → γ} (hs : Src wi σ H ds) (hz : ds.length ≤ 100000) (hw : ∀ x y, wipe (((wipe σ vs).set i (some x)).set j (some y)) vs = wipe σ vs)
    (ht : ∀ d x y H', d ∈ ds → Gr H H' → Py.rep d.1 x H' → Py.rep d.2 y H' → EvT tt (((wipe σ vs).set i (some x)).set j (some y)) H' (f d))
    (he : ∀ d x y H', d ∈ ds → Gr H H' → Py.rep d.1 x H' → Py.rep d.2 y H' → f d = true → Ev te (((wipe σ vs).set i (some x)).set j (some y)) H' (v d)) :
    Ev (tLc wi (gTup K 2 (gCons (gName i) (gCons (gName j) gNil))) tt te vs) σ H (Ls.mk ((ds.filter f).map v)) :=
  el_lc (SlotP (wipe σ vs) i j) f v hs hz (fun d x H' r Q q => gTup2 r fun y z r1 r2 => q _ (hw y z) ⟨y, z, rfl, r1, r2⟩) (fun d σ2 H' m g ⟨x, y, e, r, r'⟩ => by subst e; exact ht d x y H' m g r r') (fun d σ2 H' m g ⟨x, y, e, r, r'⟩ hf => by subst e; exact he d x y H' m g r r' hf)
/-- no test -/
theorem filter_yes {l : List α} : l.filter (fun _ => true) = l := by induction l with | nil => rfl | cons a l ih => rw [List.filter_cons, if_pos rfl, ih]
theorem el_mapN [Py α] [PyI β] {wi : TI} {j : Nat} {vs : List Nat} {ds : List α} {v : α → β} (hs : Src wi σ H ds) (hz : ds.length ≤ 100000) (hw : ∀ x, wipe ((wipe σ vs).set j (some x)) vs = wipe σ vs)
    (he : ∀ d x H', d ∈ ds → Gr H H' → Py.rep d x H' → Ev te ((wipe σ vs).set j (some x)) H' (v d)) : Ev (tLc wi (gName j) tYes te vs) σ H (Ls.mk (ds.map v)) := by
  have h := el_lcN (f := fun _ => true) hs hz hw (fun _ _ _ _ _ _ => et_yes) (fun d x H' m g r _ => he d x H' m g r)
  rw [filter_yes] at h
  exact h
theorem el_mapP [PyI α] [PyI β] [PyI γ] {wi : TI} {i j : Nat} {vs : List Nat} {ds : List (α × β)} {v : α × β → γ} (hs : Src wi σ H ds) (hz : ds.length ≤ 100000) (hw : ∀ x y, wipe (((wipe σ vs).set i (some x)).set j (some y)) vs = wipe σ vs)
    (he : ∀ d x y H', d ∈ ds → Gr H H' → Py.rep d.1 x H' → Py.rep d.2 y H' → Ev te (((wipe σ vs).set i (some x)).set j (some y)) H' (v d)) :
    Ev (tLc wi (gTup K 2 (gCons (gName i) (gCons (gName j) gNil))) tYes te vs) σ H (Ls.mk (ds.map v)) := by
  have h := el_lcP (K := K) (f := fun _ => true) hs hz hw (fun _ _ _ _ _ _ _ _ => et_yes) (fun d x y H' m g r r' _ => he d x y H' m g r r')
  rw [filter_yes] at h
  exact h
end
end Zw
/-! Z4: houses, promises, calls, statements, loops. -/
namespace Zw
open PySem L2 RZ

/-! ### houses -/
structure Hs (C : Addr) where
  r : Int
  ds : List (Int × Int)
instance instHs {C : Addr} : Py (Hs C) := ⟨fun h v H => ∃ p dx t l, v = .ref p ∧ H p = some (.ins C dx (hFields h.r t l)) ∧ Neat H ∧ PyI.rep h.ds (.ref t) H ∧ (H l = some (.dK []) ∨ ∃ b, H l = some (warm b) ∧ PyI.rep (besM h.r h.ds) b H),
  fun {d v H H'} g ⟨p, dx, t, l, e, hp, hn, ht, hl⟩ => ⟨p, dx, t, l, e, g.ins hp, g.neat hn, PyI.keep g.tup ht, by
    have key : ∀ o, H l = some o → H' l = some o ∨ ∃ b, H' l = some (warm b) ∧ PyI.rep (besM d.r d.ds) b H' := fun o ho => by
      rcases g.old l _ ho with z | ⟨_, _, v, ns, z, r, ow⟩
      · exact .inl z
      · exact .inr ⟨v, z, by rw [← ow p C dx d.r t d.ds hp ht]; exact r⟩
    rcases hl with hl | ⟨b, hl, hb⟩
    · exact key _ hl
    · rcases key _ hl with z | z
      · exact .inr ⟨b, z, PyI.keep g.tup hb⟩
      · exact .inr z⟩⟩

theorem lk_doors {r : Int} {t l : Addr} : (hFields r t l).lookup ("doors" : Str) = some (.ref t) := by
  have h : (("doors" : Str) == "rooms") = false := by decide +kernel
  have h2 : (("doors" : Str) == "doors") = true := by decide +kernel
  simp [hFields, List.lookup, h, h2]
theorem lk_looked {r : Int} {t l : Addr} : (hFields r t l).lookup ("looked" : Str) = some (.ref l) := by
  have h : (("looked" : Str) == "rooms") = false := by decide +kernel
  have h1 : (("looked" : Str) == "doors") = false := by decide +kernel
  have h2 : (("looked" : Str) == "looked") = true := by decide +kernel
  simp [hFields, List.lookup, h, h1, h2]

/-! ### promises -/
def Sp0 {γ : Type} [Py γ] (P : γ → Prop) : Sp := fun vs H Q _ => vs = [] ∧ ∀ d w H', P d → Gr H H' → Py.rep d w H' → Q w H'
def Sp1 {α γ : Type} [Py α] [Py γ] (pre : α → Prop) (P : α → γ → Prop) : Sp := fun vs H Q _ => ∃ v a, vs = [v] ∧ Py.rep a v H ∧ pre a ∧ ∀ d w H', P a d → Gr H H' → Py.rep d w H' → Q w H'
def Sp2 {α β γ : Type} [Py α] [Py β] [Py γ] (pre : α → β → Prop) (P : α → β → γ → Prop) : Sp := fun vs H Q _ => ∃ v v' a b, vs = [v, v'] ∧ Py.rep a v H ∧ Py.rep b v' H ∧ pre a b ∧ ∀ d w H', P a b d → Gr H H' → Py.rep d w H' → Q w H'
def Sp3 {α β β' γ : Type} [Py α] [Py β] [Py β'] [Py γ] (pre : α → β → β' → Prop) (P : α → β → β' → γ → Prop) : Sp := fun vs H Q _ => ∃ v v' v'' a b c, vs = [v, v', v''] ∧ Py.rep a v H ∧ Py.rep b v' H ∧ Py.rep c v'' H ∧ pre a b c ∧ ∀ d w H', P a b c d → Gr H H' → Py.rep d w H' → Q w H'
def Sp4 {α β β' β'' γ : Type} [Py α] [Py β] [Py β'] [Py β''] [Py γ] (pre : α → β → β' → β'' → Prop) (P : α → β → β' → β'' → γ → Prop) : Sp := fun vs H Q _ => ∃ v1 v2 v3 v4 a b c d0, vs = [v1, v2, v3, v4] ∧ Py.rep a v1 H ∧ Py.rep b v2 H ∧ Py.rep c v3 H ∧ Py.rep d0 v4 H ∧ pre a b c d0 ∧ ∀ d w H', P a b c d0 d → Gr H H' → Py.rep d w H' → Q w H'
theorem Sp1.len {α γ : Type} [Py α] [Py γ] {pre : α → Prop} {P : α → γ → Prop} {vs : List V} {H : Hp} {Q : VK} {E : XK} (h : Sp1 pre P vs H Q E) : vs.length = 1 := by obtain ⟨_, _, rfl, _⟩ := h; rfl
theorem Sp2.len {α β γ : Type} [Py α] [Py β] [Py γ] {pre : α → β → Prop} {P : α → β → γ → Prop} {vs : List V} {H : Hp} {Q : VK} {E : XK} (h : Sp2 pre P vs H Q E) : vs.length = 2 := by obtain ⟨_, _, _, _, rfl, _⟩ := h; rfl
theorem Sp3.len {α β β' γ : Type} [Py α] [Py β] [Py β'] [Py γ] {pre : α → β → β' → Prop} {P : α → β → β' → γ → Prop} {vs : List V} {H : Hp} {Q : VK} {E : XK} (h : Sp3 pre P vs H Q E) : vs.length = 3 := by obtain ⟨_, _, _, _, _, _, rfl, _⟩ := h; rfl
theorem Sp4.len {α β β' β'' γ : Type} [Py α] [Py β] [Py β'] [Py β''] [Py γ] {pre : α → β → β' → β'' → Prop} {P : α → β → β' → β'' → γ → Prop} {vs : List V} {H : Hp} {Q : VK} {E : XK} (h : Sp4 pre P vs H Q E) : vs.length = 4 := by obtain ⟨_, _, _, _, _, _, _, _, rfl, _⟩ := h; rfl

section
variable {K : PySem.W.Frag} {σ : L2.St} {H Hb H' : Hp} {ta tb tc td te tl : TE} {t u tt : TT} {α β β' β'' γ : Type} {E : XK}
theorem ed_call0 [Py γ] {P P' : γ → Prop} (hP : ∀ d, P d → P' d) : Ed (tCall (Sp0 P) [] E tNil) σ H P' := fun H1 e Q q => ⟨rfl, fun d w H' p g r => q d w H' (hP d p) g r⟩
theorem ed_call1 [Py α] [Py γ] {pre : α → Prop} {P : α → γ → Prop} {Pa : α → Prop} {P' : γ → Prop} (h : Ed ta σ H Pa) (hp : ∀ a, Pa a → pre a) (hP : ∀ a d, Pa a → P a d → P' d) : Ed (tCall (Sp1 pre P) [] E (tCons ta tNil)) σ H P' := fun H1 e Q q =>
  h H1 e _ fun a v H2 pa e2 r => ⟨v, a, rfl, r, hp a pa, fun d w H' p g rr => q d w H' (hP a d pa p) (e2.trans g) rr⟩
theorem ed_call2 [Py α] [Py β] [Py γ] {pre : α → β → Prop} {P : α → β → γ → Prop} {Pa : α → Prop} {Pb : β → Prop} {P' : γ → Prop} (h : Ed ta σ H Pa) (h2 : Ed tb σ H Pb) (hp : ∀ a b, Pa a → Pb b → pre a b) (hP : ∀ a b d, Pa a → Pb b → P a b d → P' d) : Ed (tCall (Sp2 pre P) [] E (tCons ta (tCons tb tNil))) σ H P' := fun H1 e Q q =>
  h H1 e _ fun a v H2 pa e2 r => h2 H2 (e.trans e2) _ fun b v' H3 pb e3 r' => ⟨v, v', a, b, rfl, Py.mono e3 r, r', hp a b pa pb, fun d w H' p g rr => q d w H' (hP a b d pa pb p) ((e2.trans e3).trans g) rr⟩
theorem ed_call3 [Py α] [Py β] [Py β'] [Py γ] {pre : α → β → β' → Prop} {P : α → β → β' → γ → Prop} {Pa : α → Prop} {Pb : β → Prop} {Pc : β' → Prop} {P' : γ → Prop} (h : Ed ta σ H Pa) (h2 : Ed tb σ H Pb) (h3 : Ed tc σ H Pc) (hp : ∀ a b c, Pa a → Pb b → Pc c → pre a b c) (hP : ∀ a b c d, Pa a → Pb b → Pc c → P a b c d → P' d) :
    Ed (tCall (Sp3 pre P) [] E (tCons ta (tCons tb (tCons tc tNil)))) σ H P' := fun H1 e Q q =>
  h H1 e _ fun a v H2 pa e2 r => h2 H2 (e.trans e2) _ fun b v' H3 pb e3 r' => h3 H3 ((e.trans e2).trans e3) _ fun c v'' H4 pc e4 r'' => ⟨v, v', v'', a, b, c, rfl, Py.mono (e3.trans e4) r, Py.mono e4 r', r'', hp a b c pa pb pc, fun d w H' p g rr => q d w H' (hP a b c d pa pb pc p) (((e2.trans e3).trans e4).trans g) rr⟩
theorem ed_call4 [Py α] [Py β] [Py β'] [Py β''] [Py γ] {pre : α → β → β' → β'' → Prop} {P : α → β → β' → β'' → γ → Prop} {Pa : α → Prop} {Pb : β → Prop} {Pc : β' → Prop} {Pd : β'' → Prop} {P' : γ → Prop} (h : Ed ta σ H Pa) (h2 : Ed tb σ H Pb) (h3 : Ed tc σ H Pc) (h4 : Ed td σ H Pd)
    (hp : ∀ a b c d, Pa a → Pb b → Pc c → Pd d → pre a b c d) (hP : ∀ a b c d z, Pa a → Pb b → Pc c → Pd d → P a b c d z → P' z) :
    Ed (tCall (Sp4 pre P) [] E (tCons ta (tCons tb (tCons tc (tCons td tNil))))) σ H P' := fun H1 e Q q =>
  h H1 e _ fun a v H2 pa e2 r => h2 H2 (e.trans e2) _ fun b v' H3 pb e3 r' => h3 H3 ((e.trans e2).trans e3) _ fun c v'' H4 pc e4 r'' => h4 H4 (((e.trans e2).trans e3).trans e4) _ fun d v3 H5 pd e5 r3 =>
    ⟨v, v', v'', v3, a, b, c, d, rfl, Py.mono ((e3.trans e4).trans e5) r, Py.mono (e4.trans e5) r', Py.mono e5 r'', r3, hp a b c d pa pb pc pd, fun z w H' p g rr => q z w H' (hP a b c d z pa pb pc pd p) ((((e2.trans e3).trans e4).trans e5).trans g) rr⟩
/-- a function: its value m of the arguments -/
theorem ev_call1 [Py α] [Py γ] {pre : α → Prop} {m : α → γ} {a : α} (h : Ev ta σ H a) (hp : pre a) : Ev (tCall (Sp1 pre fun a d => d = m a) [] E (tCons ta tNil)) σ H (m a) := ed_call1 h (fun _ e => by rw [e]; exact hp) fun _ _ e p => by rw [p, e]
theorem ev_call2 [Py α] [Py β] [Py γ] {pre : α → β → Prop} {m : α → β → γ} {a : α} {b : β} (h : Ev ta σ H a) (h2 : Ev tb σ H b) (hp : pre a b) : Ev (tCall (Sp2 pre fun a b d => d = m a b) [] E (tCons ta (tCons tb tNil))) σ H (m a b) :=
  ed_call2 h h2 (fun _ _ e e' => by rw [e, e']; exact hp) fun _ _ _ e e' p => by rw [p, e, e']
theorem ev_call3 [Py α] [Py β] [Py β'] [Py γ] {pre : α → β → β' → Prop} {m : α → β → β' → γ} {a : α} {b : β} {c : β'} (h : Ev ta σ H a) (h2 : Ev tb σ H b) (h3 : Ev tc σ H c) (hp : pre a b c) : Ev (tCall (Sp3 pre fun a b c d => d = m a b c) [] E (tCons ta (tCons tb (tCons tc tNil)))) σ H (m a b c) :=
  ed_call3 h h2 h3 (fun _ _ _ e e' e'' => by rw [e, e', e'']; exact hp) fun _ _ _ _ e e' e'' p => by rw [p, e, e', e'']
theorem ev_call4 [Py α] [Py β] [Py β'] [Py β''] [Py γ] {pre : α → β → β' → β'' → Prop} {m : α → β → β' → β'' → γ} {a : α} {b : β} {c : β'} {d : β''} (h : Ev ta σ H a) (h2 : Ev tb σ H b) (h3 : Ev tc σ H c) (h4 : Ev td σ H d) (hp : pre a b c d) : Ev (tCall (Sp4 pre fun a b c d z => z = m a b c d) [] E (tCons ta (tCons tb (tCons tc (tCons td tNil))))) σ H (m a b c d) :=
  ed_call4 h h2 h3 h4 (fun _ _ _ _ e e' e'' e3 => by rw [e, e', e'', e3]; exact hp) fun _ _ _ _ _ e e' e'' e3 p => by rw [p, e, e', e'', e3]

/-! ### fields of a house -/
theorem ev_rooms {C : Addr} {h : Hs C} (cl : Cls K C) (na : NoAttr K C "rooms") (ha : Ev ta σ H h) : Ev (tFld K ta "rooms") σ H h.r := fun H1 g Q q => ha H1 g _ fun d v H2 e g2 ⟨p, dx, t, l, ev, hp, hn, ht, hl⟩ => by
  subst e
  exact ⟨p, C, dx, _, _, ev, hp, cl, na, rfl, q _ _ H2 rfl g2 rfl⟩
theorem ev_doors {C : Addr} {h : Hs C} (cl : Cls K C) (na : NoAttr K C "doors") (ha : Ev ta σ H h) : Ev (tFld K ta "doors") σ H h.ds := fun H1 g Q q => ha H1 g _ fun d v H2 e g2 ⟨p, dx, t, l, ev, hp, hn, ht, hl⟩ => by
  subst e
  exact ⟨p, C, dx, _, _, ev, hp, cl, na, lk_doors, q _ _ H2 rfl g2 ht⟩

/-! ### statements -/
variable {D : Ends} {tu tw tz : TS} {g : TG}
theorem s_asg [Py α] {i : Nat} {P : α → Prop} (h : Ed te σ H P) (k : ∀ d v H1, P d → Gr H H1 → Py.rep d v H1 → D.nx (σ.set i (some v)) H1) : tAsg te (gName i) D σ H := h H (Gr.refl H) _ fun d v H1 p e r => k d v H1 p e r
theorem q_asg [Py α] {i : Nat} {P : α → Prop} (h : Ed te σ H P) (k : ∀ d v H1, P d → Gr H H1 → Py.rep d v H1 → tz D (σ.set i (some v)) H1) : tSeq (tAsg te (gName i)) tz D σ H := s_asg (D := { D with nx := tz D }) h k
theorem s_asgE [Py α] {i : Nat} {d : α} (h : Ev te σ H d) (k : ∀ v H1, Gr H H1 → Py.rep d v H1 → D.nx (σ.set i (some v)) H1) : tAsg te (gName i) D σ H := s_asg h fun d' v H1 e => by subst e; exact k v H1
theorem q_asgE [Py α] {i : Nat} {d : α} (h : Ev te σ H d) (k : ∀ v H1, Gr H H1 → Py.rep d v H1 → tz D (σ.set i (some v)) H1) : tSeq (tAsg te (gName i)) tz D σ H := s_asgE (D := { D with nx := tz D }) h k
theorem s_asgP [PyI α] [PyI β] {i j : Nat} {P : α × β → Prop} (h : Ed te σ H P) (k : ∀ a b v w H1, P (a, b) → Gr H H1 → Py.rep a v H1 → Py.rep b w H1 → D.nx ((σ.set i (some v)).set j (some w)) H1) : tAsg te (gTup K 2 (gCons (gName i) (gCons (gName j) gNil))) D σ H :=
  h H (Gr.refl H) _ fun d v H1 p e r => gTup2 r fun y z r1 r2 => k d.1 d.2 y z H1 p e r1 r2
theorem q_asgP [PyI α] [PyI β] {i j : Nat} {P : α × β → Prop} (h : Ed te σ H P) (k : ∀ a b v w H1, P (a, b) → Gr H H1 → Py.rep a v H1 → Py.rep b w H1 → tz D ((σ.set i (some v)).set j (some w)) H1) : tSeq (tAsg te (gTup K 2 (gCons (gName i) (gCons (gName j) gNil)))) tz D σ H :=
  s_asgP (D := { D with nx := tz D }) h k
theorem s_par [Py α] [Py β] {i j : Nat} {P : α → Prop} {P' : β → Prop} (h : Ed ta σ H P) (h' : Ed tb σ H P') (k : ∀ a b v w H1, P a → P' b → Gr H H1 → Py.rep a v H1 → Py.rep b w H1 → D.nx ((σ.set i (some v)).set j (some w)) H1) : tPar i j (tCons ta (tCons tb tNil)) D σ H :=
  ea_2 h h' H (Gr.refl H) _ fun vs H1 e ⟨v, w, a, b, ev, p, p', r, r'⟩ => ⟨v, w, ev, k a b v w H1 p p' e r r'⟩
theorem q_par [Py α] [Py β] {i j : Nat} {P : α → Prop} {P' : β → Prop} (h : Ed ta σ H P) (h' : Ed tb σ H P') (k : ∀ a b v w H1, P a → P' b → Gr H H1 → Py.rep a v H1 → Py.rep b w H1 → tz D ((σ.set i (some v)).set j (some w)) H1) : tSeq (tPar i j (tCons ta (tCons tb tNil))) tz D σ H :=
  s_par (D := { D with nx := tz D }) h h' k
theorem s_ret [Py α] {P : α → Prop} (h : Ed te σ H P) (k : ∀ d v H1, P d → Gr H H1 → Py.rep d v H1 → D.rt v H1) : tRet te D σ H := h H (Gr.refl H) _ k
theorem s_retE [Py α] {d : α} (h : Ev te σ H d) (k : ∀ v H1, Gr H H1 → Py.rep d v H1 → D.rt v H1) : tRet te D σ H := s_ret h fun d' v H1 e => by subst e; exact k v H1
theorem s_if {b : Bool} (h : EvT t σ H b) (h1 : b = true → ∀ H1, Gr H H1 → tu D σ H1) (h2 : b = false → ∀ H1, Gr H H1 → tw D σ H1) : tIfS t tu tw D σ H := h H (Gr.refl H) _ fun b' H1 eb e => by
  subst eb
  cases b' with
  | true => exact h1 rfl H1 e
  | false => exact h2 rfl H1 e
theorem sd_if {P : Bool → Prop} (h : EdT t σ H P) (h1 : ∀ H1, Gr H H1 → tu D σ H1) (h2 : ∀ H1, Gr H H1 → tw D σ H1) : tIfS t tu tw D σ H := h H (Gr.refl H) _ fun b' H1 eb e => by
  cases b' with
  | true => exact h1 H1 e
  | false => exact h2 H1 e
theorem q_if {b : Bool} (h : EvT t σ H b) (h1 : b = true → ∀ H1, Gr H H1 → tu { D with nx := tz D } σ H1) (h2 : b = false → ∀ H1, Gr H H1 → tw { D with nx := tz D } σ H1) : tSeq (tIfS t tu tw) tz D σ H := s_if (D := { D with nx := tz D }) h h1 h2
theorem qd_if {P : Bool → Prop} (h : EdT t σ H P) (h1 : ∀ H1, Gr H H1 → tu { D with nx := tz D } σ H1) (h2 : ∀ H1, Gr H H1 → tw { D with nx := tz D } σ H1) : tSeq (tIfS t tu tw) tz D σ H := sd_if (D := { D with nx := tz D }) h h1 h2
theorem q_when {b : Bool} (h : EvT t σ H b) (h1 : b = true → ∀ H1, Gr H H1 → tu { D with nx := tz D } σ H1) (h2 : b = false → ∀ H1, Gr H H1 → tz D σ H1) : tSeq (tIfS t tu tNext) tz D σ H := s_if (D := { D with nx := tz D }) h h1 h2
theorem s_when {b : Bool} (h : EvT t σ H b) (h1 : b = true → ∀ H1, Gr H H1 → tu D σ H1) (h2 : b = false → ∀ H1, Gr H H1 → D.nx σ H1) : tIfS t tu tNext D σ H := s_if h h1 h2
theorem s_drop [Py α] {P : α → Prop} (h : Ed te σ H P) (k : ∀ H1, Gr H H1 → D.nx σ H1) : tDrop te D σ H := h H (Gr.refl H) _ fun d v H1 p e r => k H1 e
theorem q_drop [Py α] {P : α → Prop} (h : Ed te σ H P) (k : ∀ H1, Gr H H1 → tz D σ H1) : tSeq (tDrop te) tz D σ H := s_drop (D := { D with nx := tz D }) h k

/-! ### a list of one's own -/
/-- H2 is H grown, but the object at l changed -/
def Mu (l : Addr) (H H2 : Hp) : Prop := ∃ H1 o u, Gr H H1 ∧ H1 l = some u ∧ (∀ xs, u ≠ .tup xs) ∧ NotH o ∧ H2 = upd H1 l o
theorem Mu.gr {l : Addr} {H2 : Hp} (m : Mu l H H2) (g : Gr Hb H) (hb : Hb l = none) : Gr Hb H2 := by
  obtain ⟨H1, o, u, g1, hl, hn, no, rfl⟩ := m
  exact (g.trans g1).mut hb hl hn no
theorem Mu.neat {l : Addr} {H2 : Hp} (m : Mu l H H2) (n : Neat H) : Neat H2 := by
  obtain ⟨H1, o, u, g1, hl, hn, no, rfl⟩ := m
  exact (g1.neat n).put no
theorem Mu.tup {l : Addr} {H2 : Hp} (m : Mu l H H2) : TupK H H2 := by
  obtain ⟨H1, o, u, g1, hl, hn, no, rfl⟩ := m
  exact g1.tup.trans (TupK.put hl hn)
theorem Mu.at {l a : Addr} {H2 : Hp} {o : HO} (m : Mu l H H2) (h : H a = some o) (n : ¬ Chg o) (ne : a ≠ l) : H2 a = some o := by
  obtain ⟨H1, o', u, g1, hl, hn, no, rfl⟩ := m
  rw [upd_ne ne]
  exact g1.at h n
theorem Mu.keep [PyI α] {l : Addr} {H2 : Hp} {d : α} {v : V} (m : Mu l H H2) (r : Py.rep d v H) : Py.rep d v H2 := PyI.keep m.tup r
theorem Mu.ls [PyI α] {l p : Addr} {H2 : Hp} {ds : List α} (m : Mu l H H2) (ne : p ≠ l) (r : Py.rep (Ls.mk ds) (.ref p) H) : Py.rep (Ls.mk ds) (.ref p) H2 := by
  obtain ⟨q, xs, e, hq, rr⟩ := r
  cases e
  exact ⟨p, xs, rfl, m.at hq (fun z => nomatch z) ne, rr.mono fun _ _ z => PyI.keep m.tup z⟩
theorem ls_put [PyI α] {l : Addr} {H1 : Hp} {xs ys : List V} {ds : List α} (h : H1 l = some (.lst xs)) (r : RL (fun a x => PyI.rep a x H1) ds ys) : Py.rep (Ls.mk ds) (.ref l) (upd H1 l (.lst ys)) :=
  ⟨l, ys, rfl, upd_same, r.mono fun _ _ z => PyI.keep (TupK.put h (fun _ z => nomatch z)) z⟩
theorem mu_of {l : Addr} {H1 : Hp} {xs : List V} {o : HO} (g : Gr H H1) (h : H1 l = some (.lst xs)) (no : NotH o := by intro _ _ _ _ _ z; cases z) : Mu l H (upd H1 l o) := ⟨H1, o, _, g, h, (fun _ z => nomatch z), no, rfl⟩
/-- xs.append(e) -/
theorem s_app [PyI α] {l : Addr} {i : Nat} {ds : List α} {P : α → Prop} (hl : Py.rep (Ls.mk ds) (.ref l) H) (ha : σ[i]? = some (some (.ref l))) (h : Ed te σ H P) (hz : ds.length < 100000) (k : ∀ d H2, P d → Mu l H H2 → Py.rep (Ls.mk (ds ++ [d])) (.ref l) H2 → D.nx σ H2) :
    tDrop (tBM K "list" rAppend (tVar i) (tCons te tNil)) D σ H := by
  obtain ⟨q, xs, e, hq, rr⟩ := hl
  cases e
  refine ⟨_, ha, .inl ⟨rfl, xs, .of hq⟩, ?_⟩
  refine h H (Gr.refl H) _ fun d v H1 p g r => ⟨l, xs, v, rfl, rfl, g.lst hq, by rw [← rr.1]; exact Nat.lt_of_lt_of_le hz (by decide), ?_⟩
  exact k d _ p (mu_of g (g.lst hq)) (ls_put (g.lst hq) ((rr.mono fun _ _ z => PyI.keep g.tup z).snoc r))
theorem q_app [PyI α] {l : Addr} {i : Nat} {ds : List α} {P : α → Prop} (hl : Py.rep (Ls.mk ds) (.ref l) H) (ha : σ[i]? = some (some (.ref l))) (h : Ed te σ H P) (hz : ds.length < 100000) (k : ∀ d H2, P d → Mu l H H2 → Py.rep (Ls.mk (ds ++ [d])) (.ref l) H2 → tz D σ H2) :
    tSeq (tDrop (tBM K "list" rAppend (tVar i) (tCons te tNil))) tz D σ H := s_app (D := { D with nx := tz D }) hl ha h hz k
/-- xs.extend(ys), ys a new list -/
theorem s_ext [PyI α] {l : Addr} {i : Nat} {ds : List α} {P : Ls α → Prop} (hl : Py.rep (Ls.mk ds) (.ref l) H) (ha : σ[i]? = some (some (.ref l))) (h : Ed te σ H P) (hz : ∀ es, P es → ds.length + es.l.length ≤ 100000) (k : ∀ es H2, P (Ls.mk es) → Mu l H H2 → Py.rep (Ls.mk (ds ++ es)) (.ref l) H2 → D.nx σ H2) :
    tDrop (tBM K "list" rExtend (tVar i) (tCons te tNil)) D σ H := by
  obtain ⟨q, xs, e, hq, rr⟩ := hl
  cases e
  refine ⟨_, ha, .inl ⟨rfl, xs, .of hq⟩, ?_⟩
  refine h H (Gr.refl H) _ fun d v H1 p g ⟨b, ys, ev, hb, rb⟩ => ⟨l, b, xs, ys, rfl, by rw [ev], g.lst hq, hb, by rw [← rr.1, ← rb.1]; exact Nat.le_trans (hz d p) (by decide), ?_⟩
  exact k d.l _ p (mu_of g (g.lst hq)) (ls_put (g.lst hq) ((rr.mono fun _ _ z => PyI.keep g.tup z).append rb))
theorem q_ext [PyI α] {l : Addr} {i : Nat} {ds : List α} {P : Ls α → Prop} (hl : Py.rep (Ls.mk ds) (.ref l) H) (ha : σ[i]? = some (some (.ref l))) (h : Ed te σ H P) (hz : ∀ es, P es → ds.length + es.l.length ≤ 100000) (k : ∀ es H2, P (Ls.mk es) → Mu l H H2 → Py.rep (Ls.mk (ds ++ es)) (.ref l) H2 → tz D σ H2) :
    tSeq (tDrop (tBM K "list" rExtend (tVar i) (tCons te tNil))) tz D σ H := s_ext (D := { D with nx := tz D }) hl ha h hz k
/-- x = xs.pop() -/
theorem s_popAsg [PyI α] {l : Addr} {i j : Nat} {ds : List α} {d : α} (hl : Py.rep (Ls.mk (ds ++ [d])) (.ref l) H) (ha : σ[i]? = some (some (.ref l))) (k : ∀ v H2, Mu l H H2 → Py.rep (Ls.mk ds) (.ref l) H2 → Py.rep d v H2 → D.nx (σ.set j (some v)) H2) :
    tAsg (tBM0 K "list" rPop (tVar i)) (gName j) D σ H := by
  obtain ⟨q, xs, e, hq, rr⟩ := hl
  cases e
  have hd : (ds ++ [d])[xs.length - 1]? = some d := by rw [← rr.1]; simp
  obtain ⟨v, hv, rv⟩ := rr.get hd
  refine ⟨_, ha, .inl ⟨rfl, xs, .of hq⟩, l, xs, v, rfl, rfl, hq, hv, ?_⟩
  have e : xs.dropLast = xs.take (ds ++ [d]).dropLast.length := by rw [List.dropLast_eq_take, ← rr.1]; simp
  have r2 : RL (fun a x => PyI.rep a x H) ds xs.dropLast := by
    have z : RL (fun a x => PyI.rep a x H) ((ds ++ [d]).take ds.length) (xs.take ds.length) := rr.take ds.length
    rw [List.take_left' rfl] at z
    rw [e]
    have e2 : (ds ++ [d]).dropLast.length = ds.length := by simp
    rw [e2]
    exact z
  exact k v _ (mu_of (Gr.refl H) hq) (ls_put hq r2) (PyI.keep (TupK.put hq (fun _ z => nomatch z)) rv)
theorem q_popAsg [PyI α] {l : Addr} {i j : Nat} {ds : List α} {d : α} (hl : Py.rep (Ls.mk (ds ++ [d])) (.ref l) H) (ha : σ[i]? = some (some (.ref l))) (k : ∀ v H2, Mu l H H2 → Py.rep (Ls.mk ds) (.ref l) H2 → Py.rep d v H2 → tz D (σ.set j (some v)) H2) :
    tSeq (tAsg (tBM0 K "list" rPop (tVar i)) (gName j)) tz D σ H := s_popAsg (D := { D with nx := tz D }) hl ha k

/-! ### loops -/
/-- for, over a source that stands while tuples stand -/
theorem s_forT [PyI α] {wi : TI} {ds : List α} (hs : SrcT wi σ H ds)
    (k : ∀ H2, Gr H H2 → ∃ Pv : Nat → L2.St → Hp → Prop, Pv 0 σ H2 ∧ (∀ i σ' H', Pv i σ' H' → TupK H2 H') ∧
      (∀ i d x σ' H' H'', ds[i]? = some d → Pv i σ' H' → Gr H' H'' → Py.rep d x H'' → g x σ' H'' fun σ2 H3 => tu { D with nx := Pv (i + 1), ct := Pv (i + 1), bk := D.nx } σ2 H3) ∧ ∀ σ' H', Pv ds.length σ' H' → D.nx σ' H') : tFor wi g tu D σ H := by
  refine hs H (Gr.refl H) _ fun J H2 g2 w => ?_
  obtain ⟨Pv, p0, pt, ps, pd⟩ := k H2 g2
  refine ⟨fun i m σ' H' => m = ds.length - i ∧ i ≤ ds.length ∧ Pv i σ' H', ⟨ds.length, by simp, Nat.zero_le _, p0⟩, ?_⟩
  rintro i m σ' H3 ⟨rfl, hi, p⟩
  have s3 := pt i σ' H3 p
  by_cases hlt : i < ds.length
  · have hd : ds[i]? = some ds[i] := by simp [hlt]
    obtain ⟨hgo, hy⟩ := w.go H3 s3 i _ hd
    refine .inr ⟨hgo, Pv (i + 1), fun σ4 H4 p4 => ⟨ds.length - (i + 1), by omega, rfl, hlt, p4⟩, fun x H4 hyl => ?_⟩
    obtain ⟨g4, r4⟩ := hy x H4 hyl
    exact ps i _ x σ' H3 H4 hd p g4 r4
  · have e : i = ds.length := by omega
    subst e
    exact .inl ⟨w.stop H3 s3, pd σ' H3 p⟩
/-- for, over a list at an address -/
theorem s_forL [PyI α] {wi : TI} {ds : List α} (hs : SrcL wi σ H ds)
    (k : ∀ H2 a xs, Gr H H2 → H2 a = some (.lst xs) → ∃ Pv : Nat → L2.St → Hp → Prop, Pv 0 σ H2 ∧ (∀ i σ' H', Pv i σ' H' → H' a = some (.lst xs) ∧ TupK H2 H') ∧
      (∀ i d x σ' H' H'', ds[i]? = some d → Pv i σ' H' → Gr H' H'' → Py.rep d x H'' → g x σ' H'' fun σ2 H3 => tu { D with nx := Pv (i + 1), ct := Pv (i + 1), bk := D.nx } σ2 H3) ∧ ∀ σ' H', Pv ds.length σ' H' → D.nx σ' H') : tFor wi g tu D σ H := by
  refine hs H (Gr.refl H) _ fun J H2 a xs g2 ha w => ?_
  obtain ⟨Pv, p0, pt, ps, pd⟩ := k H2 a xs g2 ha
  refine ⟨fun i m σ' H' => m = ds.length - i ∧ i ≤ ds.length ∧ Pv i σ' H', ⟨ds.length, by simp, Nat.zero_le _, p0⟩, ?_⟩
  rintro i m σ' H3 ⟨rfl, hi, p⟩
  have s3 := pt i σ' H3 p
  by_cases hlt : i < ds.length
  · have hd : ds[i]? = some ds[i] := by simp [hlt]
    obtain ⟨hgo, hy⟩ := w.go H3 s3 i _ hd
    refine .inr ⟨hgo, Pv (i + 1), fun σ4 H4 p4 => ⟨ds.length - (i + 1), by omega, rfl, hlt, p4⟩, fun x H4 hyl => ?_⟩
    obtain ⟨g4, r4⟩ := hy x H4 hyl
    exact ps i _ x σ' H3 H4 hd p g4 r4
  · have e : i = ds.length := by omega
    subst e
    exact .inl ⟨w.stop H3 s3, pd σ' H3 p⟩
theorem q_forT [PyI α] {wi : TI} {ds : List α} (hs : SrcT wi σ H ds)
    (k : ∀ H2, Gr H H2 → ∃ Pv : Nat → L2.St → Hp → Prop, Pv 0 σ H2 ∧ (∀ i σ' H', Pv i σ' H' → TupK H2 H') ∧
      (∀ i d x σ' H' H'', ds[i]? = some d → Pv i σ' H' → Gr H' H'' → Py.rep d x H'' → g x σ' H'' fun σ2 H3 => tu { D with nx := Pv (i + 1), ct := Pv (i + 1), bk := tz D } σ2 H3) ∧ ∀ σ' H', Pv ds.length σ' H' → tz D σ' H') : tSeq (tFor wi g tu) tz D σ H := s_forT (D := { D with nx := tz D }) hs k
theorem q_forL [PyI α] {wi : TI} {ds : List α} (hs : SrcL wi σ H ds)
    (k : ∀ H2 a xs, Gr H H2 → H2 a = some (.lst xs) → ∃ Pv : Nat → L2.St → Hp → Prop, Pv 0 σ H2 ∧ (∀ i σ' H', Pv i σ' H' → H' a = some (.lst xs) ∧ TupK H2 H') ∧
      (∀ i d x σ' H' H'', ds[i]? = some d → Pv i σ' H' → Gr H' H'' → Py.rep d x H'' → g x σ' H'' fun σ2 H3 => tu { D with nx := Pv (i + 1), ct := Pv (i + 1), bk := tz D } σ2 H3) ∧ ∀ σ' H', Pv ds.length σ' H' → tz D σ' H') : tSeq (tFor wi g tu) tz D σ H := s_forL (D := { D with nx := tz D }) hs k
/-- while, by a word that falls -/
theorem s_while (W : Nat → L2.St → Hp → Prop) (m0 : Nat) (h0 : W m0 σ H)
    (hs : ∀ m σ' H', W m σ' H' → ∃ b, EvT t σ' H' b ∧ (b = true → ∀ H1, Gr H' H1 → ∃ N : L2.St → Hp → Prop, (∀ σ2 H2, N σ2 H2 → ∃ m', m' < m ∧ W m' σ2 H2) ∧ tu { D with nx := N, ct := N, bk := D.nx } σ' H1) ∧ (b = false → ∀ H1, Gr H' H1 → D.nx σ' H1)) : tWhile t tu D σ H :=
  ⟨W, ⟨m0, h0⟩, fun m σ' H' hw => by
    obtain ⟨b, hb, h1, h2⟩ := hs m σ' H' hw
    refine hb H' (Gr.refl H') _ fun b' H1 eb e => ?_
    subst eb
    cases b' with
    | true => exact h1 rfl H1 e
    | false => exact h2 rfl H1 e⟩
theorem q_while (W : Nat → L2.St → Hp → Prop) (m0 : Nat) (h0 : W m0 σ H)
    (hs : ∀ m σ' H', W m σ' H' → ∃ b, EvT t σ' H' b ∧ (b = true → ∀ H1, Gr H' H1 → ∃ N : L2.St → Hp → Prop, (∀ σ2 H2, N σ2 H2 → ∃ m', m' < m ∧ W m' σ2 H2) ∧ tu { D with nx := N, ct := N, bk := tz D } σ' H1) ∧ (b = false → ∀ H1, Gr H' H1 → tz D σ' H1)) : tSeq (tWhile t tu) tz D σ H :=
  s_while (D := { D with nx := tz D }) W m0 h0 hs
end
end Zw
/-! Z5: further rules: an attribute as a target, enumerate over a tuple, == and in of data, order of data, sorted. -/
namespace Zw
open PySem L2 RZ PySem.Spec PyProof.Rows

section
variable {X : Cx} {o e : Expr} {f : Str} {pos : Pos} {to : TE}
def gAttr (K : PySem.W.Frag) (to : TE) (f : Str) : TG := fun v σ H Q => to σ H fun x H1 => ∃ a C dx fs, x = .ref a ∧ H1 a = some (.ins C dx fs) ∧ Cls K C ∧ NoAttr K C f ∧ fs.length < 1000 ∧ Q σ (upd H1 a (.ins C dx (putF f v fs)))
theorem pg_attr (ho : PE X o to) : PG X (.Attribute o f pos) (gAttr X.K to f) := by
  refine ⟨fun pins s σ H v u Q I r h => ?_⟩
  rw [PySem.assign_Attribute]
  refine wpAny_bind (wpAny_holding (thn (ho.run pins s σ H _ I h) fun ov s1 ⟨x, H1, I1, rx, a, C, dx, fs, ex, ea, c, n, l, q⟩ => ?_))
  subst ex
  obtain rfl : ov = Value.ref a := rx
  refine wpAny_bind (wpAny_standAt (wpAny_bind (wpAny_holding (setattr_ok I1 ea c n l r fun s2 I2 => ?_))))
  exact wpAny_release ⟨σ, _, I2, q⟩
end

/-! ### enumerate(tuple) -/
theorem meets_enumerate_newT {v : Value} {o : Obj} {H : Heap → Prop} (B : Begins v o H) :
    Meets (Builtin.«enumerate.__new__» ⟨[.type "enumerate", v], []⟩) (fun _ R s => H s.heap ∧
      R (.ok (.ret (.ref (s.heap.push o).objs.size))) { s with heap := (s.heap.push o).push { cls := .type "enumerate", data := .fields #[.none, .bool false, .ref s.heap.objs.size, rawInt 0, .none, .none] } }) :=
  .of_wp fun prog w A R s h => by
    obtain ⟨hp, g, d, tk, os⟩ := s; obtain ⟨h1, h⟩ := h
    have hsub := sub_enumerate
    have q1 : ∀ {A' : Around} {E : Value → Shared → Prop} {Q : Value → Shared → Prop}, Q (.ref hp.objs.size) ⟨hp.push o, g, d, tk, os⟩ → wpAny (model prog w) A' (pyIter v) Q E ⟨hp, g, d, tk, os⟩ :=
      fun q => B.iter prog w _ _ ⟨hp, g, d, tk, os⟩ _ h1 q
    wp_walk using q1
    refine wpAny_stack_any fun st => wpAny_pure ?_
    split
    · rename_i c _ _ _ _ _
      cases (c == Value.type "enumerate")
      · wp_walk using q1
        exact ⟨_, rfl, h⟩
      · wp_walk using q1
        exact ⟨_, rfl, h⟩
    · wp_walk using q1
      exact ⟨_, rfl, h⟩

section
variable {prog : Program} {w : World} {A : Around} {E : Value → Shared → Prop} {s : Shared}
theorem call_enumerate_tuple {l : Addr} {items : Array Value} {Q : Value → Shared → Prop} (hL : s.heap.IsTuple l items)
    (h : ∀ h', IsEnum h' (s.heap.objs.size + 1) s.heap.objs.size 0 .none → h'.IsTupleIter s.heap.objs.size l 0 → h'.objs.size = s.heap.objs.size + 2 →
      (∀ b o, s.heap.get? b = some o → h'.get? b = some o) → Q (.ref (s.heap.objs.size + 1)) { s with heap := h' }) :
    wpAny (model prog w) A (call (.type "enumerate") [.ref l]) Q E s := by
  refine callType_new F.called_enumerate (by decide) (F.typeCall_enumerate_1 _) (F.newCall_enumerate_1 _) (fun obj => F.args_object_init_2 obj _) F.entry_enumerate_new
    (meets_enumerate_newT (begins_tuple l items)) ⟨hL, ?_⟩
  have hz : (s.heap.push { cls := .type "tuple_iterator", data := .fields #[.ref l, .int 0 0] }).objs.size = s.heap.objs.size + 1 := Heap.size_push ..
  show _ ∧ _
  rw [hz]
  have he : IsEnum ((s.heap.push { cls := .type "tuple_iterator", data := .fields #[.ref l, .int 0 0] }).push
      { cls := .type "enumerate", data := .fields #[.none, .bool false, .ref s.heap.objs.size, rawInt 0, .none, .none] }) (s.heap.objs.size + 1) s.heap.objs.size 0 .none := by
    have := Heap.get?_push_size (s.heap.push { cls := .type "tuple_iterator", data := .fields #[.ref l, .int 0 0] })
      (o := { cls := .type "enumerate", data := .fields #[.none, .bool false, .ref s.heap.objs.size, rawInt 0, .none, .none] }) rfl
    rw [hz] at this; exact this
  refine ⟨⟨_, he, rfl⟩, h _ he ⟨_, Heap.get?_push_of_some _ (Heap.get?_push_size _ rfl), rfl, rfl⟩ (by rw [Heap.size_push, hz]) fun b o x => Heap.get?_push_of_some _ (Heap.get?_push_of_some _ x)⟩
end
def IteT (K : PySem.W.Frag) (a : Addr) : It :=
  ⟨fun i H => ∃ (xs : List V) (x : V), SqT K H a xs ∧ xs[i]? = some x, fun i H v H' => ∃ T x, v = .ref T ∧ H T = none ∧ H' = upd H T (.tup [.int (i : Nat), x]) ∧ ∀ xs, SqT K H a xs → xs[i]? = some x, fun i H => ∃ xs : List V, SqT K H a xs ∧ xs.length ≤ i⟩
theorem turn_enumT {P : Program} {w : World} {K : PySem.W.Frag} {elts : List Expr} {kk : Nat} {tpos : Pos} (a e it : Addr) (hai : a ≠ it) (hae : e ≠ a) :
    Turn P w K (.Tuple elts kk tpos) (IteT K a) [e, it] e (fun i h => (∃ old, IsEnum h e it ((i : Nat) : Int) old) ∧ h.IsTupleIter it a i ∧ e ≠ it) where
  mem := by simp
  obj := fun i h st b hb => by
    obtain ⟨⟨old, he⟩, ⟨o, ho, hc, hd⟩, _⟩ := st
    have e' : b = e ∨ b = it := by simpa using hb
    rcases e' with z | z
    · rw [z]; exact ⟨_, he, fun v q => nomatch q⟩
    · rw [z]; exact ⟨o, ho, fun v q => by rw [hd] at q; cases q⟩
  keep := fun i h h' st k => let ⟨⟨old, he⟩, hi, hne⟩ := st; ⟨⟨old, k e (by simp) _ he⟩, hi.at fun o q => k it (by simp) o q, hne⟩
  item := by
    intro X hP hw hK hc i pins s σ H E I hf st hg
    subst hP hw hK
    obtain ⟨⟨old, he⟩, hit, hne⟩ := st
    obtain ⟨xs, x, hq, hx⟩ := hg
    obtain ⟨its, rv, p, hz⟩ := I.tuple hq
    obtain ⟨u, hu, ru⟩ := rv.get hx
    have hel : e < s.heap.objs.size := Heap.lt_size he
    have hil : it < s.heap.objs.size := by obtain ⟨_, q, _⟩ := hit; exact Heap.lt_size q
    have hi : i < its.toArray.size := by
      have := (List.getElem?_eq_some_iff.mp hu).1
      simpa using this
    refine wpAny_pyNext_enum_itemD (Draws.tuple (A := X.A.in1) (I.ok.hd hc) it a hai its.toArray) he ⟨hit, p⟩ hi hne (by simp [hne, hae]) fun u' h' tk hP ho hit' hT hsz hk => ?_
    have hu2 : its.toArray[i]? = some u := by simpa using hu
    have eu : u' = u := by rw [hu2] at hP; cases hP; rfl
    subst eu
    refine ⟨_, rfl, wpAny_letOwnedTupleGo_enum (s := { s with heap := h', toks := tk + 1 }) ho fun h'' he' sb => ?_⟩
    have hT2 : h''.get? s.heap.objs.size = some { cls := .type "tuple", data := .seq #[.int i tk, u'] } := (sb.2 _ (Nat.ne_of_gt hel)).trans hT
    have new : ObjOk X.prog X.w (upd H s.heap.objs.size (.tup [.int (i : Nat), x])) h'' s.heap.objs.size (.tup [.int (i : Nat), x]) :=
      ⟨by show 2 ≤ sizeLine; decide, [.int i tk, u'], .cons ⟨_, rfl⟩ (.cons ru .nil), ⟨_, hT2, rfl, _, rfl⟩⟩
    have I1 : Inv X pins σ (upd H s.heap.objs.size (.tup [.int (i : Nat), x])) { s with heap := h'', toks := tk + 1 } :=
      I.turnedNew (ch := [e, it]) (fun b ob hb q => (sb.2 b (fun z => hb (by simp [z]))).trans (hk b ob (fun z => hb (by simp [z])) (fun z => hb (by simp [z])) q)) hf (Nat.le_refl _) new
    refine ⟨.ref s.heap.objs.size, _, I1, rfl, ⟨_, x, rfl, I.hok.fresh (Nat.le_refl _), rfl, fun ys hy => by rw [I.tuple_inj hy hq]; exact hx⟩, ⟨⟨u', ?_⟩, hit'.1.at fun o q => (sb.2 it (Ne.symm hne)).trans q, hne⟩, fun b hb => ?_⟩
    · have e1 : ((i + 1 : Nat) : Int) = (i : Int) + 1 := by omega
      rw [e1]; exact he'
    · have hb' : b < s.heap.objs.size := by
        have e' : b = e ∨ b = it := by simpa using hb
        rcases e' with z | z
        · rw [z]; exact hel
        · rw [z]; exact hil
      rw [upd_ne (Nat.ne_of_lt hb')]
      exact (hf b hb).1
  done := by
    intro X hP hw hK hc i pins s σ H E I hf st hg
    subst hP hw hK
    obtain ⟨⟨old, he⟩, hit, hne⟩ := st
    obtain ⟨xs, hq, hx⟩ := hg
    obtain ⟨its, rv, p, hz⟩ := I.tuple hq
    obtain ⟨f0, f1, f2, f3, f4, f5⟩ := hf it (by simp)
    have hl := rv.length
    have hT : s.TypeIs (.ref e) "enumerate" := ⟨_, he, rfl⟩
    unfold pyNext
    refine wpAny_bind (wpAny_attempt (wpAny_callSpecial?_slot (name := Str.ofString "__next__") hT F.slot_enumerate_next
      (wpAny_call_entry F.slot_enumerate_next hT F.entry_enumerate_next ?_ (F.args_enumerate_next_1 _))))
    show wpAny _ _ (field (.ref e) 2 >>= _) _ _ _
    refine wpAny_bind (wpAny_field he rfl (x := .ref it) rfl ?_)
    refine wpAny_bind (wpAny_nextOf_tuple_end (I.ok.hd hc) hit p (by simp; omega) fun h' x he' hx' => ?_)
    obtain ⟨o, ho, hc'⟩ := hx'
    refine wpAny_bind (wpAny_isInstance (T := "StopIteration") (b := true) ⟨o, ho, hc'⟩ isSubtype_stop ?_)
    exact wpAny_pure ⟨rfl, I.turned (t' := s.toks) (fun b o hb q => he' b o hb q) f0 f1 f3 f4 f5⟩
  self := fun A i s Q E st h => let ⟨⟨_, he⟩, _⟩ := st; wpAny_pyIter_enum he h
def iEnumT (K : PySem.W.Frag) (ta : TA) : TI := fun σ H R => ta σ H fun vs H1 => ∃ a xs, vs = [.ref a] ∧ SqT K H1 a xs ∧ R (IteT K a) H1
theorem pi_enumT {X : Cx} {e : Expr} {ta : TA} {p pos tpos : Pos} {elts : List Expr} {kk : Nat} (hg : Gl X "enumerate") (hm : X.mg "enumerate" = none) (ha : PA X [e] ta) (hs : starEach [e] X.env = [(false, eval e X.env)] := by rfl) :
    PI X (.Tuple elts kk tpos) (.Call (.Name "enumerate" p) [e] [] pos) (iEnumT X.K ta) := by
  refine ⟨fun pins s σ H R I h => ?_⟩
  refine Call_ (ld_blt I hg hm boot_enumerate (PyProof.Rows.callWith_type1 (thn (ha.run pos pins s σ H _ I h) fun us s1 ⟨vs, H1, I1, r1, q1⟩ => ?_) hs rfl))
  obtain ⟨a, xs, ex, hq, q⟩ := q1
  subst ex
  cases r1 with
  | cons r rr =>
    cases rr
    cases r
    obtain ⟨its, rv, p', hz⟩ := I1.tuple hq
    have hal : a < s1.heap.objs.size := p'.lt
    refine call_enumerate_tuple p' fun h' he hit hsz hk => wpAny_pyIter_enum he ?_
    have I2 : Inv X pins σ H1 { s1 with heap := h' } := I1.kept (t' := s1.toks) hk
    refine ⟨s1.heap.objs.size + 1, [s1.heap.objs.size + 1, s1.heap.objs.size], _, _, H1, rfl, I2, turn_enumT a (s1.heap.objs.size + 1) s1.heap.objs.size (Nat.ne_of_lt hal) (Nat.ne_of_gt (Nat.lt_succ_of_lt hal)), ⟨⟨.none, he⟩, hit, Nat.succ_ne_self _⟩, fun b hb => ?_, q⟩
    have e' : b = s1.heap.objs.size + 1 ∨ b = s1.heap.objs.size := by simpa using hb
    have hle : s1.heap.objs.size ≤ b := by
      rcases e' with z | z
      · rw [z]; exact Nat.le_add_right _ _
      · rw [z]; exact Nat.le_refl _
    exact I1.fpOk hle (I1.hok.fresh hle)
/-- the items with their places -/
def numL {α : Type} (ds : List α) : List (Int × α) := (rngI 0 ds.length).zip ds
theorem numL_length {α : Type} (ds : List α) : (numL ds).length = ds.length := by unfold numL; rw [List.length_zip, rngI_length]; simp
theorem numL_get {α : Type} {ds : List α} {i : Nat} {d : Int × α} (h : (numL ds)[i]? = some d) : d.1 = i ∧ ds[i]? = some d.2 := by
  obtain ⟨d1, d2⟩ := d
  obtain ⟨h1, h2⟩ := List.getElem?_zip_eq_some.mp h
  obtain ⟨_, e⟩ := rngI_get h1
  exact ⟨by rw [e]; simp, h2⟩
section
variable {K : PySem.W.Frag} {σ : L2.St} {H : Hp} {ta tb te tl : TE} {α β : Type}
theorem src_enumT [PyI α] {ds : List α} (h : Ev ta σ H ds) : SrcT (iEnumT K (tCons ta tNil)) σ H (numL ds) := fun H1 g R r => ea_1 h H1 g _ fun vs H2 g2 ⟨v, d, ev, pd, a, xs, e1, ha, r1⟩ => by
  subst ev pd
  refine ⟨a, xs, by rw [e1], .of ha, r _ H2 g2 ⟨fun H3 k => ⟨xs, .of (k _ _ ha), by rw [numL_length, r1.1]; exact Nat.le_refl _⟩, fun H3 k i z hz => ?_⟩⟩
  obtain ⟨z1, z2⟩ := z
  obtain ⟨e0, hd⟩ := numL_get hz
  simp only at e0 hd
  obtain ⟨x, hx, rx⟩ := r1.get hd
  refine ⟨⟨xs, x, .of (k _ _ ha), hx⟩, fun v' H4 hv => ?_⟩
  obtain ⟨T, x', ev', hT, e4, hx'⟩ := hv
  have q1 := hx' xs (.of (k _ _ ha))
  rw [hx] at q1
  cases q1
  subst e4
  exact ⟨Gr.new hT, T, _, x, ev', upd_same, by rw [e0]; rfl, PyI.keep (k.trans (TupK.new hT)) rx⟩
theorem src_enumL [PyI α] {ds : List α} (h : Ev ta σ H (Ls.mk ds)) : SrcL (iEnum K (tCons ta tNil)) σ H (numL ds) := fun H1 g R r => ea_1 h H1 g _ fun vs H2 g2 ⟨v, d, ev, pd, a, xs, e1, ha, r1⟩ => by
  subst ev pd
  refine ⟨a, xs, by rw [e1], .of ha, r _ H2 a xs g2 ha ⟨fun H3 k => ⟨xs, .of k.1, by rw [numL_length, r1.1]; exact Nat.le_refl _⟩, fun H3 k i z hz => ?_⟩⟩
  obtain ⟨z1, z2⟩ := z
  obtain ⟨e0, hd⟩ := numL_get hz
  simp only at e0 hd
  obtain ⟨x, hx, rx⟩ := r1.get hd
  refine ⟨⟨xs, x, .of k.1, hx⟩, fun v' H4 hv => ?_⟩
  obtain ⟨T, x', ev', hT, e4, hx'⟩ := hv
  have q1 := hx' xs (.of k.1)
  rw [hx] at q1
  cases q1
  subst e4
  exact ⟨Gr.new hT, T, _, x, ev', upd_same, by rw [e0]; rfl, PyI.keep (k.2.trans (TupK.new hT)) rx⟩
end

/-! ### data as PyData: ==, in -/
class PyD (α : Type) extends Py α where
  toD : α → PyData
  dp : ∀ {K : PySem.W.Frag} {d : α} {v : V} {H : Hp}, rep d v H → Dp K H v (toD d)
  lay : ∀ d, (toD d).canLay0 = true
  dm : Nat
  dle : ∀ d, (toD d).depth ≤ dm
  eqv : ∀ a b, PyData.eqv (toD a) (toD b) = true ↔ a = b
theorem PyD.sh {α : Type} [PyD α] (h : PyD.dm α ≤ 64) (d : α) : SeqAt.shaped (PyD.toD d) = true := by
  unfold SeqAt.shaped
  rw [PyD.lay, Bool.true_and]
  exact decide_eq_true (Nat.le_trans (PyD.dle d) h)
theorem layAll {α : Type} {f : α → PyData} (h : ∀ d, (f d).canLay0 = true) : ∀ l : List α, PyData.canLayAll0 (l.map f) = true
  | [] => by simp [PyData.canLayAll0]
  | a :: l => by rw [List.map_cons, PyData.canLayAll0, h a, layAll h l]; rfl
theorem depAll {α : Type} {f : α → PyData} {n : Nat} (h : ∀ d, (f d).depth ≤ n) : ∀ l : List α, PyData.depthAll (l.map f) ≤ n
  | [] => by simp [PyData.depthAll]
  | a :: l => by rw [List.map_cons, PyData.depthAll]; exact Nat.max_le.mpr ⟨h a, depAll h l⟩
theorem eqvAll {α : Type} {f : α → PyData} (h : ∀ a b, PyData.eqv (f a) (f b) = true ↔ a = b) : ∀ l m : List α, PyData.eqvAll (l.map f) (m.map f) = true ↔ l = m
  | [], [] => by simp [PyData.eqvAll]
  | [], b :: m => by simp [PyData.eqvAll]
  | a :: l, [] => by simp [PyData.eqvAll]
  | a :: l, b :: m => by
    rw [List.map_cons, List.map_cons, PyData.eqvAll, Bool.and_eq_true, h a b, eqvAll h l m, List.cons.injEq]
theorem dpAll {α : Type} {f : α → PyData} {K : PySem.W.Frag} {H : Hp} {R : α → V → Prop} (h : ∀ d v, R d v → Dp K H v (f d)) : ∀ {l : List α} {xs : List V}, RL R l xs → DpAll K H xs (l.map f)
  | [], xs, r => by rw [r.nil_inv]; exact .nil
  | a :: l, xs, r => by
    obtain ⟨y, ys, rfl, r1, r2⟩ := r.uncons
    exact .cons (h a y r1) (dpAll h r2)
instance instPyDInt : PyD Int where
  toD := .int
  dp := fun h => (by rw [show _ = _ from h]; exact .int _)
  lay := fun _ => (by simp [PyData.canLay0])
  dm := 0
  dle := fun _ => (by simp [PyData.depth])
  eqv := fun a b => (by simp [PyData.eqv])
/-- immutable data that is PyD by the rep of PyI -/
class PyDI (α : Type) [PyI α] where
  toD : α → PyData
  dp : ∀ {K : PySem.W.Frag} {d : α} {v : V} {H : Hp}, PyI.rep d v H → Dp K H v (toD d)
  lay : ∀ d, (toD d).canLay0 = true
  dm : Nat
  dle : ∀ d, (toD d).depth ≤ dm
  eqv : ∀ a b, PyData.eqv (toD a) (toD b) = true ↔ a = b
instance (priority := 5) instPyDofI {α : Type} [PyI α] [PyDI α] : PyD α where
  toD := PyDI.toD
  dp := PyDI.dp
  lay := PyDI.lay
  dm := PyDI.dm α
  dle := PyDI.dle
  eqv := PyDI.eqv
instance instPyDIInt : PyDI Int where
  toD := .int
  dp := fun h => (by rw [show _ = _ from h]; exact .int _)
  lay := fun _ => (by simp [PyData.canLay0])
  dm := 0
  dle := fun _ => (by simp [PyData.depth])
  eqv := fun a b => (by simp [PyData.eqv])
instance instPyDIBool : PyDI Bool where
  toD := .bool
  dp := fun h => (by rw [show _ = _ from h]; exact .bl _)
  lay := fun _ => (by simp [PyData.canLay0])
  dm := 0
  dle := fun _ => (by simp [PyData.depth])
  eqv := fun a b => (by simp [PyData.eqv])
instance instPyDIPair {α β : Type} [PyI α] [PyI β] [PyDI α] [PyDI β] : PyDI (α × β) where
  toD := fun d => .tuple [PyDI.toD d.1, PyDI.toD d.2]
  dp := fun ⟨p, x, y, e, h, a, b⟩ => (by rw [e]; exact .tup (.of h) (.cons (PyDI.dp a) (.cons (PyDI.dp b) .nil)))
  lay := fun d => (by simp [PyData.canLay0, PyData.canLayAll0, PyDI.lay])
  dm := max (PyDI.dm α) (PyDI.dm β) + 1
  dle := fun d => (by
    have h1 := PyDI.dle d.1
    have h2 := PyDI.dle d.2
    simp only [PyData.depth, PyData.depthAll]
    omega)
  eqv := fun a b => (by
    simp only [PyData.eqv, PyData.eqvAll, Bool.and_eq_true, and_true]
    rw [PyDI.eqv, PyDI.eqv, Prod.ext_iff])
instance instPyDIList {α : Type} [PyI α] [PyDI α] : PyDI (List α) where
  toD := fun l => .tuple (l.map PyDI.toD)
  dp := fun ⟨p, xs, e, h, r⟩ => (by rw [e]; exact .tup (.of h) (dpAll (fun _ _ z => PyDI.dp z) r))
  lay := fun l => (by simp only [PyData.canLay0]; exact layAll PyDI.lay l)
  dm := PyDI.dm α + 1
  dle := fun l => (by simp only [PyData.depth]; exact Nat.succ_le_succ (depAll PyDI.dle l))
  eqv := fun l m => (by simp only [PyData.eqv]; exact eqvAll PyDI.eqv l m)
instance instPyDLs {α : Type} [PyD α] : PyD (Ls α) where
  toD := fun l => .list (l.l.map PyD.toD)
  dp := fun ⟨p, xs, e, h, r⟩ => (by rw [e]; exact .lst (.of h) (dpAll (fun _ _ z => PyD.dp z) r))
  lay := fun l => (by simp only [PyData.canLay0]; exact layAll PyD.lay l.l)
  dm := PyD.dm α + 1
  dle := fun l => (by simp only [PyData.depth]; exact Nat.succ_le_succ (depAll PyD.dle l.l))
  eqv := fun l m => (by
    simp only [PyData.eqv]
    rw [eqvAll PyD.eqv]
    exact ⟨fun h => by cases l; cases m; simp at h; rw [h], fun h => by rw [h]⟩)
theorem dec_of {p q : Prop} [Decidable q] {b : Bool} (h : b = true ↔ q) : b = decide q := by
  cases b with
  | true => exact (decide_eq_true (h.mp rfl)).symm
  | false => exact (decide_eq_false fun z => by have := h.mpr z; cases this).symm
section
variable {K : PySem.W.Frag} {σ : L2.St} {H : Hp} {ta tb te tl : TE} {α β : Type}
theorem ev_eqD [PyD α] [DecidableEq α] {a b : α} (ha : Ev ta σ H a) (hb : Ev tb σ H b) (hd : PyD.dm α ≤ 64 := by decide) : Ev (tOp (rEqD K) ta tb) σ H (decide (a = b)) := ev_op ha hb fun x y H rx ry Q q => by
  refine ⟨_, _, PyD.dp rx, PyD.dp ry, PyD.sh hd _, PyD.sh hd _, ?_⟩
  rw [dec_of (p := True) (PyD.eqv a b)]
  exact q _ _ H rfl (Gr.refl H) rfl
theorem ev_neD [PyD α] [DecidableEq α] {a b : α} (ha : Ev ta σ H a) (hb : Ev tb σ H b) (hd : PyD.dm α ≤ 64 := by decide) : Ev (tOp (rNeD K) ta tb) σ H (!decide (a = b)) := ev_op ha hb fun x y H rx ry Q q => by
  refine ⟨_, _, PyD.dp rx, PyD.dp ry, PyD.sh hd _, PyD.sh hd _, ?_⟩
  rw [dec_of (p := True) (PyD.eqv a b)]
  exact q _ _ H rfl (Gr.refl H) rfl
theorem any_eqv [PyD α] [DecidableEq α] {a : α} : ∀ l : List α, ((l.map PyD.toD).any fun z => PyData.eqv z (PyD.toD a)) = decide (a ∈ l)
  | [] => by simp
  | b :: l => by
    rw [List.map_cons, List.any_cons, any_eqv l, dec_of (p := True) (PyD.eqv b a)]
    by_cases h : b = a
    · simp [h]
    · have h2 : ¬ a = b := fun e => h e.symm
      simp [h, h2]
theorem ev_inL [PyD α] [DecidableEq α] {a : α} {l : List α} (ha : Ev ta σ H a) (hb : Ev tb σ H (Ls.mk l)) (hd : PyD.dm α ≤ 63 := by decide) : Ev (tOp (rInD K) ta tb) σ H (decide (a ∈ l)) := ev_op ha hb fun x y H rx ry Q q => by
  refine ⟨_, _, PyD.dp rx, PyD.dp ry, PyD.sh (Nat.le_trans hd (by decide)) _, PyD.sh (α := Ls α) (show PyD.dm α + 1 ≤ 64 from Nat.succ_le_succ hd) _, ?_⟩
  rw [any_eqv]
  exact q _ _ H rfl (Gr.refl H) rfl
theorem ev_notInL [PyD α] [DecidableEq α] {a : α} {l : List α} (ha : Ev ta σ H a) (hb : Ev tb σ H (Ls.mk l)) (hd : PyD.dm α ≤ 63 := by decide) : Ev (tOp (rNotInD K) ta tb) σ H (!decide (a ∈ l)) := ev_op ha hb fun x y H rx ry Q q => by
  refine ⟨_, _, PyD.dp rx, PyD.dp ry, PyD.sh (Nat.le_trans hd (by decide)) _, PyD.sh (α := Ls α) (show PyD.dm α + 1 ≤ 64 from Nat.succ_le_succ hd) _, ?_⟩
  rw [any_eqv]
  exact q _ _ H rfl (Gr.refl H) rfl
end
end Zw
/-! Z6: the order of data; sorted of lists, tuples, keys. -/
namespace Zw
open PySem L2 RZ PySem.Spec PyProof.Rows SrtO PySem.SeqAt Ob

def VL {α : Type} (R : α → Value → Prop) (ds : List α) (us : List Value) : Prop := ds.length = us.length ∧ ∀ (i : Nat) d u, ds[i]? = some d → us[i]? = some u → R d u
theorem VL.get {α : Type} {R : α → Value → Prop} {ds : List α} {us : List Value} (t : VL R ds us) {i : Nat} {d : α} (h : ds[i]? = some d) : ∃ x, us[i]? = some x ∧ R d x := by
  have hi : i < us.length := by rw [← t.1]; exact (List.getElem?_eq_some_iff.mp h).1
  exact ⟨us[i], by simp [hi], t.2 i d _ h (by simp [hi])⟩
/-- data with an order, by the values themselves -/
class PyO (α : Type) extends PyI α where
  vr : α → Value → Heap → Prop
  of_rep : ∀ {P : Program} {w : World} {H : Hp} {h : Heap} {d : α} {x : V} {u : Value}, HOk P w H h → rep d x H → RelV x u → vr d u h
  vkeep : ∀ {d : α} {u : Value} {h h' : Heap}, (∀ b o, h.get? b = some o → o.cls = .type "tuple" → h'.get? b = some o) → vr d u h → vr d u h'
  vfn : ∀ {d d' : α} {u : Value} {h : Heap}, vr d u h → vr d' u h → d = d'
  dec : DecidableEq α
  lt : α → α → Bool
  dep : Nat
  eqAt : ∀ {A : Around} {s : Shared} {a b : α} {u v : Value}, A.units + dep < cLine → vr a u s.heap → vr b v s.heap → EqAt A s u v (decide (a = b))
  ltAt : ∀ {A : Around} {s : Shared} {a b : α} {u v : Value}, A.units + dep < cLine → vr a u s.heap → vr b v s.heap → RcOp .Lt A s u v (lt a b)
  asym : ∀ a b : α, lt a b = true → lt b a = false
  ntr : ∀ a b c : α, lt b a = false → lt c b = false → lt c a = false
  tri : ∀ a b : α, lt a b = false → lt b a = false → a = b
instance instDecO {α : Type} [PyO α] : DecidableEq α := PyO.dec
theorem PyO.swo {α : Type} [PyO α] : Swo (PyO.lt (α := α)) := ⟨PyO.asym, fun x y z => PyO.ntr x y z⟩

instance instPyOInt : PyO Int where
  vr := fun i u _ => ∃ t, u = .int i t
  of_rep := fun _ r rv => (by rw [show _ = V.int _ from r] at rv; exact rv)
  vkeep := fun _ h => h
  vfn := fun ⟨t, e⟩ ⟨t', e'⟩ => (by rw [e] at e'; cases e'; rfl)
  dec := inferInstance
  lt := fun a b => decide (a < b)
  dep := 0
  eqAt := fun {A s a b u v} _ ⟨t, e⟩ ⟨t', e'⟩ => (by
    rw [e, e']
    have h : decide (a = b) = (a == b) := by rw [Bool.eq_iff_iff]; simp
    rw [h]
    exact EqAt.int_int a t b t')
  ltAt := fun {A s a b u v} _ ⟨t, e⟩ ⟨t', e'⟩ => (by rw [e, e']; exact RcOp.lt_int a b t t')
  asym := fun a b h => (by simp at h ⊢; omega)
  ntr := fun a b c h1 h2 => (by simp at h1 h2 ⊢; omega)
  tri := fun a b h1 h2 => (by simp at h1 h2; omega)

def lexG {α : Type} [DecidableEq α] (lt : α → α → Bool) : List α → List α → Bool
  | [], [] => false
  | [], _ :: _ => true
  | _ :: _, [] => false
  | a :: l, b :: m => if a = b then lexG lt l m else lt a b
theorem lexG_asym {α : Type} [DecidableEq α] {lt : α → α → Bool} (h : ∀ a b : α, lt a b = true → lt b a = false) : ∀ l m, lexG lt l m = true → lexG lt m l = false
  | [], [], q => by cases q
  | [], _ :: _, _ => rfl
  | _ :: _, [], q => by cases q
  | a :: l, b :: m, q => by
    unfold lexG at q ⊢
    by_cases e : a = b
    · rw [if_pos e] at q
      rw [if_pos e.symm]
      exact lexG_asym h l m q
    · rw [if_neg e] at q
      rw [if_neg (fun z => e z.symm)]
      exact h a b q
theorem lexG_tri {α : Type} [DecidableEq α] {lt : α → α → Bool} (h : ∀ a b : α, lt a b = false → lt b a = false → a = b) : ∀ l m, lexG lt l m = false → lexG lt m l = false → l = m
  | [], [], _, _ => rfl
  | [], _ :: _, q, _ => by cases q
  | _ :: _, [], _, q => by cases q
  | a :: l, b :: m, q, q' => by
    unfold lexG at q q'
    by_cases e : a = b
    · rw [if_pos e] at q
      rw [if_pos e.symm] at q'
      rw [e, lexG_tri h l m q q']
    · rw [if_neg e] at q
      rw [if_neg (fun z => e z.symm)] at q'
      exact absurd (h a b q q') e
theorem lexG_ntr {α : Type} [DecidableEq α] {lt : α → α → Bool} (h0 : ∀ a b : α, lt a b = true → lt b a = false) (h : ∀ a b c : α, lt b a = false → lt c b = false → lt c a = false) (h2 : ∀ a b : α, lt a b = false → lt b a = false → a = b) :
    ∀ l m n, lexG lt m l = false → lexG lt n m = false → lexG lt n l = false
  | [], [], n, _, q => q
  | [], _ :: _, [], _, q => by cases q
  | [], _ :: _, _ :: _, _, _ => rfl
  | _ :: _, [], _, q, _ => by cases q
  | _ :: _, _ :: _, [], _, q => by cases q
  | a :: l, b :: m, c :: n, q, q' => by
    unfold lexG at q q' ⊢
    by_cases e : b = a
    · rw [if_pos e] at q
      by_cases e' : c = b
      · rw [if_pos e'] at q'
        rw [if_pos (e'.trans e)]
        exact lexG_ntr h0 h h2 l m n q q'
      · rw [if_neg e'] at q'
        rw [if_neg (fun z => e' (z.trans e.symm)), ← e]
        exact q'
    · rw [if_neg e] at q
      by_cases e' : c = b
      · rw [if_neg (fun z => e (e'.symm.trans z)), e']
        exact q
      · rw [if_neg e'] at q'
        by_cases e2 : c = a
        · -- then lt b a = false, lt a b = false
          rw [e2] at q'
          exact absurd (h2 b a q q') e
        · rw [if_neg e2]
          exact h a b c q q'
theorem lexAt_shift {e r : Nat → Bool} {z : Bool} : ∀ (k i : Nat), lexAt e r z (i + 1) k = lexAt (fun j => e (j + 1)) (fun j => r (j + 1)) z i k
  | 0, _ => rfl
  | k + 1, i => by rw [lexAt_succ, lexAt_succ, lexAt_shift k (i + 1)]
theorem lexAt_lexG {α : Type} [DecidableEq α] [Inhabited α] {lt : α → α → Bool} : ∀ l m : List α, lexAt (fun j => decide (l.getD j default = m.getD j default)) (fun j => lt (l.getD j default) (m.getD j default)) (decide (l.length < m.length)) 0 (min l.length m.length) = lexG lt l m
  | [], [] => rfl
  | [], _ :: _ => by simp [lexAt_zero, lexG]
  | _ :: _, [] => by simp [lexAt_zero, lexG]
  | a :: l, b :: m => by
    have e : min (a :: l).length (b :: m).length = min l.length m.length + 1 := by simp only [List.length_cons]; omega
    rw [e, lexAt_succ, lexAt_shift]
    have h := lexAt_lexG (lt := lt) l m
    have e2 : decide ((a :: l).length < (b :: m).length) = decide (l.length < m.length) := by simp
    rw [e2]
    show (if decide (a = b) = true then lexAt (fun j => decide (l.getD j default = m.getD j default)) (fun j => lt (l.getD j default) (m.getD j default)) (decide (l.length < m.length)) 0 (min l.length m.length) else lt a b) = lexG lt (a :: l) (b :: m)
    rw [h]
    show _ = (if a = b then lexG lt l m else lt a b)
    by_cases e3 : a = b <;> simp [e3]
theorem lexAt_congr {e r e' r' : Nat → Bool} {z : Bool} : ∀ (k i : Nat), (∀ j, i ≤ j → j < i + k → e j = e' j ∧ (e j = false → r j = r' j)) → lexAt e r z i k = lexAt e' r' z i k
  | 0, _, _ => rfl
  | k + 1, i, h => by
    rw [lexAt_succ, lexAt_succ, lexAt_congr k (i + 1) fun j h1 h2 => h j (by omega) (by omega)]
    obtain ⟨h1, h2⟩ := h i (Nat.le_refl _) (by omega)
    rw [← h1]
    cases q : e i with
    | true => rfl
    | false => rw [h2 q]
def VTup {α : Type} (R : α → Value → Heap → Prop) (l : List α) (u : Value) (h : Heap) : Prop := ∃ a its, u = .ref a ∧ IsTup h a its ∧ VL (fun d u => R d u h) l its.toList
theorem VTup.size {α : Type} {R : α → Value → Heap → Prop} {l : List α} {a : Addr} {its : Array Value} {h : Heap} (v : VL (fun d u => R d u h) l its.toList) : its.size = l.length := by
  have := v.1
  rw [Array.length_toList] at this
  exact this.symm
theorem VL.arr {α : Type} [Inhabited α] {R : α → Value → Prop} {l : List α} {its : Array Value} (v : VL R l its.toList) {j : Nat} (h : j < its.size) : R (l.getD j default) its[j] := by
  have e0 : l.length = its.size := v.1.trans Array.length_toList
  have hl : j < l.length := by omega
  have e : l[j]? = some (l.getD j default) := by
    rw [List.getD_eq_getElem?_getD, List.getElem?_eq_getElem hl]; rfl
  exact v.2 j _ _ e (by rw [Array.getElem?_toList]; exact Array.getElem?_eq_getElem h)
theorem vals_vl {α : Type} {R : α → V → Prop} {R' : α → Value → Prop} {ds : List α} {xs : List V} {us : List Value} (r : RL R ds xs) (v : Vals xs us) (h : ∀ d x u, R d x → RelV x u → R' d u) : VL R' ds us := by
  refine ⟨r.1.trans v.length, fun i d u hd hu => ?_⟩
  obtain ⟨x, hx, rx⟩ := r.get hd
  obtain ⟨u', hu', ru⟩ := v.get hx
  rw [hu] at hu'
  cases hu'
  exact h d x u rx ru
theorem istup_keep {h h' : Heap} {a : Addr} {its : Array Value} (k : ∀ b o, h.get? b = some o → o.cls = .type "tuple" → h'.get? b = some o) (x : IsTup h a its) : IsTup h' a its := by
  obtain ⟨o, ho, hc, r⟩ := x
  exact ⟨o, k a o ho hc, hc, r⟩
theorem istup_fn {h : Heap} {a : Addr} {its its' : Array Value} (x : IsTup h a its) (y : IsTup h a its') : its = its' := by
  obtain ⟨o, ho, _, n, hd⟩ := x
  obtain ⟨o', ho', _, n', hd'⟩ := y
  rw [ho] at ho'
  cases ho'
  rw [hd] at hd'
  injection hd'
theorem all_range_get {α : Type} [DecidableEq α] [Inhabited α] : ∀ l m : List α, (((List.range (min l.length m.length)).all fun j => decide (l.getD j default = m.getD j default)) && decide (l.length = m.length)) = decide (l = m) := by
  intro l m
  rw [Bool.eq_iff_iff]
  simp only [Bool.and_eq_true, List.all_eq_true, List.mem_range, decide_eq_true_eq]
  constructor
  · rintro ⟨h1, h2⟩
    refine List.ext_getElem h2 fun i hi hj => ?_
    have := h1 i (by omega)
    rw [List.getD_eq_getElem?_getD, List.getD_eq_getElem?_getD, List.getElem?_eq_getElem hi, List.getElem?_eq_getElem hj] at this
    exact this
  · rintro rfl
    exact ⟨fun _ _ => rfl, rfl⟩
theorem units_in1 {A : Around} : A.in1.units = A.units + 1 := rfl
instance instPyOList {α : Type} [PyO α] [Inhabited α] : PyO (List α) where
  vr := VTup PyO.vr
  of_rep := fun {P w H h d x u} ok ⟨p, xs, e, hp, r⟩ rv => (by
    subst e
    cases rv
    obtain ⟨_, its, vs, ht⟩ := ok p _ hp
    exact ⟨p, its.toArray, rfl, ht, vals_vl (us := its.toArray.toList) r (by simpa using vs) fun d x u r rv => PyO.of_rep ok r rv⟩)
  vkeep := fun {d u h h'} k ⟨a, its, e, ht, r⟩ => ⟨a, its, e, istup_keep k ht, r.1, fun i d u h1 h2 => PyO.vkeep k (r.2 i d u h1 h2)⟩
  vfn := fun {d d' u h} ⟨a, its, e, ht, r⟩ ⟨a', its', e', ht', r'⟩ => (by
    rw [e] at e'
    cases e'
    have z := istup_fn ht ht'
    subst z
    refine List.ext_getElem? fun i => ?_
    by_cases hi : i < d.length
    · have hi' : i < d'.length := by rw [r'.1, ← r.1]; exact hi
      obtain ⟨u1, h1, q1⟩ := r.get (List.getElem?_eq_getElem hi)
      rw [List.getElem?_eq_getElem hi, List.getElem?_eq_getElem hi']
      exact congrArg some (PyO.vfn q1 (r'.2 i _ u1 (List.getElem?_eq_getElem hi') h1))
    · rw [List.getElem?_eq_none (by omega), List.getElem?_eq_none (by have := r.1; have := r'.1; omega)])
  dec := inferInstance
  lt := lexG PyO.lt
  dep := PyO.dep α + 1
  eqAt := fun {A s l m u v} hu ⟨a, its, e, ht, r⟩ ⟨b, its', e', ht', r'⟩ => (by
    rw [e, e']
    by_cases hab : a = b
    · subst hab
      have z := istup_fn ht ht'
      subst z
      have el : l = m := by
        refine List.ext_getElem? fun i => ?_
        by_cases hi : i < l.length
        · have hi' : i < m.length := by rw [r'.1, ← r.1]; exact hi
          obtain ⟨u1, h1, q1⟩ := r.get (List.getElem?_eq_getElem hi)
          rw [List.getElem?_eq_getElem hi, List.getElem?_eq_getElem hi']
          exact congrArg some (PyO.vfn q1 (r'.2 i _ u1 (List.getElem?_eq_getElem hi') h1))
        · rw [List.getElem?_eq_none (by omega), List.getElem?_eq_none (by have := r.1; have := r'.1; omega)]
      rw [decide_eq_true el]
      exact EqAt.same _
    · refine EqAt.of_refs hab ?_
      have q := RcAt.tuples (A := A) (s := s) (e := fun j => decide (l.getD j default = m.getD j default)) ht ht' (by omega) fun j h1 h2 => PyO.eqAt (by rw [units_in1]; omega) (r.arr h1) (r'.arr h2)
      have e1 := VTup.size (a := a) r
      have e2 := VTup.size (a := b) r'
      have e3 : (its.size == its'.size) = decide (l.length = m.length) := by rw [e1, e2, Bool.eq_iff_iff]; simp
      rw [e3, e1, e2, all_range_get] at q
      exact q)
  ltAt := fun {A s l m u v} hu ⟨a, its, e, ht, r⟩ ⟨b, its', e', ht', r'⟩ => (by
    rw [e, e']
    have q := RcOp.tuples_lt (A := A) (s := s) (e := fun j => decide (l.getD j default = m.getD j default)) (r := fun j => PyO.lt (l.getD j default) (m.getD j default)) ht ht' (by omega) (fun j h1 h2 => PyO.eqAt (by rw [units_in1]; omega) (r.arr h1) (r'.arr h2)) (fun j h1 h2 _ => PyO.ltAt (by rw [units_in1]; omega) (r.arr h1) (r'.arr h2))
    rw [VTup.size (a := a) r, VTup.size (a := b) r', lexAt_lexG] at q
    exact q)
  asym := lexG_asym PyO.asym
  ntr := fun a b c => lexG_ntr PyO.asym PyO.ntr PyO.tri a b c
  tri := lexG_tri PyO.tri

def VPair {α β : Type} (R : α → Value → Heap → Prop) (R' : β → Value → Heap → Prop) (d : α × β) (u : Value) (h : Heap) : Prop := ∃ a u1 u2, u = .ref a ∧ IsTup h a #[u1, u2] ∧ R d.1 u1 h ∧ R' d.2 u2 h
instance instPyOPair {α β : Type} [PyO α] [PyO β] : PyO (α × β) where
  vr := VPair PyO.vr PyO.vr
  of_rep := fun {P w H h d x u} ok ⟨p, x1, x2, e, hp, r1, r2⟩ rv => (by
    subst e
    cases rv
    obtain ⟨_, its, vs, ht⟩ := ok p _ hp
    obtain ⟨u1, u2, rfl, v1, v2⟩ := vals2 vs
    exact ⟨p, u1, u2, rfl, ht, PyO.of_rep ok r1 v1, PyO.of_rep ok r2 v2⟩)
  vkeep := fun {d u h h'} k ⟨a, u1, u2, e, ht, r1, r2⟩ => ⟨a, u1, u2, e, istup_keep k ht, PyO.vkeep k r1, PyO.vkeep k r2⟩
  vfn := fun {d d' u h} ⟨a, u1, u2, e, ht, r1, r2⟩ ⟨a', u1', u2', e', ht', r1', r2'⟩ => (by
    rw [e] at e'
    cases e'
    have z := istup_fn ht ht'
    have zl := congrArg Array.toList z
    simp only [List.cons.injEq, and_true] at zl
    obtain ⟨z1, z2⟩ := zl
    subst z1 z2
    exact Prod.ext (PyO.vfn r1 r1') (PyO.vfn r2 r2'))
  dec := inferInstance
  lt := fun p q => if p.1 = q.1 then PyO.lt p.2 q.2 else PyO.lt p.1 q.1
  dep := max (PyO.dep α) (PyO.dep β) + 1
  eqAt := fun {A s l m u v} hu ⟨a, u1, u2, e, ht, r1, r2⟩ ⟨b, u1', u2', e', ht', r1', r2'⟩ => (by
    rw [e, e']
    by_cases hab : a = b
    · subst hab
      have z := istup_fn ht ht'
      have zl := congrArg Array.toList z
      simp only [List.cons.injEq, and_true] at zl
      obtain ⟨z1, z2⟩ := zl
      subst z1 z2
      rw [decide_eq_true (show l = m from Prod.ext (PyO.vfn r1 r1') (PyO.vfn r2 r2'))]
      exact EqAt.same _
    · refine EqAt.of_refs hab ?_
      have q := RcAt.tuples (A := A) (s := s) (e := fun j => if j = 0 then decide (l.1 = m.1) else decide (l.2 = m.2)) ht ht' (by omega) fun j h1 h2 => by
        match j, h1, h2 with
        | 0, _, _ => exact PyO.eqAt (by rw [units_in1]; omega) r1 r1'
        | 1, _, _ => exact PyO.eqAt (by rw [units_in1]; omega) r2 r2'
        | j + 2, h1, _ => exact absurd h1 (by simp)
      have e2 : ((List.range (min (#[u1, u2] : Array Value).size (#[u1', u2'] : Array Value).size)).all (fun j => if j = 0 then decide (l.1 = m.1) else decide (l.2 = m.2)) && (#[u1, u2] : Array Value).size == (#[u1', u2'] : Array Value).size) = decide (l = m) := by
        rw [Bool.eq_iff_iff]
        show ((List.range 2).all (fun j => if j = 0 then decide (l.1 = m.1) else decide (l.2 = m.2)) && true) = true ↔ _
        simp [List.range_succ, Prod.ext_iff]
      rw [e2] at q
      exact q)
  ltAt := fun {A s l m u v} hu ⟨a, u1, u2, e, ht, r1, r2⟩ ⟨b, u1', u2', e', ht', r1', r2'⟩ => (by
    rw [e, e']
    have q := RcOp.tuples_lt (A := A) (s := s) (e := fun j => if j = 0 then decide (l.1 = m.1) else decide (l.2 = m.2)) (r := fun j => if j = 0 then PyO.lt l.1 m.1 else PyO.lt l.2 m.2) ht ht' (by omega)
      (fun j h1 h2 => by
        match j, h1, h2 with
        | 0, _, _ => exact PyO.eqAt (by rw [units_in1]; omega) r1 r1'
        | 1, _, _ => exact PyO.eqAt (by rw [units_in1]; omega) r2 r2'
        | j + 2, h1, _ => exact absurd h1 (by simp))
      (fun j h1 h2 _ => by
        match j, h1, h2 with
        | 0, _, _ => exact PyO.ltAt (by rw [units_in1]; omega) r1 r1'
        | 1, _, _ => exact PyO.ltAt (by rw [units_in1]; omega) r2 r2'
        | j + 2, h1, _ => exact absurd h1 (by simp))
    have e2 : lexAt (fun j => if j = 0 then decide (l.1 = m.1) else decide (l.2 = m.2)) (fun j => if j = 0 then PyO.lt l.1 m.1 else PyO.lt l.2 m.2) (decide ((#[u1, u2] : Array Value).size < (#[u1', u2'] : Array Value).size)) 0 (min (#[u1, u2] : Array Value).size (#[u1', u2'] : Array Value).size) = (if l.1 = m.1 then PyO.lt l.2 m.2 else PyO.lt l.1 m.1) := by
      show lexAt (fun j => if j = 0 then decide (l.1 = m.1) else decide (l.2 = m.2)) (fun j => if j = 0 then PyO.lt l.1 m.1 else PyO.lt l.2 m.2) false 0 2 = _
      rw [lexAt_succ, lexAt_succ, lexAt_zero]
      simp only [if_true, if_neg (show ¬ (0 + 1 = 0) by decide), decide_eq_true_eq]
      by_cases h1 : l.1 = m.1
      · rw [if_pos h1, if_pos h1]
        by_cases h2 : l.2 = m.2
        · rw [if_pos h2, h2]
          cases q : PyO.lt m.2 m.2 with
          | false => rfl
          | true => have z := PyO.asym _ _ q; rw [q] at z; cases z
        · rw [if_neg h2]
      · rw [if_neg h1, if_neg h1]
    rw [e2] at q
    exact q)
  asym := fun a b h => (by
    by_cases e : a.1 = b.1
    · rw [if_pos e] at h
      rw [if_pos e.symm]
      exact PyO.asym _ _ h
    · rw [if_neg e] at h
      rw [if_neg (fun z => e z.symm)]
      exact PyO.asym _ _ h)
  ntr := fun a b c h1 h2 => (by
    by_cases e : b.1 = a.1
    · rw [if_pos e] at h1
      by_cases e' : c.1 = b.1
      · rw [if_pos e'] at h2
        rw [if_pos (e'.trans e)]
        exact PyO.ntr _ _ _ h1 h2
      · rw [if_neg e'] at h2
        rw [if_neg (fun z => e' (z.trans e.symm)), ← e]
        exact h2
    · rw [if_neg e] at h1
      by_cases e' : c.1 = b.1
      · rw [if_neg (fun z => e (e'.symm.trans z)), e']
        exact h1
      · rw [if_neg e'] at h2
        by_cases e2 : c.1 = a.1
        · rw [e2] at h2
          exact absurd (PyO.tri _ _ h1 h2) e
        · rw [if_neg e2]
          exact PyO.ntr _ _ _ h1 h2)
  tri := fun a b h1 h2 => (by
    by_cases e : a.1 = b.1
    · rw [if_pos e] at h1
      rw [if_pos e.symm] at h2
      exact Prod.ext e (PyO.tri _ _ h1 h2)
    · rw [if_neg e] at h1
      rw [if_neg (fun z => e z.symm)] at h2
      exact absurd (PyO.tri _ _ h1 h2) e)

/-! ### what may be sorted -/
class PySrt (α : Type) [PyO α] where
  ok : α → Prop
  srt : ∀ {prog : Program} {w : World} {A : Around} {s : Shared} {a : Addr} {us : List Value} (k : Value → α), A.units + 62 < cLine → (∀ u ∈ us, PyO.vr (k u) u s.heap ∧ ok (k u)) → 2 ≤ us.length → (∀ o, s.heap.get? a = some o → o.cls ≠ .type "tuple") →
    SortableO prog w A s a us fun u v => PyO.lt (k u) (k v)
instance instSrtInt : PySrt Int where
  ok := fun _ => True
  srt := fun {prog w A s a us} k hu h h2 ha => (by
    have hi : ∀ v ∈ us, ∃ i t, v = .int i t := fun v hv => by obtain ⟨t, e⟩ := (h v hv).1; exact ⟨_, t, e⟩
    have q := ints_sortable (prog := prog) (w := w) (A := A) (s := s) (a := a) (ints_iv hi) h2
    intro h' keep
    obtain ⟨κ, k1, k2⟩ := q h' keep
    refine ⟨κ, k1, fun p q hp hq => ?_⟩
    have e1 : iv p.1 = k p.1 := by obtain ⟨t, e⟩ := (h p.1 hp).1; rw [e, ← e]; rw [show iv p.1 = iv (.int (k p.1) t) by rw [← e]]; rfl
    have e2 : iv q.1 = k q.1 := by obtain ⟨t, e⟩ := (h q.1 hq).1; rw [show iv q.1 = iv (.int (k q.1) t) by rw [← e]]; rfl
    have z := k2 p q hp hq
    have e3 : lt2 ltIv p q = lt2 (fun u v => PyO.lt (k u) (k v)) p q := by
      show decide (iv p.1 < iv q.1) = decide (k p.1 < k q.1)
      rw [e1, e2]
    rw [e3] at z
    exact z)
/-- the lexicographic test -/
theorem oneLt_any {prog : Program} {w : World} {A : Around} {s : Shared} {u v : Value} {b : Bool} {Q : Bool → Shared → Prop} {E : Value → Shared → Prop} (h : RcOp .Lt A s u v b) (q : Q b s) : wpAny (model prog w) A (oneLt' false u v) Q E s :=
  PySem.W.kat_one _ _ (show wpAny (model prog w) A (compareOp .Lt u v) (PySem.W.BoolBack Q) E s from h prog w E _ q)
instance instSrtPair {β : Type} [PyO β] : PySrt (Int × β) where
  ok := fun _ => PyO.dep β ≤ 60
  srt := fun {prog w A s a us} k hu h h2 ha => (by
    intro h' keep
    have hv : ∀ u ∈ us, PyO.vr (k u) u h' := fun u hm => PyO.vkeep (fun b o e c => keep b o (fun z => by subst z; exact ha o e c) e) (h u hm).1
    have hdep : ∃ u ∈ us, True := by
      match us, h2 with
      | u :: _, _ => exact ⟨u, List.mem_cons_self, trivial⟩
    obtain ⟨u0, hu0, _⟩ := hdep
    have hd : PyO.dep β ≤ 60 := (h u0 hu0).2
    have hfs : ∀ vs : List Value, (∀ u ∈ vs, PyO.vr (k u) u h') → ∃ fs : List Value, PySem.W.KatTups h' vs fs ∧ fs.length = vs.length ∧ ∀ f ∈ fs, ∃ i t, f = Value.int i t := by
      intro vs
      induction vs with
      | nil => intro _; exact ⟨[], trivial, rfl, fun f hf => by cases hf⟩
      | cons v vs ih =>
        intro hm
        obtain ⟨fs, q1, q2, q3⟩ := ih fun u hu => hm u (List.mem_cons_of_mem _ hu)
        obtain ⟨b, u1, u2, e, ⟨o, ho, hc, n, hdd⟩, ⟨t, e1⟩, _⟩ := hm v List.mem_cons_self
        subst e
        exact ⟨u1 :: fs, PySem.W.KatTups.cons ho hc hdd rfl q1, by simp [q2], fun f hf => by
          rcases List.mem_cons.mp hf with z | z
          · rw [z]; exact ⟨_, t, e1⟩
          · exact q3 f z⟩
    obtain ⟨fs, h1, hl, h3⟩ := hfs us hv
    refine ⟨tuples' true, fun Q E hq => ?_, fun p q hp hq => ?_⟩
    · refine PySem.W.kat_kind (T := .type "int") h1 (by omega) (fun f hm => ?_) (by rfl) ?_
      · obtain ⟨x, t, rfl⟩ := h3 f hm
        exact PySem.W.Looks.now
      · have e : (Value.type "int" != Value.type "tuple") = true := by first | decide +kernel | rfl | decide
        rw [e]
        exact hq
    · obtain ⟨b1, u1, u2, e, ⟨o, ho, hc, n, hdd⟩, ⟨t, e1⟩, r2⟩ := hv _ hp
      obtain ⟨b1', u1', u2', e', ⟨o', ho', hc', n', hdd'⟩, ⟨t', e1'⟩, r2'⟩ := hv _ hq
      show wpAny (model prog w) A (keyLt' (tuples' true) p.1 q.1) (fun r s' => s' = { s with heap := h' } ∧ r = PyO.lt (k p.1) (k q.1)) (fun _ _ => False) { s with heap := h' }
      generalize k p.1 = x at r2 e1 ⊢
      generalize k q.1 = y at r2' e1' ⊢
      rw [e, e']
      refine PySem.W.kat_lt (s := { s with heap := h' }) ho hdd ho' hdd' ?_
      show PySem.W.KatLex prog w A true (decide (2 < 2)) _ [(u1, u1'), (u2, u2')] 0 _
      rw [e1, e1']
      refine PySem.W.kat_cons (SeqAt.EqAt.int_int _ t _ t' prog w _ _ ?_)
      refine PySem.W.kat_go (fun q1 => ?_) (fun q1 => ?_)
      · have ex : x.1 = y.1 := by simpa using q1
        refine PySem.W.kat_yes (PySem.W.kat_cons (PyO.eqAt (s := { s with heap := h' }) (by omega) r2 r2' prog w _ _ ?_))
        refine PySem.W.kat_go (fun q2 => ?_) (fun q2 => ?_)
        · have ey : x.2 = y.2 := by simpa using q2
          refine PySem.W.kat_yes (PySem.W.kat_nil ⟨rfl, ?_⟩)
          show decide (2 < 2) = (if x.1 = y.1 then PyO.lt x.2 y.2 else _)
          rw [if_pos ex, ey]
          cases q : PyO.lt y.2 y.2 with
          | false => rfl
          | true => have z := PyO.asym _ _ q; rw [q] at z; cases z
        · refine PySem.W.kat_no (oneLt_any (PyO.ltAt (s := { s with heap := h' }) (by omega) r2 r2') ⟨rfl, ?_⟩)
          show PyO.lt x.2 y.2 = (if x.1 = y.1 then PyO.lt x.2 y.2 else _)
          rw [if_pos ex]
      · have ex : ¬ x.1 = y.1 := by simpa using q1
        refine PySem.W.kat_no (oneLt_int ⟨rfl, ?_⟩)
        show decide (x.1 < y.1) = (if x.1 = y.1 then _ else decide (x.1 < y.1))
        rw [if_neg ex])
theorem oneLt_intsB {prog : Program} {w : World} {A : Around} {E : Value → Shared → Prop} {s : Shared} {Q : Bool → Shared → Prop} (c : Bool) {p q : Int} {t u : Tok} (h : Q (decide (p < q)) s) : wpAny (model prog w) A (oneLt' c (.int p t) (.int q u)) Q E s := by
  cases c with
  | true => exact oneLt_int h
  | false => exact PySem.W.kat_one _ _ (PyProof.Rows.lt_int (Q := PySem.W.BoolBack Q) h)
theorem katLex_ints {prog : Program} {w : World} {A : Around} {b fin : Bool} {Q : Bool → Shared → Prop} {s : Shared} : ∀ (l m : List Int) (us vs : List Value) (i : Nat), VL (fun d u => PyO.vr d u s.heap) l us → VL (fun d u => PyO.vr d u s.heap) m vs → (∀ r, (r = if (l.take m.length) = (m.take l.length) then fin else lexG (PyO.lt (α := Int)) l m) → Q r s) →
    PySem.W.KatLex prog w A b fin Q (us.zip vs) i s := by
  intro l
  induction l with
  | nil =>
    intro m us vs i h1 h2 hq
    have e : us = [] := List.eq_nil_of_length_eq_zero h1.1.symm
    rw [e, List.zip_nil_left]
    exact PySem.W.kat_nil (hq _ (by simp))
  | cons x l ih =>
    intro m us vs i h1 h2 hq
    cases m with
    | nil =>
      have e : vs = [] := List.eq_nil_of_length_eq_zero h2.1.symm
      rw [e, List.zip_nil_right]
      exact PySem.W.kat_nil (hq _ (by simp))
    | cons y m =>
      match us, vs, h1, h2 with
      | u :: us, v :: vs, h1, h2 =>
        obtain ⟨t, e⟩ := h1.2 0 x u rfl rfl
        obtain ⟨t', e'⟩ := h2.2 0 y v rfl rfl
        subst e e'
        rw [List.zip_cons_cons]
        refine PySem.W.kat_cons (SeqAt.EqAt.int_int _ t _ t' prog w _ _ ?_)
        refine PySem.W.kat_go (fun q1 => ?_) (fun q1 => ?_)
        · have ex : x = y := by simpa using q1
          refine PySem.W.kat_yes (ih m us vs (i + 1) ⟨by have := h1.1; simpa using this, fun j d u a b => h1.2 (j + 1) d u (by simpa using a) (by simpa using b)⟩ ⟨by have := h2.1; simpa using this, fun j d u a b => h2.2 (j + 1) d u (by simpa using a) (by simpa using b)⟩ fun r hr => hq r ?_)
          subst ex
          rw [hr]
          show _ = if (x :: l).take (m.length + 1) = (x :: m).take (l.length + 1) then fin else (if x = x then lexG (PyO.lt (α := Int)) l m else _)
          simp only [List.take_succ_cons, List.cons.injEq, true_and, if_true]
        · have ex : ¬ x = y := by simpa using q1
          refine PySem.W.kat_no (oneLt_intsB _ (hq _ ?_))
          show decide (x < y) = if (x :: l).take (m.length + 1) = (y :: m).take (l.length + 1) then fin else (if x = y then lexG (PyO.lt (α := Int)) l m else decide (x < y))
          simp only [List.take_succ_cons, List.cons.injEq, ex, false_and, if_false]
      | [], _, h1, _ => exact absurd h1.1 (by simp)
      | _ :: _, [], _, h2 => exact absurd h2.1 (by simp)
theorem lexG_take : ∀ (l m : List Int), (l.take m.length) = (m.take l.length) → decide (l.length < m.length) = lexG (PyO.lt (α := Int)) l m
  | [], [], _ => rfl
  | [], _ :: _, _ => by simp [lexG]
  | _ :: _, [], _ => by simp [lexG]
  | x :: l, y :: m, h => by
    simp only [List.length_cons, List.take_succ_cons, List.cons.injEq] at h
    have q := lexG_take l m h.2
    show decide (l.length + 1 < m.length + 1) = if x = y then lexG (PyO.lt (α := Int)) l m else _
    rw [if_pos h.1, ← q]
    simp
instance instSrtList : PySrt (List Int) where
  ok := fun l => l ≠ []
  srt := fun {prog w A s a us} k hu h h2 ha => (by
    intro h' keep
    have hv : ∀ u ∈ us, PyO.vr (k u) u h' ∧ k u ≠ [] := fun u hm => ⟨PyO.vkeep (fun b o e c => keep b o (fun z => by subst z; exact ha o e c) e) (h u hm).1, (h u hm).2⟩
    have hfs : ∀ vs : List Value, (∀ u ∈ vs, PyO.vr (k u) u h' ∧ k u ≠ []) → ∃ fs : List Value, PySem.W.KatTups h' vs fs ∧ fs.length = vs.length ∧ ∀ f ∈ fs, ∃ i t, f = Value.int i t := by
      intro vs
      induction vs with
      | nil => intro _; exact ⟨[], trivial, rfl, fun f hf => by cases hf⟩
      | cons v vs ih =>
        intro hm
        obtain ⟨fs, q1, q2, q3⟩ := ih fun u hu => hm u (List.mem_cons_of_mem _ hu)
        obtain ⟨⟨b, its, e, ⟨o, ho, hc, n, hdd⟩, r⟩, ne⟩ := hm v List.mem_cons_self
        subst e
        obtain ⟨x, l, el⟩ := List.exists_cons_of_ne_nil ne
        obtain ⟨f, hf, t, ef⟩ := r.get (i := 0) (d := x) (by rw [el]; rfl)
        exact ⟨f :: fs, PySem.W.KatTups.cons ho hc hdd (by rw [← Array.getElem?_toList]; exact hf) q1, by simp [q2], fun g hg => by
          rcases List.mem_cons.mp hg with z | z
          · rw [z]; exact ⟨_, t, ef⟩
          · exact q3 g z⟩
    obtain ⟨fs, h1, hl, h3⟩ := hfs us hv
    refine ⟨tuples' true, fun Q E hq => ?_, fun p q hp hq => ?_⟩
    · refine PySem.W.kat_kind (T := .type "int") h1 (by omega) (fun f hm => ?_) (by rfl) ?_
      · obtain ⟨x, t, rfl⟩ := h3 f hm
        exact PySem.W.Looks.now
      · have e : (Value.type "int" != Value.type "tuple") = true := by first | decide +kernel | rfl | decide
        rw [e]
        exact hq
    · obtain ⟨⟨b1, its, e, ⟨o, ho, hc, n, hdd⟩, r⟩, _⟩ := hv _ hp
      obtain ⟨⟨b1', its', e', ⟨o', ho', hc', n', hdd'⟩, r'⟩, _⟩ := hv _ hq
      show wpAny (model prog w) A (keyLt' (tuples' true) p.1 q.1) (fun r s' => s' = { s with heap := h' } ∧ r = PyO.lt (k p.1) (k q.1)) (fun _ _ => False) { s with heap := h' }
      generalize k p.1 = x at r ⊢
      generalize k q.1 = y at r' ⊢
      rw [e, e']
      refine PySem.W.kat_lt (s := { s with heap := h' }) ho hdd ho' hdd' ?_
      have z1 := VTup.size (a := b1) r
      have z2 := VTup.size (a := b1') r'
      refine katLex_ints (s := { s with heap := h' }) x y _ _ 0 r r' fun r0 hr0 => ⟨rfl, ?_⟩
      rw [hr0, z1, z2]
      show (if x.take y.length = y.take x.length then decide (x.length < y.length) else lexG PyO.lt x y) = lexG PyO.lt x y
      by_cases hc : x.take y.length = y.take x.length
      · rw [if_pos hc, lexG_take x y hc]
      · rw [if_neg hc])
end Zw
/-! Z7: sorted(..) of lists, tuples, keys of dicts; < of data. -/
namespace Zw
open PySem L2 RZ PySem.Spec PyProof.Rows SrtO PySem.SeqAt Ob

/-- what the items of a thing are -/
inductive Coll (H : Hp) (a : Addr) (P : List V → Prop) : Prop where
  | lst {xs : List V} (h : H a = some (.lst xs)) (p : P xs)
  | tup {xs : List V} (h : H a = some (.tup xs)) (p : P xs)
  | dK {kvs : List (Key × V)} (h : H a = some (.dK kvs)) (p : P (kvs.map fun kv => kV kv.1))
  | dT {kvs : List (List Key × V)} (h : H a = some (.dT kvs)) (p : ∀ bs, IsKeys H kvs bs → P (bs.map V.ref))
section
variable {X : Cx}
theorem collect_coll (hc : X.calm = true) {A : Around} (hA : A.handled = none) {pins : List (Addr × Obj)} {s : Shared} {σ : L2.St} {H : Hp} {a : Addr} {P : List V → Prop} {Q : List Value → Shared → Prop} {E : Value → Shared → Prop} (I : Inv X pins σ H s) (c : Coll H a P)
    (h : ∀ (h' : Heap) (tk : Nat) (us : List Value) (xs : List V), (∀ b o, s.heap.get? b = some o → h'.get? b = some o) → Vals xs us → P xs → us.length ≤ sizeLine → Q us { s with heap := h', toks := tk }) : wpAny (model X.prog X.w) A (collect (.ref a)) Q E s := by
  cases c with
  | @lst xs e p =>
    obtain ⟨z, its, n, v, ho⟩ := I.hok a _ e
    refine wpAny_collect_seq a (.inl rfl) ho rfl rfl (fun h' k => ?_) (by rw [List.size_toArray, ← v.length]; exact z)
    exact h h' s.toks _ xs k (by simpa using v) p (by simpa [← v.length] using z)
  | @tup xs e p =>
    obtain ⟨z, its, v, o, ho, hcl, n, hd⟩ := I.hok a _ e
    refine wpAny_collect_seq a (.inr rfl) ho hcl hd (fun h' k => ?_) (by rw [List.size_toArray, ← v.length]; exact z)
    exact h h' s.toks _ xs k (by simpa using v) p (by simpa [← v.length] using z)
  | @dK kvs e p =>
    obtain ⟨z, lo, vs, rel, dd⟩ := dk_rd I.hok (.of e)
    obtain ⟨ep, hat⟩ := dd.dictAt
    have hl : kvs.length = vs.length := rel.length
    refine PySem.W.kdu_collect (A := A) (PySem.W.kdl_dict (knd := mixKind X.prog X.w) (kvs := vs) (ep := ep) lo) hA hat (by rw [← hl]; exact z) fun h' tk acc hk hacc => ?_
    have hal : acc.toList.length = vs.length := by rw [Array.length_toList, hacc.1]
    have hv : Vals (vs.map fun p => kV p.1) acc.toList := keys_at hal fun j v e => by
      obtain ⟨k, x, e1, e2⟩ := hacc.2 j v (by rw [← Array.getElem?_toList]; exact e)
      exact ⟨k, x, e1, e2⟩
    have e1 : (kvs.map fun kv => kV kv.1) = vs.map fun p => kV p.1 := by
      have q : (kvs.map (·.1)) = vs.map (·.1) := rel.keys
      have q1 := congrArg (List.map kV) q
      rw [List.map_map, List.map_map] at q1
      exact q1
    exact h h' tk _ _ hk (by rw [e1]; exact hv) p (by rw [hal, ← hl]; exact z)
  | @dT kvs e p =>
    obtain ⟨z, hs, ks, pr, o, es, ep, ho, hx, hdt, he, hn⟩ := (show ObjOk X.prog X.w H s.heap a (.dT kvs) from I.hok a _ e)
    have l1 : es.size = ks.length := size_of_entries he
    have l2 : kvs.length = ks.length := Paired.length pr
    refine PySem.W.kdu_collect (A := A) (kdl_raw hs hx hdt) hA ho (by omega) fun h' tk acc' kp it => ?_
    have ea : acc'.toList = ks.map fun x => Value.ref x.2.1 := by
      have hl : acc'.toList.length = ks.length := by rw [Array.length_toList, it.1]; exact l1
      apply List.ext_getElem?
      intro j
      rw [List.getElem?_map]
      cases hj : acc'.toList[j]? with
      | none =>
        have h1 := List.getElem?_eq_none_iff.mp hj
        rw [List.getElem?_eq_none (by omega)]
        all_goals rfl
      | some v =>
        obtain ⟨en, hen, hv⟩ := it.2 j v (by rw [← Array.getElem?_toList]; exact hj)
        have qe := entry_at he j
        rw [hen] at qe
        cases hb : ks[j]? with
        | none =>
          rw [hb] at qe
          exact nomatch (show some en = none from qe)
        | some b =>
          rw [hb] at qe
          have e2 : en = entryOfKey (tupleKind (mixKind X.prog X.w)) b := Option.some.inj qe
          rw [hv, e2]
          all_goals rfl
    have eb : acc'.toList = (ks.map fun x => x.2.1).map Value.ref := by rw [ea, List.map_map]; all_goals rfl
    exact h h' tk _ ((ks.map fun x => x.2.1).map V.ref) kp (by rw [eb]; exact vals_refs _) (p _ (isKeys_of pr)) (by rw [eb, List.length_map, List.length_map]; omega)

/-- sorted(x) -/
def rSortedG : List V → Hp → VK → Prop := fun vs H Q => ∃ (α : Type) (o : PyO α) (srt : PySrt α) (ds : List α) (a : Addr), vs = [.ref a] ∧ Coll H a (fun xs => RL (fun d x => PyI.rep d x H) ds xs) ∧ (∀ d ∈ ds, PySrt.ok d) ∧
  ∀ p ys ds', ds'.Perm ds → Srtd PyO.lt ds' → H p = none → RL (fun d x => PyI.rep d x H) ds' ys → Q (.ref p) (upd H p (.lst ys))
theorem cr_sortedG (hcalm : X.calm = true) (hu : X.A.units + 64 < cLine) : CallR X (.builtin "sorted") rSortedG := by
  intro pins s σ H xs us Q I r q
  obtain ⟨α, o, srt, ds, a, rfl, c, hok, q⟩ := q
  obtain ⟨u, rfl, rx⟩ := vals1 r
  cases rx
  refine Calls.call_function_entry PyProof.Rows.kind_sorted PyProof.Rows.plain_sorted PyProof.Rows.entry_sorted (PyProof.Rows.args_sorted1 _) ?_
  unfold Builtin.«sorted»
  refine wpAny_bind (m := checkCount "sorted" 1 1 _) (wpAny_pure ?_)
  refine wpAny_bind (collect_coll hcalm (A := X.A.in1) (I.ok.hd hcalm) I c fun h' tk us xs hk hv hr hz => ?_)
  have I1 : Inv X pins σ H { s with heap := h', toks := tk } := I.kept hk
  refine wpAny_bind (wpAny_newList ?_ hz)
  have hoL : (h'.push (seqObj "list" us.toArray 0)).get? h'.objs.size = some (seqObj "list" us.toArray 0) := Heap.get?_push_size _ rfl
  show wpAny _ _ _ _ _ { s with heap := h'.push (seqObj "list" us.toArray 0), toks := tk }
  -- the data of the values
  have hvl : VL (fun d u => PyO.vr d u h') ds us := vals_vl hr hv fun d x u r rv => PyO.of_rep I1.hok r rv
  have hex : ∀ u ∈ us, ∃ d ∈ ds, PyO.vr d u h' := fun u hm => by
    obtain ⟨i, hi⟩ := List.mem_iff_getElem?.mp hm
    have hi' : i < ds.length := by rw [hvl.1]; exact (List.getElem?_eq_some_iff.mp hi).1
    exact ⟨ds[i], List.getElem_mem hi', hvl.2 i _ u (List.getElem?_eq_getElem hi') hi⟩
  by_cases h0 : ds = []
  · -- nothing to sort
    subst h0
    have e0 : us = [] := List.eq_nil_of_length_eq_zero hvl.1.symm
    subst e0
    refine wpAny_bind (wpAny_holding (wpAny_call_entry PyProof.Rows.slot_list_sort ⟨_, hoL, rfl⟩ PyProof.Rows.entry_list_sort
      (list_sort_ord (ltv := fun _ _ => false) (s := { s with heap := h'.push (seqObj "list" ([] : List Value).toArray 0), toks := tk }) ⟨fun _ _ h => (by cases h), fun _ _ _ h _ => h⟩ hoL hz (fun h2 => absurd h2 (by decide)) fun out h1 h2 => ⟨_, rfl, ?_⟩) (PyProof.Rows.args_list_sort _)))
    have e1 : out = [] := List.eq_nil_of_length_eq_zero (by rw [h2.len]; rfl)
    subst e1
    obtain ⟨ep, he'⟩ := PyProof.Rows.sortedHeap_at (vs := ([] : List Value)) (out := ([] : List Value).toArray) hoL
    refine wpAny_pure ⟨_, rfl, .ref h'.objs.size, upd H h'.objs.size (.lst []), ?_, rfl, q _ [] [] (List.Perm.refl _) List.Pairwise.nil (I1.hok.fresh (Nat.le_refl _)) RL.nil⟩
    refine I1.laid (t' := tk) (o := .lst []) (fun b o e => ?_) (Nat.le_refl _) ⟨Nat.zero_le _, [], _, .nil, he'⟩
    rw [PyProof.Rows.sortedHeap_old (Nat.ne_of_lt (Heap.lt_size e)) (by rw [Heap.size_push]; exact Nat.lt_succ_of_lt (Heap.lt_size e))]
    exact Heap.get?_push_of_some _ e
  · obtain ⟨d0, hd0⟩ : ∃ d, d ∈ ds := by cases ds with
      | nil => exact absurd rfl h0
      | cons d l => exact ⟨d, List.mem_cons_self⟩
    obtain ⟨k, hk0⟩ : ∃ k : Value → α, ∀ u, (∃ d ∈ ds, PyO.vr d u h') → k u ∈ ds ∧ PyO.vr (k u) u h' := by
      classical
      refine ⟨fun u => if h : ∃ d ∈ ds, PyO.vr d u h' then h.choose else d0, fun u h => ?_⟩
      simp only [dif_pos h]
      exact h.choose_spec
    have hk1 : ∀ u ∈ us, k u ∈ ds ∧ PyO.vr (k u) u h' := fun u hm => hk0 u (hex u hm)
    have hks : us.map k = ds := by
      refine List.ext_getElem? fun i => ?_
      rw [List.getElem?_map]
      by_cases hi : i < us.length
      · have hi' : i < ds.length := by rw [hvl.1]; exact hi
        rw [List.getElem?_eq_getElem hi, List.getElem?_eq_getElem hi']
        exact congrArg some (PyO.vfn (hk1 _ (List.getElem_mem hi)).2 (hvl.2 i _ _ (List.getElem?_eq_getElem hi') (List.getElem?_eq_getElem hi)))
      · rw [List.getElem?_eq_none (by omega), List.getElem?_eq_none (by have := hvl.1; omega)]
        rfl
    have vkeep : ∀ u ∈ us, ∀ h2 : Heap, (∀ b o, h'.get? b = some o → h2.get? b = some o) → PyO.vr (k u) u h2 := fun u hm h2 kk => PyO.vkeep (fun b o e _ => kk b o e) (hk1 u hm).2
    refine wpAny_bind (wpAny_holding (wpAny_call_entry PyProof.Rows.slot_list_sort ⟨_, hoL, rfl⟩ PyProof.Rows.entry_list_sort
      (list_sort_ord (ltv := fun u v => PyO.lt (k u) (k v)) (s := { s with heap := h'.push (seqObj "list" us.toArray 0), toks := tk }) ⟨fun x y => PyO.asym _ _, fun x y z => PyO.ntr _ _ _⟩ hoL hz
        (fun h2 => PySrt.srt (s := { s with heap := h'.push (seqObj "list" us.toArray 0), toks := tk }) k (by show X.A.in1.in1.units + 62 < cLine; rw [units_in1, units_in1]; omega) (fun u hm => ⟨vkeep u hm _ fun b o e => Heap.get?_push_of_some _ e, hok _ (hk1 u hm).1⟩) h2 fun o e c => by
          have e' : some o = some (seqObj "list" us.toArray 0) := e.symm.trans hoL
          cases e'
          exact absurd (Value.type.inj c) (by decide))
        fun out h1 h2 => ⟨_, rfl, ?_⟩) (PyProof.Rows.args_list_sort _)))
    have hperm : out.Perm us := h2.perm
    obtain ⟨ep, he'⟩ := PyProof.Rows.sortedHeap_at (vs := us) (out := out.toArray) hoL
    -- the values again as V
    have hback : ∃ ys : List V, Vals ys out ∧ RL (fun d x => PyI.rep d x H) (out.map k) ys := by
      have step : ∀ l : List Value, (∀ u ∈ l, u ∈ us) → ∃ ys : List V, Vals ys l ∧ RL (fun d x => PyI.rep d x H) (l.map k) ys := by
        intro l
        induction l with
        | nil => intro _; exact ⟨[], .nil, RL.nil⟩
        | cons u l ih =>
          intro hm
          obtain ⟨ys, y1, y2⟩ := ih fun v hv => hm v (List.mem_cons_of_mem _ hv)
          obtain ⟨i, hi⟩ := List.mem_iff_getElem?.mp (hm u List.mem_cons_self)
          have hlen : i < us.length := (List.getElem?_eq_some_iff.mp hi).1
          have hx : i < xs.length := by rw [hv.length]; exact hlen
          obtain ⟨u', hu', ru⟩ := hv.get (List.getElem?_eq_getElem hx)
          rw [hi] at hu'
          cases hu'
          have hdi : ds[i]? = some (k u) := by
            rw [← hks, List.getElem?_map, hi]
            rfl
          exact ⟨xs[i] :: ys, .cons ru y1, RL.cons (hr.2 i _ _ hdi (List.getElem?_eq_getElem hx)) y2⟩
      exact step out fun u hu => hperm.mem_iff.mp hu
    obtain ⟨ys, hys, hrl⟩ := hback
    have hzo : ys.length ≤ sizeLine := by rw [hys.length, hperm.length_eq]; exact hz
    refine wpAny_pure ⟨_, rfl, .ref h'.objs.size, upd H h'.objs.size (.lst ys), ?_, rfl, q _ ys (out.map k) (by rw [← hks]; exact hperm.map k) (srtd_map h1) (I1.hok.fresh (Nat.le_refl _)) hrl⟩
    refine I1.laid (t' := tk) (o := .lst ys) (fun b o e => ?_) (Nat.le_refl _) ⟨hzo, out, _, hys, he'⟩
    rw [PyProof.Rows.sortedHeap_old (Nat.ne_of_lt (Heap.lt_size e)) (by rw [Heap.size_push]; exact Nat.lt_succ_of_lt (Heap.lt_size e))]
    exact Heap.get?_push_of_some _ e
end
end Zw
/-! Z8: dicts with tuple keys and int keys, typed; sorted, < typed. -/
namespace Zw
open PySem L2 RZ PySem.Spec PyProof.Rows SrtO PySem.SeqAt Ob

def tDispT1 (tk tv : TE) : TE := fun σ H Q => ∀ p, H p = none → tk σ (upd H p (.dT [])) fun x H1 => tv σ H1 fun y H2 => ∃ (ks : List Key) (b : Addr), x = .ref b ∧ H2 b = some (.tup (ks.map kV)) ∧ H2 p = some (.dT []) ∧ Q (.ref p) (upd H2 p (.dT [(ks, y)]))
theorem pe_dispT1 {X : Cx} {pos : Pos} {k v : Expr} {tk tv : TE} (hu : X.A.units + 2 < cLine) (hk : PE X k tk) (hv : PE X v tv) : PE X (.Dict [some k] [v] pos) (tDispT1 tk tv) := by
  refine ⟨fun pins s σ H Q I q => ?_⟩
  have hn := I.hok.fresh (Nat.le_refl s.heap.objs.size)
  have I1 := I.laid (a := s.heap.objs.size) (o := .dT []) (h' := s.heap.push { cls := .type "dict", data := .dict #[] }) (t' := s.toks) (fun _ _ q => Heap.get?_push_of_some _ q) (Nat.le_refl _) (dt_empty s.heap I.big)
  rw [arm_eval_Dict]
  have hshape : (evalEachOpt [some k] X.env).zip ((evalEach [v] X.env).map fun v => do let x ← v; standAt pos; pure x) = (pairTrees [some k] [v] X.env pos).map fun p => (some p.1, p.2) := by rfl
  rw [hshape, dictDisplay_pairs (pairTrees [some k] [v] X.env pos) (by intro z; cases z) (show 1 < 17 by decide)]
  refine wpAny_bind (wpAny_standAt (wpAny_bind (wpAny_subDictH (knd := tupleKind (mixKind X.prog X.w)) (Q := fun d s' => wpAny (model X.prog X.w) X.A (pure (Value.ref d)) (EP X pins σ Q) X.xe s') (show X.A.units < cLine by omega) (show 1 ≤ 15 by decide) ?_)))
  have run := (pps_cons hk hv pps_nil : PPs X pos [some k] [v] [(tk, tv)]).run pins _ σ _ (fun ps H2 => ∃ x y, ps = [(x, y)] ∧ ∃ (ks : List Key) (b : Addr), x = .ref b ∧ H2 b = some (.tup (ks.map kV)) ∧ H2 s.heap.objs.size = some (.dT []) ∧ Q (.ref s.heap.objs.size) (upd H2 s.heap.objs.size (.dT [(ks, y)]))) I1 ?_
  · refine thn run fun vs s2 ⟨ps, H2, I2, rel, x, y, eps, ks, b, ex, hb, hp, q2⟩ => ?_
    subst eps ex
    cases rel with
    | @cons p0 q0 ps0 qs0 hpq ht =>
      cases ht
      obtain ⟨ku, vu⟩ := q0
      obtain ⟨rk, rv⟩ := hpq
      cases (show ku = Value.ref b from rk)
      refine ⟨[(ks, b, vu)], ⟨rfl, rfl, key_of I2.hok hb, trivial⟩, ?_, fun h' tk' dd' hs => wpAny_pure ⟨.ref s.heap.objs.size, _, ?_, rfl, q2⟩⟩
      · obtain ⟨z, hd, xs, rel, dd⟩ := dt_of I2.hok hp
        cases rel
        exact dd
      · obtain ⟨z, hd, xs, rel, dd⟩ := dt_of I2.hok hp
        obtain ⟨q, es, ep, hq, h2, h3, h4, _, h5⟩ := dd'
        have h4' : es.toList = [(ks, b, vu)].map (entryOfKey (tupleKind (mixKind X.prog X.w))) := h4
        refine d_write I2 (by rw [hp]; exact True.intro) hs ⟨q, hq⟩ ⟨by show 1 ≤ sizeLine; decide, hd, [(ks, b, vu)], .cons ⟨rfl, ?_, rv⟩ .nil, q, es, ep, hq, h2, h3, h4', by simp⟩
        rw [upd_ne (ne_of hb hp (fun z => nomatch z))]
        exact hb
  · have h := q _ hn
    show tk σ (upd H s.heap.objs.size (.dT [])) fun x H1 => tv σ H1 fun y H2 => _
    have e : (fun (x : V) (H1 : Hp) => tv σ H1 fun y H2 => ∃ x_1 y_1, [(x, y)] = [(x_1, y_1)] ∧ ∃ (ks : List Key) (b : Addr), x_1 = .ref b ∧ H2 b = some (.tup (ks.map kV)) ∧ H2 s.heap.objs.size = some (.dT []) ∧ Q (.ref s.heap.objs.size) (upd H2 s.heap.objs.size (.dT [(ks, y_1)]))) =
        fun x H1 => tv σ H1 fun y H2 => ∃ (ks : List Key) (b : Addr), x = .ref b ∧ H2 b = some (.tup (ks.map kV)) ∧ H2 s.heap.objs.size = some (.dT []) ∧ Q (.ref s.heap.objs.size) (upd H2 s.heap.objs.size (.dT [(ks, y)])) := by
      funext x H1
      congr 1
      funext y H2
      refine propext ⟨fun ⟨x1, y1, e, h⟩ => ?_, fun h => ⟨x, y, rfl, h⟩⟩
      cases e
      exact h
    exact e ▸ h

/-! ### typed -/
def PL {α β : Type} (R : α → β → Prop) (l : List α) (m : List β) : Prop := l.length = m.length ∧ ∀ (i : Nat) a b, l[i]? = some a → m[i]? = some b → R a b
theorem PL.nil {α β : Type} {R : α → β → Prop} : PL R [] [] := ⟨rfl, fun i d x h => by simp at h⟩
theorem PL.mono {α β : Type} {R R' : α → β → Prop} {l : List α} {m : List β} (h : PL R l m) (k : ∀ a b, R a b → R' a b) : PL R' l m := ⟨h.1, fun i a b x y => k a b (h.2 i a b x y)⟩
theorem PL.cons {α β : Type} {R : α → β → Prop} {a : α} {b : β} {l : List α} {m : List β} (h : R a b) (t : PL R l m) : PL R (a :: l) (b :: m) := by
  refine ⟨by simp [t.1], fun i d' x' p q => ?_⟩
  cases i with
  | zero => simp at p q; rw [← p, ← q]; exact h
  | succ i => simp at p q; exact t.2 i d' x' p q
theorem PL.uncons {α β : Type} {R : α → β → Prop} {a : α} {l : List α} {m : List β} (h : PL R (a :: l) m) : ∃ b m', m = b :: m' ∧ R a b ∧ PL R l m' := by
  cases m with
  | nil => exact absurd h.1 (by simp)
  | cons y ys => exact ⟨y, ys, rfl, h.2 0 a y rfl rfl, by have := h.1; simpa using this, fun i d' x' a b => h.2 (i + 1) d' x' (by simpa using a) (by simpa using b)⟩
theorem PL.nil_inv {α β : Type} {R : α → β → Prop} {m : List β} (h : PL R ([] : List α) m) : m = [] := by
  cases m with
  | nil => rfl
  | cons y ys => exact absurd h.1 (by simp)
/-- a dict with tuples of ints for keys -/
structure DT (β : Type) where
  kv : List (List Int × β)
/-- a dict with ints for keys -/
structure DI (β : Type) where
  kv : List (Int × β)
def keyT (k : List Int) : List Key := k.map Sum.inl
theorem keyT_kV (k : List Int) : (keyT k).map kV = k.map V.int := by unfold keyT; rw [List.map_map]; rfl
theorem keyT_inj {k k' : List Int} (h : keyT k = keyT k') : k = k' := by
  have := congrArg (List.map fun (x : Key) => match x with | .inl i => i | .inr _ => 0) h
  unfold keyT at this
  rw [List.map_map, List.map_map] at this
  have e : ∀ l : List Int, l.map ((fun (x : Key) => match x with | .inl i => i | .inr _ => 0) ∘ Sum.inl) = l := fun l => by
    have : ((fun (x : Key) => match x with | .inl i => i | .inr _ => (0 : Int)) ∘ Sum.inl) = id := rfl
    rw [this, List.map_id]
  rw [e, e] at this
  exact this
def KR {β : Type} [PyI β] (H : Hp) (p : List Int × β) (q : List Key × V) : Prop := q.1 = keyT p.1 ∧ PyI.rep p.2 q.2 H
def KRI {β : Type} [PyI β] (H : Hp) (p : Int × β) (q : Key × V) : Prop := q.1 = Sum.inl p.1 ∧ PyI.rep p.2 q.2 H
theorem KR.keep {β : Type} [PyI β] {H H' : Hp} (k : TupK H H') {p : List Int × β} {q : List Key × V} (h : KR H p q) : KR H' p q := ⟨h.1, PyI.keep k h.2⟩
theorem KRI.keep {β : Type} [PyI β] {H H' : Hp} (k : TupK H H') {p : Int × β} {q : Key × V} (h : KRI H p q) : KRI H' p q := ⟨h.1, PyI.keep k h.2⟩
instance instDT {β : Type} [PyI β] : Py (DT β) := ⟨fun d v H => ∃ p kvs, v = .ref p ∧ H p = some (.dT kvs) ∧ PL (KR H) d.kv kvs, fun g ⟨p, kvs, e, h, r⟩ => ⟨p, kvs, e, g.dT h, r.mono fun _ _ z => z.keep g.tup⟩⟩
/-- look up, put -/
def lkD {κ β : Type} [DecidableEq κ] : List (κ × β) → κ → Option β
  | [], _ => none
  | (k, v) :: r, x => if k = x then some v else lkD r x
def putD {κ β : Type} [DecidableEq κ] (l : List (κ × β)) (k : κ) (v : β) : List (κ × β) :=
  if (l.any fun kv => decide (kv.1 = k)) = true then l.map (fun kv => if kv.1 = k then (kv.1, v) else kv) else l ++ [(k, v)]
theorem putD_length {κ β : Type} [DecidableEq κ] (x : κ) (y : β) (l : List (κ × β)) : (putD l x y).length ≤ l.length + 1 := by
  unfold putD
  split <;> simp
theorem PL.any {α β : Type} {R : α → β → Prop} {p : α → Bool} {q : β → Bool} (hpq : ∀ a b, R a b → p a = q b) : ∀ {l : List α} {m : List β}, PL R l m → l.any p = m.any q
  | [], m, h => by rw [h.nil_inv]; rfl
  | a :: l, m, h => by
    obtain ⟨b, m', rfl, r, t⟩ := h.uncons
    rw [List.any_cons, List.any_cons, hpq a b r, PL.any hpq t]
theorem PL.map {α β α' β' : Type} {R : α → β → Prop} {R' : α' → β' → Prop} {f : α → α'} {g : β → β'} (hfg : ∀ a b, R a b → R' (f a) (g b)) : ∀ {l : List α} {m : List β}, PL R l m → PL R' (l.map f) (m.map g)
  | [], m, h => by rw [h.nil_inv]; exact PL.nil
  | a :: l, m, h => by
    obtain ⟨b, m', rfl, r, t⟩ := h.uncons
    exact (PL.map hfg t).cons (hfg a b r)
theorem PL.snoc {α β : Type} {R : α → β → Prop} {a : α} {b : β} (hab : R a b) : ∀ {l : List α} {m : List β}, PL R l m → PL R (l ++ [a]) (m ++ [b])
  | [], m, h => by rw [h.nil_inv]; exact PL.nil.cons hab
  | a :: l, m, h => by
    obtain ⟨b, m', rfl, r, t⟩ := h.uncons
    exact (PL.snoc hab t).cons r
theorem put_KR {β : Type} [PyI β] {H : Hp} {k : List Int} {b : β} {v : V} (hb : PyI.rep b v H) {l : List (List Int × β)} {m : List (List Key × V)} (h : PL (KR H) l m) : PL (KR H) (putD l k b) (putK m (keyT k) v) := by
  unfold putD putK
  rw [PL.any (p := fun kv : List Int × β => decide (kv.1 = k)) (q := fun kv : List Key × V => decide (kv.1 = keyT k)) (fun a b r => decide_eq_decide.mpr ⟨fun e => by rw [r.1, e], fun e => keyT_inj (r.1.symm.trans e)⟩) h]
  split
  · refine PL.map (fun a c r => ?_) h
    by_cases e : a.1 = k
    · rw [if_pos e, if_pos (by rw [r.1, e])]
      exact ⟨r.1, hb⟩
    · rw [if_neg e, if_neg (by rw [r.1]; exact fun z => e (keyT_inj z))]
      exact r
  · exact h.snoc ⟨rfl, hb⟩
theorem put_KRI {β : Type} [PyI β] {H : Hp} {k : Int} {b : β} {v : V} (hb : PyI.rep b v H) {l : List (Int × β)} {m : List (Key × V)} (h : PL (KRI H) l m) : PL (KRI H) (putD l k b) (putK m (Sum.inl k) v) := by
  unfold putD putK
  rw [PL.any (p := fun kv : Int × β => decide (kv.1 = k)) (q := fun kv : Key × V => decide (kv.1 = Sum.inl k)) (fun a b r => decide_eq_decide.mpr ⟨fun e => by rw [r.1, e], fun e => Sum.inl.inj (r.1.symm.trans e)⟩) h]
  split
  · refine PL.map (fun a c r => ?_) h
    by_cases e : a.1 = k
    · rw [if_pos e, if_pos (by rw [r.1, e])]
      exact ⟨r.1, hb⟩
    · rw [if_neg e, if_neg (by rw [r.1]; exact fun z => e (Sum.inl.inj z))]
      exact r
  · exact h.snoc ⟨rfl, hb⟩
theorem lk_KR {β : Type} [PyI β] {H : Hp} {k : List Int} : ∀ {l : List (List Int × β)} {m : List (List Key × V)}, PL (KR H) l m → match lkD l k with | none => valV m (keyT k) = none | some b => ∃ v, valV m (keyT k) = some v ∧ PyI.rep b v H
  | [], m, h => by rw [h.nil_inv]; rfl
  | (k', b) :: l, m, h => by
    obtain ⟨q, m', rfl, r, t⟩ := h.uncons
    unfold lkD
    by_cases e : k' = k
    · rw [if_pos e]
      exact ⟨q.2, valV_pos (by rw [r.1, e]), r.2⟩
    · rw [if_neg e]
      have ih := lk_KR (k := k) t
      rw [valV_neg (by rw [r.1]; exact fun z => e (keyT_inj z))]
      exact ih
theorem lk_KRI {β : Type} [PyI β] {H : Hp} {k : Int} : ∀ {l : List (Int × β)} {m : List (Key × V)}, PL (KRI H) l m → match lkD l k with | none => valV m (Sum.inl k) = none | some b => ∃ v, valV m (Sum.inl k) = some v ∧ PyI.rep b v H
  | [], m, h => by rw [h.nil_inv]; rfl
  | (k', b) :: l, m, h => by
    obtain ⟨q, m', rfl, r, t⟩ := h.uncons
    unfold lkD
    by_cases e : k' = k
    · rw [if_pos e]
      exact ⟨q.2, valV_pos (by rw [r.1, e]), r.2⟩
    · rw [if_neg e]
      have ih := lk_KRI (k := k) t
      rw [valV_neg (by rw [r.1]; exact fun z => e (Sum.inl.inj z))]
      exact ih
/-! the keys of a typed dict -/
def keysD {κ β : Type} (l : List (κ × β)) : List κ := l.map (·.1)
theorem lkD_isSome {κ β : Type} [DecidableEq κ] (x : κ) : ∀ l : List (κ × β), (lkD l x).isSome = decide (x ∈ keysD l)
  | [] => by simp [lkD, keysD]
  | (k, v) :: r => by
    unfold lkD keysD
    by_cases e : k = x
    · rw [if_pos e]; simp [e]
    · have e2 : ¬ x = k := fun z => e z.symm
      rw [if_neg e, lkD_isSome x r]
      exact decide_eq_decide.mpr (by simp [keysD, e2])
section
variable {K : PySem.W.Frag} {σ : L2.St} {H Hb : Hp} {ta tb tc td ty tv te tl : TE} {α β : Type}
theorem tup_at {k : List Int} {v : V} {H : Hp} (h : Py.rep k v H) : ∃ b, v = .ref b ∧ H b = some (.tup ((keyT k).map kV)) := by
  obtain ⟨p, xs, e, hp, r⟩ := h
  exact ⟨p, e, by rw [keyT_kV, hp, ints_of r]⟩
theorem ev_inDT [PyI β] {k : List Int} {d : DT β} (hk : Ev ty σ H k) (hd : Ev td σ H d) : Ev (tDIn ty td) σ H (lkD d.kv k).isSome := fun H1 g Q q => hk H1 g _ fun k' y H2 e g2 ry => hd H2 (g.trans g2) _ fun d' x H3 e' g3 ⟨p, kvs, ep, hp, r⟩ => by
  subst e e'
  obtain ⟨b, eb, hb⟩ := tup_at (Py.mono g3 ry)
  subst ep eb
  refine ⟨p, _, rfl, DGet.t hp hb, ?_⟩
  have l := lk_KR (k := k') r
  have e : (valV kvs (keyT k')).isSome = (lkD d'.kv k').isSome := by
    cases q : lkD d'.kv k' with
    | none => rw [q] at l; rw [l]; rfl
    | some z => rw [q] at l; obtain ⟨v, hv, _⟩ := l; rw [hv]; rfl
  rw [e]
  exact q _ _ H3 rfl (g2.trans g3) rfl
theorem ev_notInDT [PyI β] {k : List Int} {d : DT β} (hk : Ev ty σ H k) (hd : Ev td σ H d) : Ev (tDNotIn ty td) σ H (!(lkD d.kv k).isSome) := fun H1 g Q q => hk H1 g _ fun k' y H2 e g2 ry => hd H2 (g.trans g2) _ fun d' x H3 e' g3 ⟨p, kvs, ep, hp, r⟩ => by
  subst e e'
  obtain ⟨b, eb, hb⟩ := tup_at (Py.mono g3 ry)
  subst ep eb
  refine ⟨p, _, rfl, DGet.t hp hb, ?_⟩
  have l := lk_KR (k := k') r
  have e : (valV kvs (keyT k')).isSome = (lkD d'.kv k').isSome := by
    cases q : lkD d'.kv k' with
    | none => rw [q] at l; rw [l]; rfl
    | some z => rw [q] at l; obtain ⟨v, hv, _⟩ := l; rw [hv]; rfl
  rw [e]
  exact q _ _ H3 rfl (g2.trans g3) rfl
theorem ev_getDT [PyI β] {k : List Int} {d : DT β} {b : β} (hd : Ev td σ H d) (hk : Ev ty σ H k) (hl : lkD d.kv k = some b) : Ev (tDGet td ty) σ H b := fun H1 g Q q => hd H1 g _ fun d' x H2 e g2 rd => hk H2 (g.trans g2) _ fun k' y H3 e' g3 ry => by
  obtain ⟨p, kvs, ep, hp, r⟩ := Py.mono g3 rd
  subst e e'
  obtain ⟨b', eb, hb⟩ := tup_at ry
  subst ep eb
  have l := lk_KR (k := k') r
  rw [hl] at l
  obtain ⟨v, hv, rv⟩ := l
  exact ⟨p, v, rfl, by have := DGet.t hp hb (k := keyT k'); rw [hv] at this; exact this, q _ v H3 rfl (g2.trans g3) rv⟩
variable {D : Ends} {tz : TS}
/-- d[k] = v, the dict in a slot -/
theorem s_putDT [PyI β] {p : Addr} {i : Nat} {kv : List (List Int × β)} {Pk : List Int → Prop} {Pv : β → Prop} (hp : Py.rep (DT.mk kv) (.ref p) H) (hi : σ[i]? = some (some (.ref p))) (hk : Ed ty σ H Pk) (hv : Ed tv σ H Pv) (hz : kv.length < 100000)
    (kk : ∀ k b H2, Pk k → Pv b → Mu p H H2 → Py.rep (DT.mk (putD kv k b)) (.ref p) H2 → D.nx σ H2) : sDPut (tVar i) ty tv D σ H := by
  refine hv H (Gr.refl H) _ fun b y H1 pb g1 ry => ⟨_, hi, ?_⟩
  refine hk H1 g1 _ fun k z H2 pk g2 rz => ?_
  obtain ⟨p', kvs, e, hp', r⟩ := Py.mono (g1.trans g2) hp
  cases e
  obtain ⟨b', eb, hb⟩ := tup_at rz
  subst eb
  have hzl : kvs.length < sizeLine := by rw [← r.1]; exact Nat.lt_of_lt_of_le hz (by decide)
  refine ⟨p, _, rfl, DPut.t hp' hb hzl, ?_⟩
  have tk : TupK H2 (upd H2 p (.dT (putK kvs (keyT k) y))) := TupK.put hp' (fun _ z => nomatch z)
  exact kk k b _ pk pb ⟨H2, _, _, g1.trans g2, hp', (fun _ z => nomatch z), (by intro _ _ _ _ _ z; cases z), rfl⟩ ⟨p, _, rfl, upd_same, (put_KR (Py.mono g2 ry) r).mono fun _ _ z => z.keep tk⟩
theorem q_putDT [PyI β] {p : Addr} {i : Nat} {kv : List (List Int × β)} {Pk : List Int → Prop} {Pv : β → Prop} (hp : Py.rep (DT.mk kv) (.ref p) H) (hi : σ[i]? = some (some (.ref p))) (hk : Ed ty σ H Pk) (hv : Ed tv σ H Pv) (hz : kv.length < 100000)
    (kk : ∀ k b H2, Pk k → Pv b → Mu p H H2 → Py.rep (DT.mk (putD kv k b)) (.ref p) H2 → tz D σ H2) : tSeq (sDPut (tVar i) ty tv) tz D σ H := s_putDT (D := { D with nx := tz D }) hp hi hk hv hz kk
theorem ev_newDT [PyI β] : Ev tDNewT σ H (DT.mk ([] : List (List Int × β))) := fun H1 g Q q p hp => q _ _ _ rfl (Gr.new hp) ⟨p, [], rfl, upd_same, PL.nil⟩
theorem ev_newL [Py α] : Ev (tLst tNil) σ H (Ls.mk ([] : List α)) := ev_lst eal_nil (Nat.zero_le _)
theorem ev_dispT1 [PyI β] {k : List Int} {b : β} (hk : Ev ty σ H k) (hv : Ev tv σ H b) : Ev (tDispT1 ty tv) σ H (DT.mk [(k, b)]) := fun H1 g Q q p hp => by
  refine hk _ (g.trans (Gr.new hp)) _ fun k' x H2 e g2 rx => hv H2 ((g.trans (Gr.new hp)).trans g2) _ fun b' y H3 e' g3 ry => ?_
  subst e e'
  obtain ⟨b0, eb, hb⟩ := tup_at (Py.mono g3 rx)
  have h0 : H3 p = some (.dT []) := (g2.trans g3).dT upd_same
  refine ⟨keyT k', b0, eb, hb, h0, q _ _ _ rfl (((Gr.new hp).trans (g2.trans g3)).mut hp h0 (fun _ z => nomatch z)) ⟨p, _, rfl, upd_same, PL.nil.cons ⟨rfl, ?_⟩⟩⟩
  exact PyI.keep (TupK.put h0 (fun _ z => nomatch z)) ry

/-! ### sorted -/
def sortO [PyO α] (l : List α) : List α := l.mergeSort (fun a b => !PyO.lt b a)
theorem sortO_perm [PyO α] (l : List α) : (sortO l).Perm l := List.mergeSort_perm l _
theorem sortO_srtd [PyO α] (l : List α) : Srtd PyO.lt (sortO l) := by
  have h := List.pairwise_mergeSort (le := fun (a b : α) => !PyO.lt b a) (fun a b c h1 h2 => by
    simp only [Bool.not_eq_true'] at h1 h2 ⊢
    exact PyO.ntr _ _ _ h1 h2) (fun a b => by
    cases q : PyO.lt b a with
    | false => rfl
    | true => rw [PyO.asym _ _ q]; rfl) l
  exact h.imp fun {a b} z => by simpa using z
theorem all_eq_replicate {l : List α} {x : α} (h : ∀ y ∈ l, y = x) : l = List.replicate l.length x := List.eq_replicate_of_mem h
theorem srtd_uniq [PyO α] {l m : List α} (hl : Srtd PyO.lt l) (hm : Srtd PyO.lt m) (hp : l.Perm m) : l = m := by
  refine stb_uniq PyO.swo hl hm ⟨hp, fun x => ?_⟩
  have hx : ∀ y, eqv PyO.lt x y = true → y = x := fun y h => by
    obtain ⟨h1, h2⟩ := eqv_iff.mp h
    exact (PyO.tri x y h1 h2).symm
  have hf := hp.filter (eqv PyO.lt x)
  rw [all_eq_replicate (l := l.filter (eqv PyO.lt x)) (x := x) fun y hy => hx y (List.mem_filter.mp hy).2, all_eq_replicate (l := m.filter (eqv PyO.lt x)) (x := x) fun y hy => hx y (List.mem_filter.mp hy).2, hf.length_eq]
theorem sortO_eq [PyO α] {l m : List α} (hl : Srtd PyO.lt m) (hp : m.Perm l) : m = sortO l := srtd_uniq hl (sortO_srtd l) (hp.trans (sortO_perm l).symm)
theorem ev_sortedC [PyO α] [PySrt α] {γ : Type} [Py γ] {d : γ} {ds : List α} (h : Ev te σ H d) (hc : ∀ v H', Py.rep d v H' → ∃ a, v = .ref a ∧ Coll H' a (fun xs => RL (fun d x => PyI.rep d x H') ds xs)) (hok : ∀ d ∈ ds, PySrt.ok d) : Ev (tCB rSortedG (tCons te tNil)) σ H (Ls.mk (sortO ds)) :=
  ev_cb1 h fun x H' r Q q => by
    obtain ⟨a, e, c⟩ := hc x H' r
    refine ⟨α, _, _, ds, a, by rw [e], c, hok, fun p ys ds' hp hs hn rl => q _ _ _ ?_ (Gr.new hn) ⟨p, ys, rfl, upd_same, rl.mono fun _ _ z => PyI.keep (TupK.new hn) z⟩⟩
    rw [sortO_eq hs hp]
theorem ev_sortedL [PyO α] [PySrt α] {ds : List α} (h : Ev te σ H (Ls.mk ds)) (hok : ∀ d ∈ ds, PySrt.ok d) : Ev (tCB rSortedG (tCons te tNil)) σ H (Ls.mk (sortO ds)) := ev_sortedC h (fun v H' ⟨p, xs, e, hp, r⟩ => ⟨p, e, .lst hp r⟩) hok
theorem ev_sortedT [PyO α] [PySrt α] {ds : List α} (h : Ev te σ H ds) (hok : ∀ d ∈ ds, PySrt.ok d) : Ev (tCB rSortedG (tCons te tNil)) σ H (Ls.mk (sortO ds)) := ev_sortedC h (fun v H' ⟨p, xs, e, hp, r⟩ => ⟨p, e, .tup hp r⟩) hok
theorem isKeys_RL {kv : List (List Int × β)} [PyI β] {kvs : List (List Key × V)} {H : Hp} : ∀ {bs : List Addr}, PL (KR H) kv kvs → IsKeys H kvs bs → RL (fun (d : List Int) x => PyI.rep d x H) (keysD kv) (bs.map V.ref) := by
  induction kv generalizing kvs with
  | nil =>
    intro bs h hk
    rw [h.nil_inv] at hk
    cases hk
    exact RL.nil
  | cons p kv ih =>
    intro bs h hk
    obtain ⟨q, m, rfl, r, t⟩ := h.uncons
    cases hk with
    | @cons a b as bs' h1 h2 =>
      refine RL.cons ?_ (ih t h2)
      refine ⟨b, p.1.map V.int, rfl, ?_, of_ints⟩
      rw [h1, r.1, keyT_kV]
theorem ev_sortedDT [PyI β] {d : DT β} (h : Ev te σ H d) (hok : ∀ k ∈ keysD d.kv, k ≠ []) : Ev (tCB rSortedG (tCons te tNil)) σ H (Ls.mk (sortO (keysD d.kv))) := ev_sortedC (α := List Int) (γ := DT β) (ds := keysD d.kv) h (fun v H' r0 => by obtain ⟨p, kvs, e, hp, r⟩ := r0; exact ⟨p, e, Coll.dT hp fun bs hb => isKeys_RL r hb⟩) hok

/-! ### < of data -/
def rLtG : R2 := fun x y H Q => ∃ (α : Type) (o : PyO α) (a b : α), PyI.rep a x H ∧ PyI.rep b y H ∧ PyO.dep α ≤ 60 ∧ Q (.bl (PyO.lt a b)) H
theorem op_ltG {X : Cx} (hu : X.A.units + 64 < cLine) : OpR X (compareOp .Lt) rLtG := by
  intro pins s σ H x y v u Q I rx ry h
  obtain ⟨α, o, a, b, ra, rb, hd, q⟩ := h
  have z := PyO.ltAt (A := X.A) (s := s) (by omega) (PyO.of_rep I.hok ra rx) (PyO.of_rep I.hok rb ry)
  exact z X.prog X.w X.xe (EP X pins σ Q) ⟨.bl _, H, I, rfl, q⟩
theorem ev_ltG [PyO α] {a b : α} (ha : Ev ta σ H a) (hb : Ev tb σ H b) (hd : PyO.dep α ≤ 60 := by decide) : Ev (tOp rLtG ta tb) σ H (PyO.lt a b) := ev_op ha hb fun x y H rx ry Q q => ⟨α, _, a, b, rx, ry, hd, q _ _ H rfl (Gr.refl H) rfl⟩
end
end Zw
/-! Z9: isinstance typed; hidden lists (a source of draws). -/
namespace Zw
open PySem L2 RZ PySem.Spec PyProof.Rows SrtO PySem.SeqAt Ob

/-! ### isinstance -/
class HasTy (α : Type) [Py α] where
  nm : String
  ok : ∀ {K : PySem.W.Frag} {d : α} {v : V} {H : Hp}, Py.rep d v H → TyX K H v (.type nm)
instance : HasTy Int := ⟨"int", fun h => by rw [show _ = V.int _ from h]; exact .base (.int _)⟩
instance : HasTy Bool := ⟨"bool", fun h => by rw [show _ = V.bl _ from h]; exact .base (.bl _)⟩
instance : HasTy Str := ⟨"str", fun h => by rw [show _ = V.str _ from h]; exact .base (.str _)⟩
instance {α : Type} [PyI α] : HasTy (List α) := ⟨"tuple", fun ⟨p, xs, e, h, _⟩ => by rw [e]; exact .base (.tup h)⟩
instance {α β : Type} [PyI α] [PyI β] : HasTy (α × β) := ⟨"tuple", fun ⟨p, x, y, e, h, _⟩ => by rw [e]; exact .base (.tup h)⟩
instance {α : Type} [Py α] : HasTy (Ls α) := ⟨"list", fun ⟨p, xs, e, h, _⟩ => by rw [e]; exact .base (.lst h)⟩
/-- a tuple of so many items -/
structure TupN where
  n : Nat
instance : PyI TupN := ⟨fun d v H => ∃ p xs, v = .ref p ∧ H p = some (.tup xs) ∧ xs.length = d.n, fun k ⟨p, xs, e, h, l⟩ => ⟨p, xs, e, k _ _ h, l⟩⟩
instance : HasTy TupN := ⟨"tuple", fun ⟨p, xs, e, h, _⟩ => by rw [e]; exact .base (.tup h)⟩
theorem tupN_list {α : Type} [PyI α] {l : List α} {v : V} {H : Hp} (h : Py.rep l v H) : Py.rep (TupN.mk l.length) v H := let ⟨p, xs, e, hp, r⟩ := h; ⟨p, xs, e, hp, r.1.symm⟩
theorem tupN_pair {α β : Type} [PyI α] [PyI β] {l : α × β} {v : V} {H : Hp} (h : Py.rep l v H) : Py.rep (TupN.mk 2) v H := let ⟨p, x, y, e, hp, _⟩ := h; ⟨p, [x, y], e, hp, rfl⟩
theorem pair_list {α : Type} [PyI α] {l : α × α} {v : V} {H : Hp} (h : Py.rep l v H) : Py.rep [l.1, l.2] v H := let ⟨p, x, y, e, hp, r1, r2⟩ := h; ⟨p, [x, y], e, hp, RL.cons r1 (RL.cons r2 RL.nil)⟩
section
variable {K : PySem.W.Frag} {σ : L2.St} {H Hb : Hp} {ta tb tc td ty tv te tl : TE} {α β : Type}
theorem ev_isi [Py α] [HasTy α] {d : α} {T : String} {b : Bool} (ha : Ev ta σ H d) (hk : kitB (HasTy.nm α) T = some b) : Ev (tCB (rIsi K) (tCons ta (tCons (tC (.ty T)) tNil))) σ H b := fun H1 g Q q => ha H1 g _ fun d' v H2 e g2 r =>
  ⟨v, .ty T, .type (HasTy.nm α), .type T, b, rfl, .ty T, HasTy.ok r, kit_ty hk, q _ _ H2 rfl g2 rfl⟩
theorem ev_cast [Py α] [Py β] {a : α} {b : β} (h : Ev te σ H a) (c : ∀ v H', Py.rep a v H' → Py.rep b v H') : Ev te σ H b := fun H1 g Q q => h H1 g _ fun d v H2 e g2 r => by subst e; exact q b v H2 rfl g2 (c v H2 r)
theorem ed_cast [Py α] [Py β] {P : α → Prop} {P' : β → Prop} (h : Ed te σ H P) (c : ∀ a v H', P a → Py.rep a v H' → ∃ b, P' b ∧ Py.rep b v H') : Ed te σ H P' := fun H1 g Q q => h H1 g _ fun d v H2 e g2 r => by obtain ⟨b, pb, rb⟩ := c d v H2 e r; exact q b v H2 pb g2 rb
end

/-! ### hidden lists -/
def hidL (a : Addr) (Pr : List V → Prop) : HO := .ext fun h => ∃ (xs : List V) (its : List Value) (n : Nat), Pr xs ∧ xs.length ≤ sizeLine ∧ Vals xs its ∧ h.get? a = some { cls := .type "list", data := .seq its.toArray n }
def plainO : HO → Bool
  | .lst _ => true
  | .ext _ => true
  | _ => false
theorem hok_shift {P : Program} {w : World} {H : Hp} {h : Heap} {t : Addr} {o o' : HO} (ok : HOk P w H h) (ht : H t = some o) (po : plainO o = true) (new : ObjOk P w (upd H t o') h t o') : HOk P w (upd H t o') h := fun b u e => by
  by_cases hb : b = t
  · subst hb
    rw [upd_same] at e
    cases e
    exact new
  · rw [upd_ne hb] at e
    refine (ok b u e).stay (fun c v _ q => q) (fun c q => ?_) fun c xs q => ?_
    · rw [upd_ne (fun z => by rw [z, ht] at q; cases q; cases po)]; exact q
    · rw [upd_ne (fun z => by rw [z, ht] at q; cases q; cases po)]; exact q
theorem hid_ok {P : Program} {w : World} {H H' : Hp} {h : Heap} {t : Addr} {xs : List V} {Pr : List V → Prop} (x : ObjOk P w H h t (.lst xs)) (p : Pr xs) : ObjOk P w H' h t (hidL t Pr) := by
  obtain ⟨z, its, n, v, e⟩ := x
  refine ⟨⟨xs, its, n, p, z, v, e⟩, ⟨_, e⟩, fun h1 h2 ⟨xs, its, n, a, b, c, d⟩ k => ⟨xs, its, n, a, b, c, k _ d⟩⟩
theorem un_in {H : Hp} {h : Heap} {fs : List Addr} {H' : Hp} {h' : Heap} {t : Addr} {o o' : HO} (ht : H t = some o) (po : plainO o = true) (u : Un fs [] (upd H t o') H' h h') : Un fs [] H H' h h' where
  keep := fun b ob q n hb he => u.keep b ob q (by rw [upd_ne (fun z => by rw [z, ht] at n; cases n)]; exact n) hb he
  slot := fun b ob q n hb he => u.slot b ob q (by rw [upd_ne (fun z => by rw [z, ht] at n; cases n)]; exact n) hb he
  free := fun b ob q n he => u.free b ob q (by rw [upd_ne (fun z => by rw [z, ht] at n; cases n)]; exact n) he
  there := u.there
  tups := fun b xs q => u.tups b xs (by rw [upd_ne (fun z => by rw [z, ht] at q; cases q; cases po)]; exact q)
  frzs := fun b ob x q => u.frzs b ob x (by rw [upd_ne (fun z => by rw [z, ht] at q; cases q; cases po)]; exact q)
  tbls := fun b ps q => u.tbls b ps (by rw [upd_ne (fun z => by rw [z, ht] at q; cases q; cases po)]; exact q)
theorem un_out {H : Hp} {h : Heap} {fs : List Addr} {H' : Hp} {h' : Heap} {t : Addr} {o o' : HO} (ht : H' t = some o) (po : plainO o = true) (u : Un fs [] H H' h h') : Un fs [] H (upd H' t o') h h' where
  keep := u.keep
  slot := u.slot
  free := fun b ob q n he => by
    have z := u.free b ob q n he
    rw [upd_ne (fun y => by rw [y, ht] at z; cases z)]
    exact z
  there := u.there
  tups := fun b xs q => by
    have z := u.tups b xs q
    rw [upd_ne (fun y => by rw [y, ht] at z; cases z; cases po)]
    exact z
  frzs := fun b ob x q => by
    have z := u.frzs b ob x q
    rw [upd_ne (fun y => by rw [y, ht] at z; cases z; cases po)]
    exact z
  tbls := fun b ps q => by
    obtain ⟨m, z⟩ := u.tbls b ps q
    exact ⟨m, by rw [upd_ne (fun y => by rw [y, ht] at z; cases z; cases po)]; exact z⟩
section
variable {P : Program} {w : World} {K : PySem.W.Frag} {mg : Str → Option Value} {base : Heap} {k : Nat} {f : Addr} {fd : FuncData} {ps : List Str} {sp sp' : Sp}
/-- a def that reads and writes a list that its callers do not see -/
theorem fn_hid (F : FnOk P w K mg base CX0 k f fd ps sp) (hl : ∀ vs H Q E, sp' vs H Q E → vs.length = ps.length)
    (hsp : ∀ vs H Q E, sp' vs H Q E → ∃ t Pr, H t = some (hidL t Pr) ∧ ∀ xs, Pr xs → sp vs (upd H t (.lst xs)) (fun v H' => ∃ xs', H' t = some (.lst xs') ∧ Pr xs' ∧ Q v (upd H' t (hidL t Pr))) E) : FnOk P w K mg base CX0 k f fd ps sp' := by
  refine ⟨hl, fun A outer s H args us vs Q E hr he hb hv hs => ?_⟩
  obtain ⟨t, Pr, ht, hx⟩ := hsp vs H Q E hs
  obtain ⟨⟨xs, its, n, px, z, vv, eo⟩, _, _⟩ := (show ObjOk P w H s.heap t (hidL t Pr) from he.hok t _ ht)
  have new : ObjOk P w (upd H t (.lst xs)) s.heap t (.lst xs) := ⟨z, its, n, vv, eo⟩
  have he' : Env0 P w K mg base A outer s (upd H t (.lst xs)) := ⟨he.frames, he.mod, fun b o q => ⟨(he.bs b o q).1, by
      have y := (he.bs b o q).2
      rw [upd_ne (fun z => by rw [z, ht] at y; cases y)]
      exact y⟩, he.bsz, he.funs, fun b hb => by
      have y := he.frf b hb
      rw [upd_ne (fun z => by rw [z, ht] at y; cases y)]
      exact y, hok_shift he.hok ht rfl new, he.bare⟩
  refine codeAny_mono (F.run A outer s _ args us vs _ E hr he' hb hv (hx xs px)) fun r s' hq => ?_
  cases r with
  | error e => exact hq
  | ok fl =>
    cases fl with
    | ret u =>
      obtain ⟨v, H', os, bare, un, hok, rv, xs', hx', px', q⟩ := hq
      exact ⟨v, _, os, bare, un_out hx' rfl (un_in ht rfl un), hok_shift hok hx' rfl (hid_ok (hok t _ hx') px'), rv, q⟩
    | next => exact hq
    | brk => exact hq
    | cont => exact hq
/-- a def whose answer is a list that is hidden from then on -/
theorem fn_hide (F : FnOk P w K mg base CX0 k f fd ps sp) (hl : ∀ vs H Q E, sp' vs H Q E → vs.length = ps.length)
    (hsp : ∀ vs H Q E, sp' vs H Q E → sp vs H (fun v H' => ∃ t xs Pr, H' t = some (.lst xs) ∧ Pr xs ∧ Q v (upd H' t (hidL t Pr))) E) : FnOk P w K mg base CX0 k f fd ps sp' := by
  refine ⟨hl, fun A outer s H args us vs Q E hr he hb hv hs => ?_⟩
  refine codeAny_mono (F.run A outer s _ args us vs _ E hr he hb hv (hsp vs H Q E hs)) fun r s' hq => ?_
  cases r with
  | error e => exact hq
  | ok fl =>
    cases fl with
    | ret u =>
      obtain ⟨v, H', os, bare, un, hok, rv, t, xs', Pr, hx', px', q⟩ := hq
      exact ⟨v, _, os, bare, un_out hx' rfl un, hok_shift hok hx' rfl (hid_ok (hok t _ hx') px'), rv, q⟩
    | next => exact hq
    | brk => exact hq
    | cont => exact hq
end
/-- a hand: what a law draws from -/
structure Hand where
def Phand (c : Addr) (xs : List V) : Prop := ∃ i l m n : Int, xs = [.ref c, .int i, .int l, .int m, .int n] ∧ 0 ≤ i
instance : Py Hand := ⟨fun _ v H => ∃ t c ns, v = .ref t ∧ H t = some (hidL t (Phand c)) ∧ H c = some (.lst (List.map V.int ns)), fun g ⟨t, c, ns, e, h, h2⟩ => ⟨t, c, ns, e, g.at h (fun z => nomatch z), g.lst h2⟩⟩
/-- a tape -/
structure Tape where
def Ptape (c : Addr) (xs : List V) : Prop := ∃ a b : Int, xs = [.int a, .int b, .ref c]
def Pcells (xs : List V) : Prop := ∃ ns : List Int, xs = ns.map V.int
instance : Py Tape := ⟨fun _ v H => ∃ t c, v = .ref t ∧ t ≠ c ∧ H t = some (hidL t (Ptape c)) ∧ H c = some (hidL c Pcells), fun g ⟨t, c, e, n, h, h2⟩ => ⟨t, c, e, n, g.at h (fun z => nomatch z), g.at h2 (fun z => nomatch z)⟩⟩
end Zw
/-! Z10: small things for the program's own defs. -/
namespace Zw
open PySem L2 RZ PySem.Spec PyProof.Rows SrtO
section
variable {K : PySem.W.Frag} {σ : L2.St} {H Hb : Hp} {ta tb tc td ty tv te tl : TE} {α β : Type}
theorem ev_lenN {t : TupN} (h : Ev te σ H t) : Ev (tCB (rLenA K) (tCons te tNil)) σ H (t.n : Int) := ev_cb1 h fun x H ⟨p, xs, e, hp, l⟩ Q q => ⟨x, t.n, rfl, by rw [e]; exact .inr ⟨xs, .of hp, l.symm⟩, q _ _ H rfl (Gr.refl H) rfl⟩
end
theorem sIx_one {n : Nat} : HT.sIx n 0 (some 1) = min 1 n := HT.sIx_nat n 0 1
theorem cutL_tail {α : Type} (l : List α) : cutL l (some 1) none = l.drop 1 := by
  unfold cutL
  rw [sIx_one, HT.sIx_none]
  cases l with
  | nil => rfl
  | cons a l =>
    have e : min 1 (a :: l).length = 1 := by simp
    rw [e]
    exact List.take_of_length_le (by simp)
theorem lt_all {α : Type} [PyO α] {ds : List α} (h : ds.Pairwise (fun a b => PyO.lt a b = true)) : (List.map (fun (d : α × α) => PyO.lt d.1 d.2) (ds.zip (cutL ds (some 1) none))).all id = true := by
  rw [cutL_tail]
  induction ds with
  | nil => rfl
  | cons a l ih =>
    cases l with
    | nil => rfl
    | cons b l =>
      have h1 := (List.pairwise_cons.mp h).1 b List.mem_cons_self
      have ih2 := ih (List.pairwise_cons.mp h).2
      show (PyO.lt a b && (List.map (fun (d : α × α) => PyO.lt d.1 d.2) ((b :: l).zip ((b :: l).drop 1))).all id) = true
      rw [h1, ih2]; rfl
theorem le_all {ds : List Int} (h : ds.Pairwise (· ≤ ·)) : (List.map (fun (d : Int × Int) => decide (d.1 ≤ d.2)) (ds.zip (cutL ds (some 1) none))).all id = true := by
  rw [cutL_tail]
  induction ds with
  | nil => rfl
  | cons a l ih =>
    cases l with
    | nil => rfl
    | cons b l =>
      have h1 := (List.pairwise_cons.mp h).1 b List.mem_cons_self
      have ih2 := ih (List.pairwise_cons.mp h).2
      show (decide (a ≤ b) && (List.map (fun (d : Int × Int) => decide (d.1 ≤ d.2)) ((b :: l).zip ((b :: l).drop 1))).all id) = true
      rw [ih2, decide_eq_true h1]; rfl
theorem putF_house {r : Int} {t l : Addr} : putF "looked" (V.ref l) (putF "doors" (V.ref t) (putF "rooms" (V.int r) [])) = hFields r t l := by
  have h1 : ¬ (("rooms" : Str) = "doors") := by decide +kernel
  have h2 : ¬ (("rooms" : Str) = "looked") := by decide +kernel
  have h3 : ¬ (("doors" : Str) = "looked") := by decide +kernel
  simp [putF, hFields, h1, h2, h3]
end Zw
/-! Z11: the rules with the written part named (in a comprehension the frame's own name of it is another). -/
namespace Zw
open PySem L2 RZ PySem.Spec PyProof.Rows SrtO
section
variable {X : Cx} {K : PySem.W.Frag}
theorem k_isi (h : X.K = K) : CallR X (.builtin "isinstance") (rIsi K) := h ▸ call_isi
theorem k_isiT (h : X.K = K) : CallR X (.builtin "isinstance") (rIsiT K) := h ▸ call_isiT
theorem k_len (h : X.K = K) : CallR X (.builtin "len") (rLenA K) := h ▸ call_len
theorem k_all (h : X.K = K) (c : X.calm = true) : CallR X (.builtin "all") (rAll K) := h ▸ cr_all c
theorem k_any (h : X.K = K) (c : X.calm = true) : CallR X (.builtin "any") (rAny K) := h ▸ cr_any c
theorem k_sum (h : X.K = K) (c : X.calm = true) : CallR X (.builtin "sum") (rSum K) := h ▸ cr_sum c
theorem k_max (h : X.K = K) (c : X.calm = true) : CallR X (.builtin "max") (rMax K) := h ▸ cr_max c
theorem k_min (h : X.K = K) (c : X.calm = true) : CallR X (.builtin "min") (rMin K) := h ▸ cr_min c
theorem k_tuple_of (h : X.K = K) : CallR X (.type "tuple") (rTupOf K) := h ▸ call_tuple_of
theorem k_list_of (h : X.K = K) : CallR X (.type "list") (rLstOf K) := h ▸ call_list_of
theorem k_ix_list (h : X.K = K) : IxR X (rIxL K) := h ▸ ix_list
theorem k_ix_tup (h : X.K = K) : IxR X (rIxT K) := h ▸ ix_tup
theorem k_sl_list (h : X.K = K) : SlR X (rSlL K) := h ▸ sl_list
theorem k_sl_tup (h : X.K = K) : SlR X (rSlA K) := h ▸ sl_tupA
theorem k_in_seq (h : X.K = K) : OpR X (compareOp .In) (rIn K false) := h ▸ op_in_seq
theorem k_notIn_seq (h : X.K = K) : OpR X (compareOp .NotIn) (rIn K true) := h ▸ op_notIn_seq
theorem k_eqD (h : X.K = K) (hu : X.A.units + 64 < cLine) : OpR X (compareOp .Eq) (rEqD K) := h ▸ op_eqD hu
theorem k_neD (h : X.K = K) (hu : X.A.units + 64 < cLine) : OpR X (compareOp .NotEq) (rNeD K) := h ▸ op_neD hu
theorem k_inD (h : X.K = K) (hu : X.A.units + 65 < cLine) : OpR X (compareOp .In) (rInD K) := h ▸ op_inD hu
theorem k_notInD (h : X.K = K) (hu : X.A.units + 65 < cLine) : OpR X (compareOp .NotIn) (rNotInD K) := h ▸ op_notInD hu
theorem k_catT (h : X.K = K) : OpR X (binaryOp .Add) (rCatA K) := h ▸ op_catA
variable {tg e o : Expr} {tl te to : TE} {ta : TA} {f : Str} {pos p : Pos}
theorem k_pi_list (h : X.K = K) (he : PE X e tl) : PI X tg e (iList K tl) := h ▸ pi_list he
theorem k_pi_tup (h : X.K = K) (he : PE X e tl) : PI X tg e (iTup K tl) := h ▸ pi_tup he
theorem k_pi_zip (h : X.K = K) {e2 : Expr} {tpos : Pos} {elts : List Expr} {kk : Nat} (hg : Gl X "zip") (hm : X.mg "zip" = none) (ha : PA X [e, e2] ta)
    (hs : starEach [e, e2] X.env = (false, eval e X.env) :: starEach [e2] X.env := by rfl) (hpl : (backTo pos (starEach [e2] X.env)).any (·.1) = false := by rfl) :
    PI X (.Tuple elts kk tpos) (.Call (.Name "zip" p) [e, e2] [] pos) (iZipA K ta) := h ▸ pi_zipA hg hm ha hs hpl
theorem k_pi_enum (h : X.K = K) {tpos : Pos} {elts : List Expr} {kk : Nat} (hg : Gl X "enumerate") (hm : X.mg "enumerate" = none) (ha : PA X [e] ta) (hs : starEach [e] X.env = [(false, eval e X.env)] := by rfl) :
    PI X (.Tuple elts kk tpos) (.Call (.Name "enumerate" p) [e] [] pos) (iEnum K ta) := h ▸ pi_enum hg hm ha hs
theorem k_pi_enumT (h : X.K = K) {tpos : Pos} {elts : List Expr} {kk : Nat} (hg : Gl X "enumerate") (hm : X.mg "enumerate" = none) (ha : PA X [e] ta) (hs : starEach [e] X.env = [(false, eval e X.env)] := by rfl) :
    PI X (.Tuple elts kk tpos) (.Call (.Name "enumerate" p) [e] [] pos) (iEnumT K ta) := h ▸ pi_enumT hg hm ha hs
theorem k_fld (h : X.K = K) (he : PE X e te) (hb : attributeBase e f X.env (eval e X.env) = eval e X.env) : PE X (.Attribute e f pos) (tFld K te f) := h ▸ pe_fld he hb
theorem k_pg_tup (h : X.K = K) {es : List Expr} {k : Nat} {t : TGs} {n : Nat} (hc : X.calm = true) (hg : PGs X es t)
    (hn : (assignEach es X.env).length = n) (hst : (assignEach es X.env).findIdx? (·.1) = none := by rfl) : PG X (.Tuple es k pos) (gTup K n t) := h ▸ pg_tup hc hg hn hst
theorem k_pg_attr (h : X.K = K) (ho : PE X o to) : PG X (.Attribute o f pos) (gAttr K to f) := h ▸ pg_attr ho
theorem k_ps_fld (h : X.K = K) {value : Expr} {tv : TE} {pos' : Pos} (ha : PE X o ta') (hv : PE X value tv) (hs : swapsWith value (some (.Attribute o f pos')) pos.line X.env = pure false) : PS X (.Assign [.Attribute o f pos'] value pos) (sFld K ta' tv f) := h ▸ ps_fld ha hv hs
end
end Zw
/-! Z12: lists of lists of one's own; what a house keeps. -/
namespace Zw
open PySem L2 RZ PySem.Spec PyProof.Rows SrtO
theorem k_bm {X : Cx} {K : PySem.W.Frag} (h : X.K = K) {o e : Expr} {es : List Expr} {to : TE} {t : TA} {name : Str} {apos cpos : Pos} {T id : String} {r : V → List V → Hp → VK → Prop}
    (pa : PlainAttrs T) (slot : Slot T name id) (hty : typeOf (.builtin id) = pure (.type "method_descriptor")) (hm : MtR X id r) (ho : PE X o to) (ha : PA X (e :: es) t)
    (hbase : attributeBase o name X.env (eval o X.env) = eval o X.env := by rfl)
    (hfew : ((backTo cpos (starEach (e :: es) X.env)).all (fun x => !x.1) && (backToKw cpos (keywordEach [] X.env)).all (fun x => x.1.isSome)
      && decide ((e :: es).length + ([] : List Keyword).length + (if ([] : List Keyword).isEmpty then 0 else 1) < 30)) = true := by rfl)
    (hline : (apos.endLine == cpos.line) = true := by rfl) (hs : starEach (e :: es) X.env = (false, eval e X.env) :: starEach es X.env := by rfl) (hplain : (backTo cpos (starEach es X.env)).any (·.1) = false := by rfl) :
    PE X (.Call (.Attribute o name apos) (e :: es) [] cpos) (tBM K T r to t) := h ▸ pe_bm pa slot hty hm ho ha hbase hfew hline hs hplain
theorem k_bm0 {X : Cx} {K : PySem.W.Frag} (h : X.K = K) {o : Expr} {to : TE} {name : Str} {apos cpos : Pos} {T id : String} {r : V → List V → Hp → VK → Prop}
    (pa : PlainAttrs T) (slot : Slot T name id) (hty : typeOf (.builtin id) = pure (.type "method_descriptor")) (hm : MtR X id r) (ho : PE X o to)
    (hbase : attributeBase o name X.env (eval o X.env) = eval o X.env := by rfl) (hline : (apos.endLine == cpos.line) = true := by rfl) : PE X (.Call (.Attribute o name apos) [] [] cpos) (tBM0 K T r to) := h ▸ pe_bm0 pa slot hty hm ho hbase hline

structure Nest {α : Type} [PyI α] (H0 H : Hp) (D : Addr) (as : List Addr) (vss : List (List α)) : Prop where
  out : H D = some (.lst (as.map V.ref))
  new : H0 D = none
  len : as.length = vss.length
  ins : ∀ (i : Nat) a vs, as[i]? = some a → vss[i]? = some vs → H0 a = none ∧ a ≠ D ∧ ∃ xs, H a = some (.lst xs) ∧ RL (fun d x => PyI.rep d x H) vs xs
  nd : as.Nodup
section
variable {K : PySem.W.Frag} {σ : L2.St} {H H0 H' : Hp} {ta tb tc te tj tl : TE} {tz tu : TS} {D : Ends} {α β γ : Type}
theorem Nest.gr [PyI α] {A : Addr} {as : List Addr} {vss : List (List α)} (n : Nest H0 H A as vss) (g : Gr H H') : Nest H0 H' A as vss :=
  ⟨g.lst n.out, n.new, n.len, fun i a vs h h' => by
    obtain ⟨h1, h2, xs, hx, r⟩ := n.ins i a vs h h'
    exact ⟨h1, h2, xs, g.lst hx, r.mono fun _ _ z => PyI.keep g.tup z⟩, n.nd⟩
theorem Nest.rep [PyI α] {A : Addr} {as : List Addr} {vss : List (List α)} (n : Nest H0 H A as vss) : Py.rep (Ls.mk (vss.map Ls.mk)) (.ref A) H :=
  ⟨A, _, rfl, n.out, by simp [n.len], fun i d x h h' => by
    rw [List.getElem?_map] at h h'
    cases e : vss[i]? with
    | none => rw [e] at h; cases h
    | some vs =>
      cases e' : as[i]? with
      | none => rw [e'] at h'; cases h'
      | some a =>
        rw [e] at h; rw [e'] at h'
        cases h; cases h'
        obtain ⟨h1, h2, xs, hx, r⟩ := n.ins i a vs e' e
        exact ⟨a, xs, rfl, hx, r⟩⟩
theorem rep_snocN [PyI α] {A : Addr} {as : List Addr} {n : Nat} {a : Addr} (N : Nest (α := α) H0 H A as (List.replicate n [])) (ha : H a = some (.lst [])) (h0 : H0 a = none) (hne : a ≠ A) (hnew : ∀ b ∈ as, b ≠ a) :
    Nest (α := α) H0 (upd H A (.lst (as.map V.ref ++ [V.ref a]))) A (as ++ [a]) (List.replicate (n + 1) []) := by
  refine ⟨by rw [upd_same]; simp, N.new, by simp [N.len], fun i b vs h h' => ?_, ?_⟩
  · have hv : vs = [] := by
      rw [List.getElem?_replicate] at h'
      split at h' <;> cases h'
      rfl
    subst hv
    have hl := N.len
    rw [List.length_replicate] at hl
    by_cases hi : i < as.length
    · rw [List.getElem?_append_left hi] at h
      obtain ⟨h1, h2, xs, hx, r⟩ := N.ins i b [] h (by rw [List.getElem?_replicate, if_pos (by omega)])
      rw [r.nil_inv] at hx
      exact ⟨h1, h2, [], by rw [upd_ne h2]; exact hx, RL.nil⟩
    · rw [List.getElem?_append_right (by omega)] at h
      have : i - as.length = 0 := by
        have := (List.getElem?_eq_some_iff.mp h).1
        simp at this; omega
      rw [this] at h
      simp at h
      subst h
      exact ⟨h0, hne, [], by rw [upd_ne hne]; exact ha, RL.nil⟩
  · rw [List.nodup_append]
    exact ⟨N.nd, by simp, fun b hb c hc => by simp at hc; subst hc; exact hnew b hb⟩
/-- x = [[] for j in ..] -/
theorem s_nest [PyI α] [Py β] {wi : TI} {i j : Nat} {vs : List Nat} {ds : List β} (hs : Src wi σ H ds) (hz : ds.length ≤ 100000) (hw : ∀ x, wipe ((wipe σ vs).set j (some x)) vs = wipe σ vs)
    (k : ∀ A as H2, Gr H H2 → Nest (α := α) H H2 A as (List.replicate ds.length []) → D.nx (σ.set i (some (.ref A))) H2) : tAsg (tLc wi (gName j) tYes (tLst tNil) vs) (gName i) D σ H := by
  refine hs H (Gr.refl H) _ fun J H2 g2 w A hA => ?_
  have gD : Gr H2 (upd H2 A (.lst [])) := Gr.new hA
  have hA0 : H A = none := g2.back hA
  refine ⟨fun i m H' => m = ds.length - i ∧ i ≤ ds.length ∧ Gr H2 H' ∧ ∃ as, Nest (α := α) H H' A as (List.replicate i []), ⟨ds.length, by simp, Nat.zero_le _, gD, [], ⟨upd_same, hA0, rfl, fun i a vs h => by simp at h, List.nodup_nil⟩⟩, ?_⟩
  rintro i m H3 ⟨rfl, hi, g3, as, N⟩
  by_cases hlt : i < ds.length
  · have hd : ds[i]? = some ds[i] := by simp [hlt]
    obtain ⟨hgo, hy⟩ := w.go H3 g3 i _ hd
    refine .inr ⟨hgo, fun H' => i + 1 ≤ ds.length ∧ Gr H2 H' ∧ ∃ as, Nest (α := α) H H' A as (List.replicate (i + 1) []), fun H' h => ⟨ds.length - (i + 1), by omega, rfl, h.1, h.2⟩, fun x H4 hyl => ?_⟩
    obtain ⟨g4, r4⟩ := hy x H4 hyl
    refine ⟨hw x, ?_⟩
    unfold tYes
    refine (fun z => (by simpa using z) : (tLst tNil ((wipe σ vs).set j (some x)) H4 fun y H4 => ∃ acc, H4 A = some (.lst acc) ∧ acc.length < sizeLine ∧ (i + 1 ≤ ds.length ∧ Gr H2 (upd H4 A (.lst (acc ++ [y]))) ∧ ∃ as, Nest (α := α) H (upd H4 A (.lst (acc ++ [y]))) A as (List.replicate (i + 1) []))) → _) ?_
    refine ⟨Nat.zero_le _, fun p hp => ?_⟩
    have N4 := N.gr g4
    have N5 : Nest (α := α) H (upd H4 p (.lst [])) A as (List.replicate i []) := N4.gr (Gr.new hp)
    have hl := N.len
    rw [List.length_replicate] at hl
    have pA : p ≠ A := fun e => by rw [e, N4.out] at hp; cases hp
    refine ⟨as.map V.ref, N5.out, by rw [List.length_map]; exact Nat.lt_of_lt_of_le (show as.length < 100001 by omega) (by decide), hlt, ?_, as ++ [p], ?_⟩
    · exact (g3.trans (g4.trans (Gr.new hp))).mut hA N5.out (fun _ z => nomatch z)
    · refine rep_snocN N5 upd_same (g2.back (g3.back (g4.back hp))) pA fun b hb e => ?_
      obtain ⟨q, hq⟩ := List.mem_iff_getElem?.mp hb
      have hql := (List.getElem?_eq_some_iff.mp hq).1
      obtain ⟨_, _, xs, hx, _⟩ := N4.ins q b [] hq (by rw [List.getElem?_replicate, if_pos (by omega)])
      rw [e, hp] at hx
      cases hx
  · have e : i = ds.length := by omega
    subst e
    exact .inl ⟨w.stop H3 g3, k A as H3 (g2.trans g3) N⟩
theorem q_nest [PyI α] [Py β] {wi : TI} {i j : Nat} {vs : List Nat} {ds : List β} (hs : Src wi σ H ds) (hz : ds.length ≤ 100000) (hw : ∀ x, wipe ((wipe σ vs).set j (some x)) vs = wipe σ vs)
    (k : ∀ A as H2, Gr H H2 → Nest (α := α) H H2 A as (List.replicate ds.length []) → tz D (σ.set i (some (.ref A))) H2) : tSeq (tAsg (tLc wi (gName j) tYes (tLst tNil) vs) (gName i)) tz D σ H := s_nest (D := { D with nx := tz D }) hs hz hw k
/-- x[k].append(e) -/
theorem s_nestApp [PyI α] {A : Addr} {as : List Addr} {vss : List (List α)} {i : Nat} {c : Int} {d : α} (N : Nest H0 H A as vss) (g0 : Gr H0 H) (hi : σ[i]? = some (some (.ref A))) (hj : Ev tj σ H c) (he : Ev te σ H d) {vs : List α} (hc : 0 ≤ c) (hv : vss[c.toNat]? = some vs) (hz : vs.length < 100000)
    (k : ∀ H2, Gr H0 H2 → TupK H H2 → Nest H0 H2 A as (vss.set c.toNat (vs ++ [d])) → D.nx σ H2) : tDrop (tBM K "list" rAppend (tOp (rIxL K) (tVar i) tj) (tCons te tNil)) D σ H := by
  refine ⟨_, hi, hj H (Gr.refl H) _ fun c' x H1 ec g1 rx => ?_⟩
  subst ec
  have N1 := N.gr g1
  have hcl : c'.toNat < vss.length := (List.getElem?_eq_some_iff.mp hv).1
  have ha : as[c'.toNat]? = some (as[c'.toNat]'(by rw [N.len]; exact hcl)) := by simp [N.len, hcl]
  generalize as[c'.toNat]'(by rw [N.len]; exact hcl) = a at ha
  obtain ⟨h1, h2, xs, hx, r⟩ := N1.ins _ a vs ha hv
  refine ⟨A, as.map V.ref, c', .ref a, rfl, rx, .inl (.of N1.out), ?_, ?_⟩
  · unfold L2.atI
    rw [List.length_map]
    have : ixN as.length c' = some c'.toNat := by
      unfold ixN
      rw [if_pos hc, if_pos (by rw [N.len]; omega)]
    rw [this]
    show (as.map V.ref)[c'.toNat]? = _
    rw [List.getElem?_map, ha]; rfl
  refine ⟨.inl ⟨rfl, xs, .of hx⟩, he H1 g1 _ fun d' y H2 ed g2 ry => ?_⟩
  subst ed
  have N2 := N1.gr g2
  have hx2 := g2.lst hx
  refine ⟨a, xs, y, rfl, rfl, hx2, by rw [← r.1]; exact Nat.lt_of_lt_of_le hz (by decide), ?_⟩
  have tk : TupK H2 (upd H2 a (.lst (xs ++ [y]))) := TupK.put hx2 (fun _ z => nomatch z)
  refine k _ (((g0.trans g1).trans g2).mut h1 hx2 (fun _ z => nomatch z)) ((g1.trans g2).tup.trans tk) ⟨?_, N.new, by simp [N.len], fun q b ws hb hw => ?_, N.nd⟩
  · rw [upd_ne (Ne.symm h2)]; exact N2.out
  · by_cases hq : q = c'.toNat
    · subst hq
      rw [ha] at hb
      cases hb
      rw [List.getElem?_set_self hcl] at hw
      cases hw
      exact ⟨h1, h2, _, upd_same, (r.mono fun _ _ z => PyI.keep (g2.tup.trans tk) z).snoc (PyI.keep tk ry)⟩
    · rw [List.getElem?_set_ne (fun z => hq z.symm)] at hw
      obtain ⟨h3, h4, ys, hy, ry'⟩ := N2.ins q b ws hb hw
      have : b ≠ a := fun e => by
        subst e
        have hql := (List.getElem?_eq_some_iff.mp hb).1
        have := (List.getElem?_inj hql N.nd).mp (hb.trans ha.symm)
        exact hq this
      exact ⟨h3, h4, ys, by rw [upd_ne this]; exact hy, ry'.mono fun _ _ z => PyI.keep tk z⟩
theorem q_nestApp [PyI α] {A : Addr} {as : List Addr} {vss : List (List α)} {i : Nat} {c : Int} {d : α} (N : Nest H0 H A as vss) (g0 : Gr H0 H) (hi : σ[i]? = some (some (.ref A))) (hj : Ev tj σ H c) (he : Ev te σ H d) {vs : List α} (hc : 0 ≤ c) (hv : vss[c.toNat]? = some vs) (hz : vs.length < 100000)
    (k : ∀ H2, Gr H0 H2 → TupK H H2 → Nest H0 H2 A as (vss.set c.toNat (vs ++ [d])) → tz D σ H2) : tSeq (tDrop (tBM K "list" rAppend (tOp (rIxL K) (tVar i) tj) (tCons te tNil))) tz D σ H := s_nestApp (D := { D with nx := tz D }) N g0 hi hj he hc hv hz k
/-- a list of whatever grows -/
theorem src_lstG [Py α] {ds : List α} (h : Ev tl σ H (Ls.mk ds)) : Src (iList K tl) σ H ds := fun H1 g R r => h H1 g _ fun d v H2 e g2 ⟨p, xs, ev, hp, rl⟩ => by
  subst e
  refine ⟨p, ev, ⟨xs, .of hp⟩, r _ H2 g2 ⟨fun H3 k => ⟨xs, .of (k.lst hp), by rw [rl.1]; exact Nat.le_refl _⟩, fun H3 k i d' hd => ?_⟩⟩
  obtain ⟨x, hx, rx⟩ := rl.get hd
  refine ⟨⟨xs, x, .of (k.lst hp), hx⟩, fun y H4 hy => ?_⟩
  obtain ⟨e4, hy⟩ := hy
  subst e4
  have e5 := hy xs (.of (k.lst hp))
  rw [hx] at e5
  cases e5
  exact ⟨Gr.refl _, Py.mono k rx⟩
/-- two ways to hold the same -/
class InjI (α : Type) [PyI α] : Prop where
  inj : ∀ {d e : α} {v : V} {H : Hp}, PyI.rep d v H → PyI.rep e v H → d = e
instance : InjI Int := ⟨fun h h' => by rw [h] at h'; injection h'⟩
instance [PyI α] [PyI β] [InjI α] [InjI β] : InjI (α × β) := ⟨fun ⟨p, x, y, e, h, a, b⟩ ⟨p', x', y', e', h', a', b'⟩ => by
  rw [e] at e'; cases e'; rw [h] at h'; cases h'
  exact Prod.ext (InjI.inj a a') (InjI.inj b b')⟩
instance [PyI α] [InjI α] : InjI (List α) := ⟨fun {d e v H} ⟨p, xs, ev, h, a⟩ ⟨p', xs', e', h', a'⟩ => by
  rw [ev] at e'; cases e'; rw [h] at h'; cases h'
  refine List.ext_getElem? fun i => ?_
  cases q : d[i]? with
  | none =>
    have := List.getElem?_eq_none_iff.mp q
    rw [List.getElem?_eq_none_iff.mpr (by rw [a'.1, ← a.1]; exact this)]
  | some z =>
    obtain ⟨x, hx, rx⟩ := a.get q
    obtain ⟨z', q', rz⟩ := a'.getR hx
    rw [q', InjI.inj rx rz]⟩
/-- the house's looked -/
theorem own_of {C : Addr} {h : Hs C} {p dx t l : Addr} (hp : H p = some (.ins C dx (hFields h.r t l))) (hn : Neat H) (ht : PyI.rep h.ds (.ref t) H) : Own H l (besM h.r h.ds) := fun p' C' dx' r' t' ds' hp' hd => by
  have e := hn.2 p p' C C' dx dx' h.r r' t t' l hp hp'
  subst e
  rw [hp] at hp'
  injection hp' with hp'
  injection hp' with _ _ e3
  unfold hFields at e3
  injection e3 with e4 e5
  injection e4 with _ e4
  injection e4 with e4
  injection e5 with e5 _
  injection e5 with _ e5
  injection e5 with e5
  subst e4 e5
  rw [InjI.inj ht hd]
theorem hF_inj {r r' : Int} {t t' l l' : Addr} (e : hFields r t l = hFields r' t' l') : r = r' ∧ t = t' ∧ l = l' := by
  unfold hFields at e
  injection e with e4 e5
  injection e4 with _ e4
  injection e4 with e4
  injection e5 with e5 e6
  injection e5 with _ e5
  injection e5 with e5
  injection e6 with e6 _
  injection e6 with _ e6
  injection e6 with e6
  exact ⟨e4, e5, e6⟩
theorem Neat.fresh {Hb : Hp} {p l C dx C' dx' t : Addr} {r : Int} {fs : List (Str × V)} (n : Neat Hb) (hl : Hb l = none) (hp : Hb p = some (.ins C' dx' fs)) : Neat (upd (upd Hb l (.dK [])) p (.ins C dx (hFields r t l))) := by
  have pl : p ≠ l := ne_of_none hp hl
  have nc : Neat (upd Hb l (.dK [])) := n.put (by intro _ _ _ _ _ z; cases z)
  have key : ∀ q D dd r' t' l', (upd (upd Hb l (.dK [])) p (.ins C dx (hFields r t l))) q = some (.ins D dd (hFields r' t' l')) → (q = p ∧ l' = l) ∨ (q ≠ p ∧ l' ≠ l ∧ (upd Hb l (.dK [])) q = some (.ins D dd (hFields r' t' l'))) := fun q D dd r' t' l' e => by
    by_cases hq : q = p
    · rw [hq, upd_same] at e
      injection e with e
      injection e with _ _ e
      exact .inl ⟨hq, (hF_inj e).2.2.symm⟩
    · rw [upd_ne hq] at e
      refine .inr ⟨hq, fun z => ?_, e⟩
      subst z
      have ql : q ≠ l' := fun z => by rw [z, upd_same] at e; cases e
      rw [upd_ne ql] at e
      exact n.1 _ _ _ _ _ _ e hl
  refine ⟨fun q D dd r' t' l' e => ?_, fun q q' D D' dd dd' r1 r2 t1 t2 l' e e' => ?_⟩
  · rcases key _ _ _ _ _ _ e with ⟨rfl, rfl⟩ | ⟨hq, hne, e⟩
    · rw [upd_ne (Ne.symm pl), upd_same]; exact fun z => nomatch z
    · have := nc.1 _ _ _ _ _ _ e
      by_cases z : l' = p
      · rw [z, upd_same]; exact fun z => nomatch z
      · rw [upd_ne z]; exact this
  · rcases key _ _ _ _ _ _ e with ⟨h1, h2⟩ | ⟨h1, h2, h3⟩ <;> rcases key _ _ _ _ _ _ e' with ⟨h1', h2'⟩ | ⟨h1', h2', h3'⟩
    · rw [h1, h1']
    · exact absurd h2 h2'
    · exact absurd h2' h2
    · exact nc.2 _ _ _ _ _ _ _ _ _ _ _ h3 h3'
def Warm {C : Addr} (h : Hs C) (v : V) (H : Hp) : Prop := ∃ p dx t l b, v = .ref p ∧ H p = some (.ins C dx (hFields h.r t l)) ∧ PyI.rep h.ds (.ref t) H ∧ H l = some (warm b) ∧ PyI.rep (besM h.r h.ds) b H
theorem Warm.mono {C : Addr} {h : Hs C} {v : V} (w : Warm h v H) (g : Gr H H') : Warm h v H' := by
  obtain ⟨p, dx, t, l, b, e, hp, ht, hl, hb⟩ := w
  rcases g.old l _ hl with z | ⟨_, _, v, ns, z, r, ow⟩
  · exact ⟨p, dx, t, l, b, e, g.ins hp, PyI.keep g.tup ht, z, PyI.keep g.tup hb⟩
  · exact ⟨p, dx, t, l, v, e, g.ins hp, PyI.keep g.tup ht, z, by rw [← ow p C dx h.r t h.ds hp ht]; exact r⟩
theorem val_warm {b : V} : valV [((Sum.inr "beside" : Key), b)] (Sum.inr "beside") = some b := by
  unfold valV
  simp
theorem s_cold {C : Addr} {h : Hs C} {v : V} {i : Nat} {tw : TS} (cl : Cls K C) (na : NoAttr K C "looked") (hi : σ[i]? = some (some v)) (hr : Py.rep h v H) (k1 : tu D σ H) (k2 : Warm h v H → tw D σ H) :
    tIfS (tB (tDNotIn (tC (.str "beside")) (tFld K (tVar i) "looked"))) tu tw D σ H := by
  obtain ⟨p, dx, t, l, e, hp, hn, ht, hl⟩ := hr
  refine ⟨v, hi, p, C, dx, _, .ref l, e, hp, cl, na, lk_looked, ?_⟩
  rcases hl with hl | ⟨b, hl, hb⟩
  · exact ⟨l, none, rfl, DGet.k (k := Sum.inr "beside") hl, true, rfl, k1⟩
  · have hg := DGet.k (k := Sum.inr "beside") hl
    rw [val_warm] at hg
    exact ⟨l, _, rfl, hg, false, rfl, k2 ⟨p, dx, t, l, b, e, hp, ht, hl, hb⟩⟩
theorem q_cold {C : Addr} {h : Hs C} {v : V} {i : Nat} (cl : Cls K C) (na : NoAttr K C "looked") (hi : σ[i]? = some (some v)) (hr : Py.rep h v H) (k1 : tu { D with nx := tz D } σ H) (k2 : Warm h v H → tz D σ H) :
    tSeq (tIfS (tB (tDNotIn (tC (.str "beside")) (tFld K (tVar i) "looked"))) tu tNext) tz D σ H := s_cold (D := { D with nx := tz D }) cl na hi hr k1 k2
theorem s_warm {C : Addr} {h : Hs C} {v : V} {i : Nat} (cl : Cls K C) (na : NoAttr K C "looked") (hi : σ[i]? = some (some v)) (hr : Py.rep h v H) (hv : Ev te σ H (besM h.r h.ds)) (k : ∀ H1, Gr H H1 → Warm h v H1 → D.nx σ H1) :
    sDPut (tFld K (tVar i) "looked") (tC (.str "beside")) te D σ H := hv H (Gr.refl H) _ fun d x H1 ed g rx => by
  subst ed
  obtain ⟨p, dx, t, l, e, hp, hn, ht, hl⟩ := Py.mono g hr
  have hl' : ∃ kvs, H1 l = some (.dK kvs) ∧ (kvs = [] ∨ ∃ b : V, kvs = [((Sum.inr "beside" : Key), b)]) := by
    rcases hl with hl | ⟨b, hl, _⟩
    · exact ⟨_, hl, .inl rfl⟩
    · exact ⟨_, hl, .inr ⟨b, rfl⟩⟩
  obtain ⟨kvs, hl, hk⟩ := hl'
  have hput : putK kvs (Sum.inr "beside") x = [((Sum.inr "beside" : Key), x)] := by
    rcases hk with rfl | ⟨b, rfl⟩
    · rfl
    · unfold putK; simp
  have hlen : kvs.length < sizeLine := by
    rcases hk with rfl | ⟨b, rfl⟩
    · show 0 < sizeLine; decide
    · show 1 < sizeLine; decide
  have hchg : Chg (.dK kvs) := by
    rcases hk with rfl | ⟨b, rfl⟩ <;> exact trivial
  have hd := DPut.k (k := Sum.inr "beside") (v := x) hl hlen
  rw [hput] at hd
  refine ⟨v, hi, p, C, dx, _, .ref l, e, hp, cl, na, lk_looked, l, _, rfl, hd, ?_⟩
  have tk : TupK H1 (upd H1 l (warm x)) := TupK.put hl (fun _ z => nomatch z)
  have gg : Gr H1 (upd H1 l (warm x)) := ⟨fun a o ha => by
    by_cases q : a = l
    · subst q
      rw [hl] at ha
      cases ha
      exact .inr ⟨hchg, ⟨_, _, _, _, _, hp⟩, x, _, upd_same, PyI.keep tk rx, own_of hp hn ht⟩
    · exact .inl (by rw [upd_ne q]; exact ha), fun n => n.put (by intro _ _ _ _ _ z; cases z), fun q C dx r t l' e _ => by
      by_cases hq : q = l
      · rw [hq, upd_same] at e; cases e
      · rw [upd_ne hq] at e; exact e⟩
  exact k _ (g.trans gg) ⟨p, dx, t, l, x, e, gg.ins hp, PyI.keep tk ht, upd_same, PyI.keep tk rx⟩
theorem ev_bes {C : Addr} {h : Hs C} {v : V} {i : Nat} (cl : Cls K C) (na : NoAttr K C "looked") (hi : σ[i]? = some (some v)) (w : Warm h v H) : Ev (tDGet (tFld K (tVar i) "looked") (tC (.str "beside"))) σ H (besM h.r h.ds) := fun H1 g Q q => by
  obtain ⟨p, dx, t, l, b, e, hp, ht, hl, hb⟩ := w.mono g
  have hg := DGet.k (k := Sum.inr "beside") hl
  rw [val_warm] at hg
  exact ⟨v, hi, p, C, dx, _, .ref l, e, hp, cl, na, lk_looked, l, b, rfl, hg, q _ _ H1 rfl (Gr.refl H1) hb⟩
theorem sne {σ : L2.St} {i j : Nat} {v : Option V} {x : Option (Option V)} (h : i ≠ j) (e : σ[j]? = x) : (σ.set i v)[j]? = x := by rw [List.getElem?_set_ne h]; exact e
theorem seq {σ : L2.St} {i : Nat} {v : Option V} (h : i < σ.length) : (σ.set i v)[i]? = some v := List.getElem?_set_self h
/-- nbrs as the walk finds them -/
theorem nbrs_append (a : Int) : ∀ l m : List (Int × Int), nbrs a (l ++ m) = nbrs a l ++ nbrs a m
  | [], m => rfl
  | (x, y) :: l, m => by
    show (if x = a then [y] else []) ++ (if y = a then [x] else []) ++ nbrs a (l ++ m) = ((if x = a then [y] else []) ++ (if y = a then [x] else []) ++ nbrs a l) ++ nbrs a m
    rw [nbrs_append a l m]; simp
theorem nbrs_length (a : Int) : ∀ l : List (Int × Int), (nbrs a l).length ≤ 2 * l.length
  | [] => Nat.zero_le _
  | (x, y) :: l => by
    have := nbrs_length a l
    unfold nbrs
    rw [List.length_append, List.length_append, List.length_cons]
    have h1 : (if x = a then [y] else ([] : List Int)).length ≤ 1 := by split <;> simp
    have h2 : (if y = a then [x] else ([] : List Int)).length ≤ 1 := by split <;> simp
    omega
def nbAll (r : Int) (l : List (Int × Int)) : List (List Int) := (List.range r.toNat).map fun (a : Nat) => nbrs (a : Int) l
theorem nbAll_nil (r : Int) : nbAll r [] = List.replicate r.toNat [] := by
  unfold nbAll
  rw [show (fun (a : Nat) => nbrs (a : Int) []) = fun _ => [] from rfl, List.map_const', List.length_range]
theorem nbAll_get {r : Int} {l : List (Int × Int)} {a : Int} (h : 0 ≤ a) (h2 : a < r) : (nbAll r l)[a.toNat]? = some (nbrs a l) := by
  unfold nbAll
  rw [List.getElem?_map, List.getElem?_range (by omega)]
  show some (nbrs ((a.toNat : Nat) : Int) l) = _
  rw [Int.toNat_of_nonneg h]
/-- found[x].append(y); found[y].append(x) -/
theorem nbAll_snoc {r : Int} {l : List (Int × Int)} {x y : Int} (hx : 0 ≤ x) (hxr : x < r) (hy : 0 ≤ y) (hyr : y < r) (hne : x ≠ y) :
    ((nbAll r l).set x.toNat (nbrs x l ++ [y])).set y.toNat (nbrs y l ++ [x]) = nbAll r (l ++ [(x, y)]) := by
  refine List.ext_getElem? fun i => ?_
  by_cases hi : i < r.toNat
  · have h1 := nbAll_get (r := r) (l := l) (a := (i : Int)) (by omega) (by omega)
    have h2 := nbAll_get (r := r) (l := l ++ [(x, y)]) (a := (i : Int)) (by omega) (by omega)
    have e1 : nbrs (i : Int) (l ++ [(x, y)]) = nbrs (i : Int) l ++ ((if x = (i : Int) then [y] else []) ++ (if y = (i : Int) then [x] else [])) := by
      rw [nbrs_append]; show _ ++ ((if x = (i : Int) then [y] else []) ++ (if y = (i : Int) then [x] else []) ++ []) = _
      rw [List.append_nil]
    rw [show ((i : Int)).toNat = i from rfl] at h1 h2
    rw [h2, e1]
    have hl : (nbAll r l).length = r.toNat := by unfold nbAll; simp
    by_cases hyi : y = (i : Int)
    · subst hyi
      rw [show ((i : Int)).toNat = i from rfl, List.getElem?_set_self (by rw [List.length_set, hl]; exact hi), if_neg hne, if_pos rfl]
      simp
    · rw [List.getElem?_set_ne (by omega), if_neg hyi]
      by_cases hxi : x = (i : Int)
      · subst hxi
        rw [show ((i : Int)).toNat = i from rfl, List.getElem?_set_self (by rw [hl]; exact hi), if_pos rfl]
        simp
      · rw [List.getElem?_set_ne (by omega), if_neg hxi, h1]
        simp
  · have hl : (nbAll r (l ++ [(x, y)])).length = r.toNat := by unfold nbAll; simp
    have hl2 : (nbAll r l).length = r.toNat := by unfold nbAll; simp
    rw [List.getElem?_eq_none (by rw [List.length_set, List.length_set, hl2]; omega), List.getElem?_eq_none (by rw [hl]; omega)]
theorem isortI_eq (l : List Int) : sortO l = isortI l := by
  unfold sortO isortI
  congr 1
  funext a b
  show (!decide (b < a)) = decide (a ≤ b)
  by_cases h : a ≤ b
  · rw [decide_eq_true h, decide_eq_false (by omega)]; rfl
  · rw [decide_eq_false h, decide_eq_true (by omega)]; rfl
theorem besM_nb (r : Int) (l : List (Int × Int)) : (nbAll r l).map sortO = besM r l := by
  unfold nbAll besM
  rw [List.map_map]
  congr 1
  funext a
  exact isortI_eq _
end
end Zw
/-! Z13: loops that fold, new lists and dicts, a dict walked. -/
namespace Zw
open PySem L2 RZ PySem.Spec PyProof.Rows SrtO
section
variable {K : PySem.W.Frag} {σ : L2.St} {H H0 Hb H' : Hp} {ta tb tc te tj tl ty tv : TE} {tz tu : TS} {D : Ends} {g : TG} {α β γ : Type}
theorem s_newDT {i : Nat} (k : ∀ q, H q = none → D.nx (σ.set i (some (.ref q))) (upd H q (.dT []))) : tAsg tDNewT (gName i) D σ H := fun p hp => k p hp
theorem q_newDT {i : Nat} (k : ∀ q, H q = none → tz D (σ.set i (some (.ref q))) (upd H q (.dT []))) : tSeq (tAsg tDNewT (gName i)) tz D σ H := fun p hp => k p hp
theorem rep_newDT [PyI β] {q : Addr} : Py.rep (DT.mk ([] : List (List Int × β))) (.ref q) (upd H q (.dT [])) := ⟨q, [], rfl, upd_same, PL.nil⟩
theorem s_newL {i : Nat} (k : ∀ q, H q = none → D.nx (σ.set i (some (.ref q))) (upd H q (.lst []))) : tAsg (tLst tNil) (gName i) D σ H := ⟨Nat.zero_le _, fun p hp => k p hp⟩
theorem q_newL {i : Nat} (k : ∀ q, H q = none → tz D (σ.set i (some (.ref q))) (upd H q (.lst []))) : tSeq (tAsg (tLst tNil) (gName i)) tz D σ H := s_newL (D := { D with nx := tz D }) k
theorem rep_newL [Py α] {q : Addr} : Py.rep (Ls.mk ([] : List α)) (.ref q) (upd H q (.lst [])) := ⟨q, [], rfl, upd_same, RL.nil⟩
/-- d = {key: v} -/
theorem s_newDT1 [PyI β] {i : Nat} {k : List Int} {b : β} (hk : Ev ty σ H k) (hv : Ev tv σ H b) (kk : ∀ q H1, H q = none → Gr H H1 → Py.rep (DT.mk [(k, b)]) (.ref q) H1 → D.nx (σ.set i (some (.ref q))) H1) : tAsg (tDispT1 ty tv) (gName i) D σ H := fun p hp => by
  refine hk _ (Gr.new hp) _ fun k' x H2 e g2 rx => hv H2 ((Gr.new hp).trans g2) _ fun b' y H3 e' g3 ry => ?_
  subst e e'
  obtain ⟨b0, eb, hb⟩ := tup_at (Py.mono g3 rx)
  have h0 : H3 p = some (.dT []) := (g2.trans g3).dT upd_same
  refine ⟨keyT k', b0, eb, hb, h0, kk p _ hp (((Gr.new hp).trans (g2.trans g3)).mut hp h0 (fun _ z => nomatch z)) ⟨p, _, rfl, upd_same, PL.nil.cons ⟨rfl, ?_⟩⟩⟩
  exact PyI.keep (TupK.put h0 (fun _ z => nomatch z)) ry
theorem q_newDT1 [PyI β] {i : Nat} {k : List Int} {b : β} (hk : Ev ty σ H k) (hv : Ev tv σ H b) (kk : ∀ q H1, H q = none → Gr H H1 → Py.rep (DT.mk [(k, b)]) (.ref q) H1 → tz D (σ.set i (some (.ref q))) H1) : tSeq (tAsg (tDispT1 ty tv) (gName i)) tz D σ H := s_newDT1 (D := { D with nx := tz D }) hk hv kk
theorem foldl_take {A : Type} {ds : List α} {i : Nat} {d : α} (f : A → α → A) (a : A) (h : ds[i]? = some d) : (ds.take (i + 1)).foldl f a = f ((ds.take i).foldl f a) d := by
  rw [List.take_add_one, h]
  show ((ds.take i) ++ [d]).foldl f a = _
  rw [List.foldl_append]; rfl
/-- for, by a fold -/
theorem s_foldT [PyI α] {wi : TI} {A : Type} {ds : List α} (f : A → α → A) (a0 : A) (I : A → L2.St → Hp → Prop) (hs : SrcT wi σ H ds) (h0 : ∀ H2, Gr H H2 → I a0 σ H2) (mono : ∀ a σ' H1 H2, Gr H1 H2 → I a σ' H1 → I a σ' H2)
    (step : ∀ Hb i d x a σ' H', Gr H Hb → TupK Hb H' → ds[i]? = some d → a = (ds.take i).foldl f a0 → I a σ' H' → Py.rep d x H' → g x σ' H' fun σ2 H3 => tu { D with nx := fun σ3 H4 => TupK Hb H4 ∧ I (f a d) σ3 H4, ct := fun σ3 H4 => TupK Hb H4 ∧ I (f a d) σ3 H4, bk := D.nx } σ2 H3)
    (fin : ∀ σ' H', TupK H H' → I (ds.foldl f a0) σ' H' → D.nx σ' H') : tFor wi g tu D σ H := by
  refine hs H (Gr.refl H) _ fun J H2 g2 w => ?_
  refine ⟨fun i m σ' H' => m = ds.length - i ∧ i ≤ ds.length ∧ TupK H2 H' ∧ I ((ds.take i).foldl f a0) σ' H', ⟨ds.length, by simp, Nat.zero_le _, TupK.refl _, h0 H2 g2⟩, ?_⟩
  rintro i m σ' H3 ⟨rfl, hi, s3, p⟩
  by_cases hlt : i < ds.length
  · have hd : ds[i]? = some ds[i] := by simp [hlt]
    obtain ⟨hgo, hy⟩ := w.go H3 s3 i _ hd
    refine .inr ⟨hgo, fun σ4 H4 => TupK H2 H4 ∧ I (f ((ds.take i).foldl f a0) ds[i]) σ4 H4, fun σ4 H4 p4 => ⟨ds.length - (i + 1), by omega, rfl, hlt, p4.1, by rw [foldl_take f a0 hd]; exact p4.2⟩, fun x H4 hyl => ?_⟩
    obtain ⟨g4, r4⟩ := hy x H4 hyl
    exact step H2 i _ x _ σ' H4 g2 (s3.trans g4.tup) hd rfl (mono _ _ _ _ g4 p) r4
  · have e : i = ds.length := by omega
    subst e
    rw [List.take_length] at p
    exact .inl ⟨w.stop H3 s3, fin σ' H3 (g2.tup.trans s3) p⟩
theorem q_foldT [PyI α] {wi : TI} {A : Type} {ds : List α} (f : A → α → A) (a0 : A) (I : A → L2.St → Hp → Prop) (hs : SrcT wi σ H ds) (h0 : ∀ H2, Gr H H2 → I a0 σ H2) (mono : ∀ a σ' H1 H2, Gr H1 H2 → I a σ' H1 → I a σ' H2)
    (step : ∀ Hb i d x a σ' H', Gr H Hb → TupK Hb H' → ds[i]? = some d → a = (ds.take i).foldl f a0 → I a σ' H' → Py.rep d x H' → g x σ' H' fun σ2 H3 => tu { D with nx := fun σ3 H4 => TupK Hb H4 ∧ I (f a d) σ3 H4, ct := fun σ3 H4 => TupK Hb H4 ∧ I (f a d) σ3 H4, bk := tz D } σ2 H3)
    (fin : ∀ σ' H', TupK H H' → I (ds.foldl f a0) σ' H' → tz D σ' H') : tSeq (tFor wi g tu) tz D σ H := s_foldT (D := { D with nx := tz D }) f a0 I hs h0 mono step fin
/-- .. over a list at its address, which the body keeps -/
theorem s_foldL [PyI α] {wi : TI} {A : Type} {ds : List α} (f : A → α → A) (a0 : A) (I : A → L2.St → Hp → Prop) (hs : SrcL wi σ H ds) (h0 : ∀ H2, Gr H H2 → I a0 σ H2) (mono : ∀ a σ' H1 H2, Gr H1 H2 → I a σ' H1 → I a σ' H2)
    (step : ∀ Hb l xs i d x a σ' H', Gr H Hb → Hb l = some (.lst xs) → H' l = some (.lst xs) → TupK Hb H' → ds[i]? = some d → a = (ds.take i).foldl f a0 → I a σ' H' → Py.rep d x H' → g x σ' H' fun σ2 H3 => tu { D with nx := fun σ3 H4 => H4 l = some (.lst xs) ∧ TupK Hb H4 ∧ I (f a d) σ3 H4, ct := fun σ3 H4 => H4 l = some (.lst xs) ∧ TupK Hb H4 ∧ I (f a d) σ3 H4, bk := D.nx } σ2 H3)
    (fin : ∀ σ' H', TupK H H' → I (ds.foldl f a0) σ' H' → D.nx σ' H') : tFor wi g tu D σ H := by
  refine hs H (Gr.refl H) _ fun J H2 l xs g2 hl w => ?_
  refine ⟨fun i m σ' H' => m = ds.length - i ∧ i ≤ ds.length ∧ H' l = some (.lst xs) ∧ TupK H2 H' ∧ I ((ds.take i).foldl f a0) σ' H', ⟨ds.length, by simp, Nat.zero_le _, hl, TupK.refl _, h0 H2 g2⟩, ?_⟩
  rintro i m σ' H3 ⟨rfl, hi, hl3, s3, p⟩
  by_cases hlt : i < ds.length
  · have hd : ds[i]? = some ds[i] := by simp [hlt]
    obtain ⟨hgo, hy⟩ := w.go H3 ⟨hl3, s3⟩ i _ hd
    refine .inr ⟨hgo, fun σ4 H4 => H4 l = some (.lst xs) ∧ TupK H2 H4 ∧ I (f ((ds.take i).foldl f a0) ds[i]) σ4 H4, fun σ4 H4 p4 => ⟨ds.length - (i + 1), by omega, rfl, hlt, p4.1, p4.2.1, by rw [foldl_take f a0 hd]; exact p4.2.2⟩, fun x H4 hyl => ?_⟩
    obtain ⟨g4, r4⟩ := hy x H4 hyl
    exact step H2 l xs i _ x _ σ' H4 g2 hl (g4.lst hl3) (s3.trans g4.tup) hd rfl (mono _ _ _ _ g4 p) r4
  · have e : i = ds.length := by omega
    subst e
    rw [List.take_length] at p
    exact .inl ⟨w.stop H3 ⟨hl3, s3⟩, fin σ' H3 (g2.tup.trans s3) p⟩
theorem q_foldL [PyI α] {wi : TI} {A : Type} {ds : List α} (f : A → α → A) (a0 : A) (I : A → L2.St → Hp → Prop) (hs : SrcL wi σ H ds) (h0 : ∀ H2, Gr H H2 → I a0 σ H2) (mono : ∀ a σ' H1 H2, Gr H1 H2 → I a σ' H1 → I a σ' H2)
    (step : ∀ Hb l xs i d x a σ' H', Gr H Hb → Hb l = some (.lst xs) → H' l = some (.lst xs) → TupK Hb H' → ds[i]? = some d → a = (ds.take i).foldl f a0 → I a σ' H' → Py.rep d x H' → g x σ' H' fun σ2 H3 => tu { D with nx := fun σ3 H4 => H4 l = some (.lst xs) ∧ TupK Hb H4 ∧ I (f a d) σ3 H4, ct := fun σ3 H4 => H4 l = some (.lst xs) ∧ TupK Hb H4 ∧ I (f a d) σ3 H4, bk := tz D } σ2 H3)
    (fin : ∀ σ' H', TupK H H' → I (ds.foldl f a0) σ' H' → tz D σ' H') : tSeq (tFor wi g tu) tz D σ H := s_foldL (D := { D with nx := tz D }) f a0 I hs h0 mono step fin
/-- for key in d -/
abbrev lkD' (p : Addr) (od : Obj) (kvs : List (List Key × V)) (D : Ends) : Ends := ⟨fun σ' H' => H' p = some (.frz od (.dT kvs)) ∧ D.nx σ' (upd H' p (.dT kvs)), fun v H' => H' p = some (.frz od (.dT kvs)) ∧ D.rt v (upd H' p (.dT kvs)), fun σ' H' => H' p = some (.frz od (.dT kvs)) ∧ D.bk σ' (upd H' p (.dT kvs)), fun σ' H' => H' p = some (.frz od (.dT kvs)) ∧ D.ct σ' (upd H' p (.dT kvs))⟩
theorem rep_key {k : List Int} {q : Addr} (h : H q = some (.tup ((keyT k).map kV))) : Py.rep k (.ref q) H := ⟨q, _, rfl, h, by rw [keyT_kV]; exact RL.map fun _ _ => rfl⟩
theorem s_foldD [PyI β] {A : Type} {p : Addr} {i : Nat} {kv : List (List Int × β)} (f : A → List Int → A) (a0 : A) (I : A → L2.St → Hp → Prop) (hp : Py.rep (DT.mk kv) (.ref p) H) (hi : σ[i]? = some (some (.ref p)))
    (h0 : ∀ od kvs, H p = some (.dT kvs) → I a0 σ (upd H p (.frz od (.dT kvs))))
    (step : ∀ od kvs j d x a σ' H', H p = some (.dT kvs) → H' p = some (.frz od (.dT kvs)) → TupK H H' → (keysD kv)[j]? = some d → a = ((keysD kv).take j).foldl f a0 → I a σ' H' → Py.rep d x H' →
      g x σ' H' fun σ2 H3 => tu { lkD' p od kvs D with nx := fun σ3 H4 => H4 p = some (.frz od (.dT kvs)) ∧ TupK H H4 ∧ I (f a d) σ3 H4, ct := fun σ3 H4 => H4 p = some (.frz od (.dT kvs)) ∧ TupK H H4 ∧ I (f a d) σ3 H4, bk := (lkD' p od kvs D).nx } σ2 H3)
    (fin : ∀ od kvs σ' H', H p = some (.dT kvs) → H' p = some (.frz od (.dT kvs)) → TupK H H' → I ((keysD kv).foldl f a0) σ' H' → D.nx σ' (upd H' p (.dT kvs))) : tLock (tFor (iKeys (tVar i)) g tu) D σ H := by
  obtain ⟨p', kvs, e, hH, r⟩ := hp
  cases e
  refine ⟨p, .dT kvs, hH, trivial, fun od => ?_⟩
  refine ⟨.ref p, hi, p, od, rfl, .inr ⟨kvs, upd_same, ?_⟩⟩
  have hlen : (keysD kv).length = kvs.length := by unfold keysD; rw [List.length_map]; exact r.1
  have tk0 : TupK H (upd H p (.frz od (.dT kvs))) := TupK.put hH (fun _ z => nomatch z)
  refine ⟨fun j m σ' H' => m = kvs.length - j ∧ j ≤ kvs.length ∧ H' p = some (.frz od (.dT kvs)) ∧ TupK H H' ∧ I (((keysD kv).take j).foldl f a0) σ' H', ⟨kvs.length, by simp, Nat.zero_le _, upd_same, tk0, h0 od kvs hH⟩, ?_⟩
  rintro j m σ' H3 ⟨rfl, hj, hp3, s3, q⟩
  by_cases hlt : j < kvs.length
  · have hd : (keysD kv)[j]? = some (keysD kv)[j] := by simp [hlen, hlt]
    refine .inr ⟨⟨hp3, hlt⟩, fun σ4 H4 => H4 p = some (.frz od (.dT kvs)) ∧ TupK H H4 ∧ I (f (((keysD kv).take j).foldl f a0) (keysD kv)[j]) σ4 H4, fun σ4 H4 p4 => ⟨kvs.length - (j + 1), by omega, rfl, hlt, p4.1, p4.2.1, by rw [foldl_take f a0 hd]; exact p4.2.2⟩, fun x H4 hyl => ?_⟩
    obtain ⟨e4, k, v, b, hk, ex, hb⟩ := hyl
    subst e4 ex
    have hk2 : k = keyT (keysD kv)[j] := by
      have hd2 : kv[j]? = some (kv[j]'(by rw [r.1]; exact hlt)) := by simp [r.1, hlt]
      refine (r.2 j _ _ hd2 hk).1.trans ?_
      simp [keysD]
    rw [hk2] at hb
    exact step od kvs j _ _ _ σ' H4 hH hp3 s3 hd rfl q (rep_key hb)
  · have e : j = kvs.length := by omega
    subst e
    rw [← hlen, List.take_length] at q
    exact .inl ⟨⟨hp3, Nat.le_refl _⟩, hp3, fin od kvs σ' H3 hH hp3 s3 q⟩
theorem q_foldD [PyI β] {A : Type} {p : Addr} {i : Nat} {kv : List (List Int × β)} (f : A → List Int → A) (a0 : A) (I : A → L2.St → Hp → Prop) (hp : Py.rep (DT.mk kv) (.ref p) H) (hi : σ[i]? = some (some (.ref p)))
    (h0 : ∀ od kvs, H p = some (.dT kvs) → I a0 σ (upd H p (.frz od (.dT kvs))))
    (step : ∀ od kvs j d x a σ' H', H p = some (.dT kvs) → H' p = some (.frz od (.dT kvs)) → TupK H H' → (keysD kv)[j]? = some d → a = ((keysD kv).take j).foldl f a0 → I a σ' H' → Py.rep d x H' →
      g x σ' H' fun σ2 H3 => tu { lkD' p od kvs { D with nx := tz D } with nx := fun σ3 H4 => H4 p = some (.frz od (.dT kvs)) ∧ TupK H H4 ∧ I (f a d) σ3 H4, ct := fun σ3 H4 => H4 p = some (.frz od (.dT kvs)) ∧ TupK H H4 ∧ I (f a d) σ3 H4, bk := (lkD' p od kvs { D with nx := tz D }).nx } σ2 H3)
    (fin : ∀ od kvs σ' H', H p = some (.dT kvs) → H' p = some (.frz od (.dT kvs)) → TupK H H' → I ((keysD kv).foldl f a0) σ' H' → tz D σ' (upd H' p (.dT kvs))) : tSeq (tLock (tFor (iKeys (tVar i)) g tu)) tz D σ H := s_foldD (D := { D with nx := tz D }) f a0 I hp hi h0 step fin
end
end Zw
/-! Z14: what the chase's steps compute (plain). -/
namespace Zw
open PySem L2 RZ PySem.Spec PyProof.Rows SrtO
theorem Mu.dT {β : Type} [PyI β] {l p : Addr} {H H2 : Hp} {d : List (List Int × β)} (m : Mu l H H2) (ne : p ≠ l) (r : Py.rep (DT.mk d) (.ref p) H) : Py.rep (DT.mk d) (.ref p) H2 := by
  obtain ⟨q, xs, e, hq, rr⟩ := r
  cases e
  exact ⟨p, xs, rfl, m.at hq (fun z => nomatch z) ne, rr.mono fun _ _ z => z.keep m.tup⟩
theorem mu_frz {H : Hp} {p : Addr} {od : Obj} {kvs : List (List Key × V)} {o : HO} (h : H p = some (.frz od (.dT kvs))) (no : NotH o := by intro _ _ _ _ _ z; cases z) : Mu p H (upd H p o) := ⟨H, o, _, Gr.refl _, h, (fun _ z => nomatch z), no, rfl⟩
theorem atI_nat {α : Type} {l : List α} {i : Int} (h : 0 ≤ i) (h2 : i < l.length) : ∃ d, L2.atI l i = some d ∧ l[i.toNat]? = some d := by
  have hi : i.toNat < l.length := by omega
  refine ⟨l[i.toNat], ?_, by simp [hi]⟩
  unfold L2.atI ixN
  rw [if_pos h, if_pos h2]
  show l[i.toNat]? = _
  simp [hi]
abbrev KVs := List (List Int × Bool)
def stepIn (s : List Int) (acc : KVs) (o : Int) : KVs := putD acc (sortO (s ++ [o])) true
def stepMid (row : List Int) (acc : KVs) (s : List Int) : KVs := row.foldl (stepIn s) acc
def stepOut (rows : List (List Int)) (kv : KVs) (w : Int) : KVs := (keysD kv).foldl (stepMid (rows.getD w.toNat [])) []
def stepsKV (rows : List (List Int)) (ws : List Int) : KVs := ws.foldl (stepOut rows) [([], true)]
def stepsM (rows : List (List Int)) (ws : List Int) : List (List Int) := sortO (keysD (stepsKV rows ws))
theorem stepIn_len (s : List Int) : ∀ (row : List Int) (acc : KVs), (row.foldl (stepIn s) acc).length ≤ acc.length + row.length
  | [], acc => Nat.le_refl _
  | o :: row, acc => by
    have h1 := stepIn_len s row (stepIn s acc o)
    have h2 : (stepIn s acc o).length ≤ acc.length + 1 := putD_length _ _ _
    simp only [List.foldl_cons, List.length_cons]
    omega
theorem stepMid_len (row : List Int) : ∀ (ks : List (List Int)) (acc : KVs), (ks.foldl (stepMid row) acc).length ≤ acc.length + ks.length * row.length
  | [], acc => by simp
  | s :: ks, acc => by
    have h1 := stepMid_len row ks (stepMid row acc s)
    have h2 : (stepMid row acc s).length ≤ acc.length + row.length := stepIn_len s row acc
    simp only [List.foldl_cons, List.length_cons]
    rw [Nat.add_mul]
    omega
theorem mem_putD {κ β : Type} [DecidableEq κ] {l : List (κ × β)} {k x : κ} {v : β} : x ∈ keysD (putD l k v) ↔ x = k ∨ x ∈ keysD l := by
  unfold putD
  split
  · rename_i h
    have e : keysD (l.map fun kv => if kv.1 = k then (kv.1, v) else kv) = keysD l := by
      unfold keysD
      rw [List.map_map]
      refine List.map_congr_left fun a _ => ?_
      show (if a.1 = k then (a.1, v) else a).1 = a.1
      split <;> rfl
    rw [e]
    constructor
    · exact .inr
    · rintro (rfl | h')
      · obtain ⟨kv, hm, hk⟩ := List.any_eq_true.mp h
        unfold keysD
        exact List.mem_map.mpr ⟨kv, hm, of_decide_eq_true hk⟩
      · exact h'
  · unfold keysD
    rw [List.map_append, List.mem_append]
    simp
    exact or_comm
theorem mem_stepIn (s : List Int) {x : List Int} : ∀ (row : List Int) (acc : KVs), x ∈ keysD (row.foldl (stepIn s) acc) ↔ x ∈ keysD acc ∨ ∃ o ∈ row, x = sortO (s ++ [o])
  | [], acc => by simp
  | o :: row, acc => by
    simp only [List.foldl_cons]
    rw [mem_stepIn s row (stepIn s acc o)]
    unfold stepIn
    rw [mem_putD]
    simp
    constructor
    · rintro ((h | h) | h)
      · exact .inr (.inl h)
      · exact .inl h
      · exact .inr (.inr h)
    · rintro (h | h | h)
      · exact .inl (.inr h)
      · exact .inl (.inl h)
      · exact .inr h
theorem mem_stepMid (row : List Int) {x : List Int} : ∀ (ks : List (List Int)) (acc : KVs), x ∈ keysD (ks.foldl (stepMid row) acc) ↔ x ∈ keysD acc ∨ ∃ s ∈ ks, ∃ o ∈ row, x = sortO (s ++ [o])
  | [], acc => by simp
  | s :: ks, acc => by
    simp only [List.foldl_cons]
    rw [mem_stepMid row ks (stepMid row acc s)]
    unfold stepMid
    rw [mem_stepIn]
    simp only [List.mem_cons]
    constructor
    · rintro ((h | h) | ⟨s', h, h'⟩)
      · exact .inl h
      · exact .inr ⟨s, .inl rfl, h⟩
      · exact .inr ⟨s', .inr h, h'⟩
    · rintro (h | ⟨s', (rfl | h), h'⟩)
      · exact .inl (.inl h)
      · exact .inl (.inr h')
      · exact .inr ⟨s', h, h'⟩
theorem stepsKV_snoc (rows : List (List Int)) (ws : List Int) (w : Int) : stepsKV rows (ws ++ [w]) = stepOut rows (stepsKV rows ws) w := by
  unfold stepsKV; rw [List.foldl_append]; rfl
theorem sortO_len {α : Type} [PyO α] (l : List α) : (sortO l).length = l.length := (sortO_perm l).length_eq
theorem stepOut_keyLen {rows : List (List Int)} {kv : KVs} {w : Int} {n : Nat} (h : ∀ k ∈ keysD kv, k.length = n) : ∀ k ∈ keysD (stepOut rows kv w), k.length = n + 1 := fun k hk => by
  unfold stepOut at hk
  rw [mem_stepMid] at hk
  rcases hk with hk | ⟨s, hs, o, _, rfl⟩
  · unfold keysD at hk; simp at hk
  · rw [sortO_len, List.length_append, h s hs]; rfl
theorem stepsKV_keyLen {rows : List (List Int)} {ws : List Int} : ∀ n ≤ ws.length, ∀ k ∈ keysD (stepsKV rows (ws.take n)), k.length = n
  | 0, _, k, hk => by
    unfold stepsKV keysD at hk
    simp at hk
    rw [hk]; rfl
  | n + 1, h, k, hk => by
    have hd : ws[n]? = some ws[n] := by simp
    rw [List.take_add_one, hd] at hk
    exact stepOut_keyLen (stepsKV_keyLen (ws := ws) n (by omega)) k (by rw [← stepsKV_snoc]; exact hk)
theorem stepsKV_len {rows : List (List Int)} (hr : ∀ r ∈ rows, r.length ≤ 37) {ws : List Int} : ∀ n ≤ ws.length, (stepsKV rows (ws.take n)).length ≤ 37 ^ n
  | 0, _ => by unfold stepsKV; simp
  | n + 1, h => by
    have hd : ws[n]? = some ws[n] := by simp
    rw [List.take_add_one, hd, show (some ws[n]).toList = [ws[n]] from rfl, stepsKV_snoc]
    have ih := stepsKV_len hr (ws := ws) n (by omega)
    unfold stepOut
    have h1 := stepMid_len (rows.getD ws[n].toNat []) (keysD (stepsKV rows (ws.take n))) []
    have h2 : (rows.getD ws[n].toNat []).length ≤ 37 := by
      rw [List.getD_eq_getElem?_getD]
      cases q : rows[ws[n].toNat]? with
      | none => show 0 ≤ 37; decide
      | some r => exact hr r (List.mem_of_getElem? q)
    have h3 : (keysD (stepsKV rows (ws.take n))).length = (stepsKV rows (ws.take n)).length := by unfold keysD; rw [List.length_map]
    rw [h3] at h1
    refine Nat.le_trans h1 ?_
    rw [Nat.pow_succ]
    have : (stepsKV rows (ws.take n)).length * (rows.getD ws[n].toNat []).length ≤ 37 ^ n * 37 := Nat.mul_le_mul ih h2
    simp at this ⊢
    exact this
end Zw
/-! Z15: arithmetic, the script, lists changed in place. -/
namespace Zw
open PySem L2 RZ PySem.Spec PyProof.Rows SrtO
section
variable {K : PySem.W.Frag} {σ : L2.St} {H H0 Hb H' : Hp} {ta tb tc te tj tl ty tv : TE} {tz tu : TS} {D : Ends} {g : TG} {α β γ : Type}
theorem ev_mul {i j : Int} (ha : Ev ta σ H i) (hb : Ev tb σ H j) (hc : CMul i j) : Ev (tOp (rI CMul fun i j => .int (i * j)) ta tb) σ H (i * j) := ev_op ha hb (ro_I hc fun _ => rfl)
theorem ev_fdiv {i j : Int} (ha : Ev ta σ H i) (hb : Ev tb σ H j) (hc : CDivN i j) : Ev (tOp (rI CDivN fun i j => .int (i.fdiv j)) ta tb) σ H (i.fdiv j) := ev_op ha hb (ro_I hc fun _ => rfl)
theorem ev_mod {i j : Int} (ha : Ev ta σ H i) (hb : Ev tb σ H j) (hc : j ≠ 0) : Ev (tOp (rI (fun _ j => j ≠ 0) fun i j => .int (i.fmod j)) ta tb) σ H (i.fmod j) := ev_op ha hb (ro_I hc fun _ => rfl)
theorem ev_pow {i j : Int} (ha : Ev ta σ H i) (hb : Ev tb σ H j) (hc : CPow i j) : Ev (tOp (rI CPow fun i j => .int (i ^ j.toNat)) ta tb) σ H (i ^ j.toNat) := ev_op ha hb (ro_I hc fun _ => rfl)
/-- .. of whatever size -/
theorem ed_mulL {Pa Pb : Int → Prop} (ha : Ed ta σ H Pa) (hb : Ed tb σ H Pb) (hc : ∀ i j, Pa i → Pb j → CMul i j) : Ed (tOp (rI CMul fun i j => .int (i * j)) ta tb) σ H (fun (_ : Int) => True) := ed_op ha hb fun a b pa pb x y H rx ry Q q => ⟨a, b, rx, ry, hc a b pa pb, q _ _ H trivial (Gr.refl H) rfl⟩
theorem ed_add {Pa Pb P : Int → Prop} (ha : Ed ta σ H Pa) (hb : Ed tb σ H Pb) (hc : ∀ i j, Pa i → Pb j → P (i + j)) : Ed (tOp (rI0 fun i j => .int (i + j)) ta tb) σ H P := ed_op ha hb fun a b pa pb x y H rx ry Q q => ⟨a, b, rx, ry, q _ _ H (hc a b pa pb) (Gr.refl H) rfl⟩
theorem ed_sub {Pa Pb P : Int → Prop} (ha : Ed ta σ H Pa) (hb : Ed tb σ H Pb) (hc : ∀ i j, Pa i → Pb j → P (i - j)) : Ed (tOp (rI0 fun i j => .int (i - j)) ta tb) σ H P := ed_op ha hb fun a b pa pb x y H rx ry Q q => ⟨a, b, rx, ry, q _ _ H (hc a b pa pb) (Gr.refl H) rfl⟩
theorem ed_lt {Pa Pb : Int → Prop} {P : Bool → Prop} (ha : Ed ta σ H Pa) (hb : Ed tb σ H Pb) (hc : ∀ i j, Pa i → Pb j → P (decide (i < j))) : Ed (tOp (rI0 fun i j => .bl (decide (i < j))) ta tb) σ H P := ed_op ha hb fun a b pa pb x y H rx ry Q q => ⟨a, b, rx, ry, q _ _ H (hc a b pa pb) (Gr.refl H) rfl⟩
theorem ed_le {Pa Pb : Int → Prop} {P : Bool → Prop} (ha : Ed ta σ H Pa) (hb : Ed tb σ H Pb) (hc : ∀ i j, Pa i → Pb j → P (decide (i ≤ j))) : Ed (tOp (rI0 fun i j => .bl (decide (i ≤ j))) ta tb) σ H P := ed_op ha hb fun a b pa pb x y H rx ry Q q => ⟨a, b, rx, ry, q _ _ H (hc a b pa pb) (Gr.refl H) rfl⟩
theorem ed_gt {Pa Pb : Int → Prop} {P : Bool → Prop} (ha : Ed ta σ H Pa) (hb : Ed tb σ H Pb) (hc : ∀ i j, Pa i → Pb j → P (decide (j < i))) : Ed (tOp (rI0 fun i j => .bl (decide (j < i))) ta tb) σ H P := ed_op ha hb fun a b pa pb x y H rx ry Q q => ⟨a, b, rx, ry, q _ _ H (hc a b pa pb) (Gr.refl H) rfl⟩
theorem ed_ge {Pa Pb : Int → Prop} {P : Bool → Prop} (ha : Ed ta σ H Pa) (hb : Ed tb σ H Pb) (hc : ∀ i j, Pa i → Pb j → P (decide (j ≤ i))) : Ed (tOp (rI0 fun i j => .bl (decide (j ≤ i))) ta tb) σ H P := ed_op ha hb fun a b pa pb x y H rx ry Q q => ⟨a, b, rx, ry, q _ _ H (hc a b pa pb) (Gr.refl H) rfl⟩
theorem ed_mod {Pa Pb P : Int → Prop} (ha : Ed ta σ H Pa) (hb : Ed tb σ H Pb) (hc : ∀ i j, Pa i → Pb j → j ≠ 0 ∧ P (i.fmod j)) : Ed (tOp (rI (fun _ j => j ≠ 0) fun i j => .int (i.fmod j)) ta tb) σ H P := ed_op ha hb fun a b pa pb x y H rx ry Q q => ⟨a, b, rx, ry, (hc a b pa pb).1, q _ _ H (hc a b pa pb).2 (Gr.refl H) rfl⟩
theorem ed_fdiv {Pa Pb P : Int → Prop} (ha : Ed ta σ H Pa) (hb : Ed tb σ H Pb) (hc : ∀ i j, Pa i → Pb j → CDivN i j ∧ P (i.fdiv j)) : Ed (tOp (rI CDivN fun i j => .int (i.fdiv j)) ta tb) σ H P := ed_op ha hb fun a b pa pb x y H rx ry Q q => ⟨a, b, rx, ry, (hc a b pa pb).1, q _ _ H (hc a b pa pb).2 (Gr.refl H) rfl⟩
theorem ed_int1 {P : Int → Prop} (h : Ed te σ H P) : Ed (tCB (fun xs H Q => (∃ i, xs = [V.int i] ∧ Q (.int i) H) ∨ ∃ k, xs = [V.bl k] ∧ Q (.int (if k then 1 else 0)) H) (tCons te tNil)) σ H P := fun H1 g Q q => h H1 g _ fun d v H2 p g2 r => by
  have e : v = .int d := r
  subst e
  exact .inl ⟨d, rfl, q d _ H2 p g2 rfl⟩
theorem ev_abs {i : Int} (h : Ev te σ H i) : Ev (tCB (fun xs H Q => ∃ i, xs = [V.int i] ∧ Q (.int (if i < 0 then -i else i)) H) (tCons te tNil)) σ H (if i < 0 then -i else i) := fun H1 g Q q => h H1 g _ fun d v H2 p g2 r => by
  have e : v = .int d := r
  subst e p
  exact ⟨d, rfl, q _ _ H2 rfl g2 rfl⟩
theorem fmod_rng {i j : Int} (h : 0 < j) : 0 ≤ i.fmod j ∧ i.fmod j < j := ⟨Int.fmod_nonneg_of_pos i h, Int.fmod_lt_of_pos i h⟩
/-- the script, as the law is given it -/
structure Scr (K : PySem.W.Frag) where
  l : List Int
instance : Py (Scr K) := ⟨fun d v H => ∃ a, v = .ref a ∧ SqL K H a (d.l.map V.int) ∧ d.l.length ≤ 63, fun g ⟨a, e, h, l⟩ => ⟨a, e, g.sqL h, l⟩⟩
theorem ev_slScr {d : Scr K} {lo hi : Option Int} {to th : TO} (h : Ev te σ H d) (h1 : EvO to σ H lo) (h2 : EvO th σ H hi) : Ev (tSl (rSlL K) te to th) σ H (Ls.mk (cutL d.l lo hi)) := fun H1 e Q q =>
  h H1 e _ fun d v H2 p e2 ⟨a, ev, ha, r⟩ => h1 H2 (e.trans e2) _ fun H3 e3 => h2 H3 ((e.trans e2).trans e3) _ fun H4 e4 => by
    subst p
    have e24 := e3.trans e4
    exact ⟨a, _, ev, e24.sqL ha, fun p hp => q _ _ _ rfl ((e2.trans e24).trans (Gr.new hp)) ⟨p, _, rfl, upd_same, (RL.map (R := fun (a : Int) x => PyI.rep a x _) (f := V.int) fun _ _ => rfl).cut lo hi⟩⟩
theorem cutL_length {α : Type} (l : List α) (lo hi : Option Int) : (cutL l lo hi).length ≤ l.length := by
  unfold cutL
  rw [List.length_take, List.length_drop]; omega

/-! ### a list at t, changed in place -/
theorem upd_back {a : Addr} {o : HO} (h : H a = some o) : upd H a o = H := by
  funext b
  by_cases e : b = a
  · subst e; rw [upd_same, h]
  · rw [upd_ne e]
def Ms (t : Addr) (H H' : Hp) : Prop := ∀ o, NotH o → (∀ xs, o ≠ .tup xs) → Gr (upd H t o) (upd H' t o)
theorem Ms.refl (t : Addr) (H : Hp) : Ms t H H := fun o _ _ => Gr.refl _
theorem Ms.trans {t : Addr} {H H1 H2 : Hp} (a : Ms t H H1) (b : Ms t H1 H2) : Ms t H H2 := fun o n n2 => (a o n n2).trans (b o n n2)
theorem Ms.put {t : Addr} {o' : HO} : Ms t H (upd H t o') := fun o n n2 => by rw [upd_upd]; exact Gr.refl _
theorem Ms.gr {t : Addr} {xs : List V} (g : Gr H H') (ht : H t = some (.lst xs)) : Ms t H H' := fun o n n2 => by
  have ht' := g.lst ht
  refine ⟨fun a w ha => ?_, fun nn => (g.neat ⟨fun p C dx r t' l hp => ?_, fun p p' C C' dx dx' r r' t1 t2 l hp hp' => ?_⟩).put n, fun p C dx r t' l hp hl => ?_⟩
  · by_cases e : a = t
    · subst e; rw [upd_same] at ha ⊢; exact .inl ha
    · rw [upd_ne e] at ha ⊢
      rcases g.old a w ha with z | ⟨c, ⟨p0, C0, dx0, r0, t0, e0⟩, v, ns, z, r, ow⟩
      · exact .inl z
      · refine .inr ⟨c, ⟨p0, C0, dx0, r0, t0, by rw [upd_ne (fun q => by rw [q, ht] at e0; cases e0)]; exact e0⟩, v, ns, z, PyI.keep (TupK.put ht' (fun _ z => nomatch z)) r, fun p C dx r' t' ds hp hd => ?_⟩
        have pt : p ≠ t := fun e => by subst e; rw [upd_same] at hp; cases hp; exact n _ _ _ _ _ rfl
        rw [upd_ne pt] at hp
        refine ow p C dx r' t' ds hp (PyI.keep (fun b ys hb => ?_) hd)
        by_cases e : b = t
        · subst e; rw [upd_same] at hb; cases hb; exact absurd rfl (n2 ys)
        · rw [upd_ne e] at hb; exact hb
  · have pt : p ≠ t := fun e => by subst e; rw [ht] at hp; cases hp
    have h1 := nn.1 p C dx r t' l (by rw [upd_ne pt]; exact hp)
    by_cases e : l = t
    · subst e; rw [ht]; exact fun z => nomatch z
    · rw [upd_ne e] at h1; exact h1
  · have pt : p ≠ t := fun e => by subst e; rw [ht] at hp; cases hp
    have pt' : p' ≠ t := fun e => by subst e; rw [ht] at hp'; cases hp'
    exact nn.2 p p' C C' dx dx' r r' t1 t2 l (by rw [upd_ne pt]; exact hp) (by rw [upd_ne pt']; exact hp')
  · have pt : p ≠ t := fun e => by subst e; rw [upd_same] at hp; cases hp; exact n _ _ _ _ _ rfl
    rw [upd_ne pt] at hp ⊢
    refine g.newH p C dx r t' l hp ?_
    by_cases e : l = t
    · subst e; rw [ht]; exact fun z => nomatch z
    · rw [upd_ne e] at hl; exact hl
/-- an item of it -/
theorem ev_raw [Py α] {t : Addr} {xs : List V} {i : Nat} {j : Int} {d : α} {v : V} (ht : H t = some (.lst xs)) (hi : σ[i]? = some (some (.ref t))) (hj : L2.atI xs j = some v) (r : Py.rep d v H) : Ev (tOp (rIxL K) (tVar i) (tC (.int j))) σ H d := fun H1 g Q q =>
  ⟨_, hi, t, xs, j, v, rfl, rfl, .of (g.lst ht), hj, q d v H1 rfl (Gr.refl H1) (Py.mono g r)⟩
/-- t[j] = e -/
theorem s_rawSet [Py α] {t : Addr} {xs : List V} {i k : Nat} {j : Int} {P : α → Prop} (ht : H t = some (.lst xs)) (hi : σ[i]? = some (some (.ref t))) (h : Ed te σ H P) (hj : ixN xs.length j = some k)
    (kk : ∀ d v H1, P d → Gr H H1 → Py.rep d v H1 → H1 t = some (.lst xs) → D.nx σ (upd H1 t (.lst (xs.set k v)))) : tAsg te (gSub (tVar i) (tC (.int j)) rSetL) D σ H := h H (Gr.refl H) _ fun d v H1 p g r =>
  ⟨_, hi, t, xs, j, k, rfl, rfl, g.lst ht, hj, kk d v H1 p g r (g.lst ht)⟩
theorem q_rawSet [Py α] {t : Addr} {xs : List V} {i k : Nat} {j : Int} {P : α → Prop} (ht : H t = some (.lst xs)) (hi : σ[i]? = some (some (.ref t))) (h : Ed te σ H P) (hj : ixN xs.length j = some k)
    (kk : ∀ d v H1, P d → Gr H H1 → Py.rep d v H1 → H1 t = some (.lst xs) → tz D σ (upd H1 t (.lst (xs.set k v)))) : tSeq (tAsg te (gSub (tVar i) (tC (.int j)) rSetL)) tz D σ H := s_rawSet (D := { D with nx := tz D }) ht hi h hj kk
/-- statements in a row, by what stands between them -/
theorem q_join (J : L2.St → Hp → Prop) (h1 : ∀ tz' : L2.St → Hp → Prop, (∀ σ' H', J σ' H' → tz' σ' H') → tu { D with nx := tz' } σ H) (h3 : ∀ σ' H', J σ' H' → tz D σ' H') : tSeq tu tz D σ H := h1 _ h3
theorem ea_n : EvA tNil σ H (fun vs _ => vs = []) := fun H1 _ _ q => q [] H1 (Gr.refl H1) rfl
theorem ea_c [Py α] {P : α → Prop} {R : List V → Hp → Prop} {tr : TA} (h : Ed te σ H P) (hr : EvA tr σ H R) : EvA (tCons te tr) σ H (fun vs H' => ∃ d v ws, vs = v :: ws ∧ P d ∧ Py.rep d v H' ∧ R ws H') := fun H1 e Q q =>
  h H1 e _ fun d v H2 p e2 r => hr H2 (e.trans e2) _ fun ws H3 e3 rr => q _ H3 (e2.trans e3) ⟨d, v, ws, rfl, p, Py.mono e3 r, rr⟩
theorem s_retLst {ta : TA} {R : List V → Hp → Prop} (h : EvA ta σ H R) (k : ∀ vs H1, R vs H1 → Gr H H1 → vs.length ≤ sizeLine ∧ ∀ p, H1 p = none → D.rt (.ref p) (upd H1 p (.lst vs))) : tRet (tLst ta) D σ H := h H (Gr.refl H) _ fun vs H1 g r => k vs H1 r g
end
end Zw
/-! Z16: data of any shape. -/
namespace Zw
open PySem L2 RZ PySem.Spec PyProof.Rows SrtO PySem.SeqAt Ob
mutual
theorem Dp.gr {K : PySem.W.Frag} {H H' : Hp} (g : Gr H H') : ∀ (d : PyData) (v : V), Dp K H v d → Dp K H' v d
  | .none, _, h => by cases h; exact .non
  | .bool b, _, h => by cases h; exact .bl b
  | .int i, _, h => by cases h; exact .int i
  | .str x, _, h => by cases h; exact .str x
  | .list ds, _, h => by
    cases h with
    | lst e r => exact .lst (g.sqL e) (DpAll.gr g ds _ r)
  | .tuple ds, _, h => by
    cases h with
    | tup e r => exact .tup (g.sqT e) (DpAll.gr g ds _ r)
  | .dict _, _, h => nomatch h
theorem DpAll.gr {K : PySem.W.Frag} {H H' : Hp} (g : Gr H H') : ∀ (ds : List PyData) (vs : List V), DpAll K H vs ds → DpAll K H' vs ds
  | [], _, h => by cases h; exact .nil
  | d :: ds, _, h => by
    cases h with
    | cons a b => exact .cons (Dp.gr g d _ a) (DpAll.gr g ds _ b)
end
theorem dpRL {K : PySem.W.Frag} {H : Hp} : ∀ {ds : List PyData} {vs : List V}, DpAll K H vs ds → RL (fun d x => Dp K H x d) ds vs
  | [], _, h => by cases h; exact RL.nil
  | d :: ds, _, h => by
    cases h with
    | cons a b => exact (dpRL b).cons a
/-- a value that shows the data d -/
structure Dq (K : PySem.W.Frag) where
  d : PyData
instance instDq {K : PySem.W.Frag} : Py (Dq K) := ⟨fun x v H => Dp K H v x.d, fun g h => Dp.gr g _ _ h⟩
/-- a pair of two such -/
structure Dq2 (K : PySem.W.Frag) where
  d : PyData
def Dq2.at {K : PySem.W.Frag} (x : Dq2 K) (v : V) (H : Hp) : Prop := ∃ p y z, v = .ref p ∧ H p = some (.tup [y, z]) ∧ Dp K H y x.d ∧ Dp K H z x.d
instance instDq2 {K : PySem.W.Frag} : Py (Dq2 K) := ⟨fun x v H => x.at v H, fun g ⟨p, y, z, e, h, a, b⟩ => ⟨p, y, z, e, g.tup _ _ h, Dp.gr g _ _ a, Dp.gr g _ _ b⟩⟩
def tyN : PyData → String
  | .none => "NoneType"
  | .bool _ => "bool"
  | .int _ => "int"
  | .str _ => "str"
  | .list _ => "list"
  | .tuple _ => "tuple"
  | .dict _ => "dict"
theorem tyX_lst {K : PySem.W.Frag} {H : Hp} {a : Addr} {xs : List V} (h : SqL K H a xs) : TyX K H (.ref a) (.type "list") := by
  rcases h with (h | ⟨o, h⟩) | ⟨o, its, n, h, c, _⟩
  · exact .base (.lst h)
  · exact .base (.frz h)
  · exact .kList h c
theorem tyX_tup {K : PySem.W.Frag} {H : Hp} {a : Addr} {xs : List V} (h : SqT K H a xs) : TyX K H (.ref a) (.type "tuple") := by
  rcases h with (h | ⟨o, h⟩) | ⟨o, its, n, h, c, _⟩
  · exact .base (.tup h)
  · exact .fTuple h
  · exact .kTuple h c
theorem tyX_dp {K : PySem.W.Frag} {H : Hp} {v : V} {d : PyData} (h : Dp K H v d) : TyX K H v (.type (tyN d)) := by
  cases h with
  | non => exact .base .non
  | bl b => exact .base (.bl b)
  | int i => exact .base (.int i)
  | str x => exact .base (.str x)
  | lst e r => exact tyX_lst e
  | tup e r => exact tyX_tup e
section
variable {K : PySem.W.Frag} {σ : L2.St} {H H0 Hb H' : Hp} {ta tb tc te tj tl ty tv : TE} {tt : TT} {tz tu : TS} {D : Ends} {g : TG} {α β γ : Type}
theorem ev_isiQ {x : Dq K} {T : String} {b : Bool} (ha : Ev ta σ H x) (hk : kitB (tyN x.d) T = some b) : Ev (tCB (rIsi K) (tCons ta (tCons (tC (.ty T)) tNil))) σ H b := fun H1 g Q q => ha H1 g _ fun d' v H2 e g2 r => by
  subst e
  exact ⟨v, .ty T, .type (tyN d'.d), .type T, b, rfl, .ty T, tyX_dp r, kit_ty hk, q _ _ H2 rfl g2 rfl⟩
theorem ev_lenQ {x : Dq K} {ds : List PyData} (h : Ev te σ H x) (hx : x.d = .list ds ∨ x.d = .tuple ds) : Ev (tCB (rLenA K) (tCons te tNil)) σ H (ds.length : Int) := ev_cb1 h fun v H r Q q => by
  obtain ⟨d⟩ := x
  rcases hx with e | e <;> (simp only at e; subst e)
  · cases r with
    | lst e r => exact ⟨_, ds.length, rfl, .inl ⟨_, e, (dpRL r).1⟩, q _ _ H rfl (Gr.refl H) rfl⟩
  · cases r with
    | tup e r => exact ⟨_, ds.length, rfl, .inr ⟨_, e, (dpRL r).1⟩, q _ _ H rfl (Gr.refl H) rfl⟩
theorem ev_eqQ {x : Dq K} (ha : Ev ta σ H x) (hb : Ev tb σ H x) (hs : SeqAt.shaped x.d = true) (he : PyData.eqv x.d x.d = true) : Ev (tOp (rEqD K) ta tb) σ H true := ev_op ha hb fun a b H rx ry Q q =>
  ⟨x.d, x.d, rx, ry, hs, hs, by rw [he]; exact q _ _ H rfl (Gr.refl H) rfl⟩
/-- zip of two that show the same -/
theorem src_zipQ {x : Dq K} {ds : List PyData} (h : Ev ta σ H x) (h' : Ev tb σ H x) (hx : x.d = .list ds ∨ x.d = .tuple ds) : Src (iZipA K (tCons ta (tCons tb tNil))) σ H (ds.map (Dq2.mk (K := K))) := fun H1 g R r => ea_2 h h' H1 g _ fun vs H2 g2 ⟨v, w, d, d', ev, pd, pd', r1, r2⟩ => by
  subst ev pd pd'
  obtain ⟨d⟩ := d'
  have fin : ∀ {xs ys : List V} {i : Nat} {z : Dq2 K} {H3 : Hp}, RL (fun d x => Dp K H2 x d) ds xs → RL (fun d x => Dp K H2 x d) ds ys → Gr H2 H3 → (ds.map (Dq2.mk (K := K)))[i]? = some z → ∃ d x y, z = ⟨d⟩ ∧ xs[i]? = some x ∧ ys[i]? = some y ∧ Dp K H3 x d ∧ Dp K H3 y d := fun a1 a2 k hz => by
    rw [List.getElem?_map] at hz
    rename_i xs ys i z H3
    cases e : ds[i]? with
    | none => rw [e] at hz; cases hz
    | some d =>
      rw [e] at hz
      cases hz
      obtain ⟨x, hx, rx⟩ := a1.get e
      obtain ⟨y, hy, ry⟩ := a2.get e
      exact ⟨d, x, y, rfl, hx, hy, Dp.gr k _ _ rx, Dp.gr k _ _ ry⟩
  rcases hx with e | e <;> (simp only at e; subst e)
  · cases r1 with
    | @lst a xs _ ha a1 =>
      cases r2 with
      | @lst b ys _ hb a2 =>
        refine ⟨a, b, xs, ys, rfl, .inl ⟨ha, hb, r _ H2 g2 ⟨fun H3 k => ⟨xs, ys, k.sqL ha, k.sqL hb, .inl (by rw [List.length_map, (dpRL a1).1]; exact Nat.le_refl _)⟩, fun H3 k i z hz => ?_⟩⟩⟩
        obtain ⟨d, x, y, rfl, hx, hy, rx, ry⟩ := fin (dpRL a1) (dpRL a2) k hz
        refine ⟨⟨xs, ys, x, y, k.sqL ha, k.sqL hb, hx, hy⟩, fun v' H4 hv => ?_⟩
        obtain ⟨T, x', y', ev', hT, e4, hx', hy'⟩ := hv
        have q1 := hx' xs (k.sqL ha)
        have q2 := hy' ys (k.sqL hb)
        rw [hx] at q1
        rw [hy] at q2
        cases q1
        cases q2
        subst e4
        exact ⟨Gr.new hT, T, x, y, ev', upd_same, Dp.gr (Gr.new hT) _ _ rx, Dp.gr (Gr.new hT) _ _ ry⟩
  · cases r1 with
    | @tup a xs _ ha a1 =>
      cases r2 with
      | @tup b ys _ hb a2 =>
        refine ⟨a, b, xs, ys, rfl, .inr ⟨ha, hb, r _ H2 g2 ⟨fun H3 k => ⟨xs, ys, k.sqT ha, k.sqT hb, .inl (by rw [List.length_map, (dpRL a1).1]; exact Nat.le_refl _)⟩, fun H3 k i z hz => ?_⟩⟩⟩
        obtain ⟨d, x, y, rfl, hx, hy, rx, ry⟩ := fin (dpRL a1) (dpRL a2) k hz
        refine ⟨⟨xs, ys, x, y, k.sqT ha, k.sqT hb, hx, hy⟩, fun v' H4 hv => ?_⟩
        obtain ⟨T, x', y', ev', hT, e4, hx', hy'⟩ := hv
        have q1 := hx' xs (k.sqT ha)
        have q2 := hy' ys (k.sqT hb)
        rw [hx] at q1
        rw [hy] at q2
        cases q1
        cases q2
        subst e4
        exact ⟨Gr.new hT, T, x, y, ev', upd_same, Dp.gr (Gr.new hT) _ _ rx, Dp.gr (Gr.new hT) _ _ ry⟩
/-- [.. for a, b in zip(x, y)] -/
theorem el_mapQ [PyI γ] {wi : TI} {i j : Nat} {vs : List Nat} {ds : List PyData} {v : PyData → γ} (hs : Src wi σ H (ds.map (Dq2.mk (K := K)))) (hz : ds.length ≤ 100000) (hw : ∀ x y, wipe (((wipe σ vs).set i (some x)).set j (some y)) vs = wipe σ vs)
    (he : ∀ d x y H', d ∈ ds → Gr H H' → Dp K H' x d → Dp K H' y d → Ev te (((wipe σ vs).set i (some x)).set j (some y)) H' (v d)) : Ev (tLc wi (gTup K 2 (gCons (gName i) (gCons (gName j) gNil))) tYes te vs) σ H (Ls.mk (ds.map v)) := by
  have h := el_lc (α := Dq2 K) (te := te) (tt := tYes) (fun d σ2 H => ∃ x y, σ2 = ((wipe σ vs).set i (some x)).set j (some y) ∧ Dp K H x d.d ∧ Dp K H y d.d) (fun _ => true) (fun d => v d.d) hs (by rw [List.length_map]; exact hz)
    (g := gTup K 2 (gCons (gName i) (gCons (gName j) gNil))) (fun d x H' ⟨p, y, z, e, hp, r1, r2⟩ Q q => ⟨p, _, e, .of hp, rfl, y, _, rfl, z, _, rfl, rfl, q _ (hw y z) ⟨y, z, rfl, r1, r2⟩⟩) (fun _ _ _ _ _ _ => et_yes) (fun d σ2 H' m g ⟨x, y, e, r, r'⟩ _ => by
      subst e
      obtain ⟨d0, hd0, rfl⟩ := List.mem_map.mp m
      exact he d0 x y H' hd0 g r r')
  rw [filter_yes, List.map_map] at h
  exact h
end
theorem u65 {k : Nat} {A : Around} (r : Room k A) : A.units + 65 < cLine := by have := r.un; omega
theorem eqvAll_self : ∀ l : List PyData, (∀ d ∈ l, PyData.eqv d d = true) → PyData.eqvAll l l = true
  | [], _ => by simp [PyData.eqvAll]
  | d :: l, h => by rw [PyData.eqvAll, h d List.mem_cons_self, eqvAll_self l fun x m => h x (List.mem_cons_of_mem _ m)]; rfl
/-- data without dicts, of depth n at most -/
def Pln : Nat → PyData → Prop
  | _, .none => True
  | _, .bool _ => True
  | _, .int _ => True
  | _, .str s => PyData.strOk s = true
  | n + 1, .list l => l.length ≤ 100000 ∧ ∀ d ∈ l, Pln n d
  | n + 1, .tuple l => l.length ≤ 100000 ∧ ∀ d ∈ l, Pln n d
  | _, _ => False
mutual
theorem Pln.eqv : ∀ (n : Nat) (d : PyData), Pln n d → PyData.eqv d d = true
  | _, .none, _ => by simp [PyData.eqv]
  | _, .bool b, _ => by simp [PyData.eqv]
  | _, .int i, _ => by simp [PyData.eqv]
  | _, .str x, _ => by simp [PyData.eqv]
  | 0, .list l, h => by simp [Pln] at h
  | 0, .tuple l, h => by simp [Pln] at h
  | _, .dict l, h => by simp [Pln] at h
  | n + 1, .list l, h => by rw [PyData.eqv]; exact Pln.eqvAll n l (by simp [Pln] at h; exact h.2)
  | n + 1, .tuple l, h => by rw [PyData.eqv]; exact Pln.eqvAll n l (by simp [Pln] at h; exact h.2)
theorem Pln.eqvAll : ∀ (n : Nat) (l : List PyData), (∀ d ∈ l, Pln n d) → PyData.eqvAll l l = true
  | n, [], _ => by simp [PyData.eqvAll]
  | n, d :: l, h => by rw [PyData.eqvAll, Pln.eqv n d (h d List.mem_cons_self), Pln.eqvAll n l fun x m => h x (List.mem_cons_of_mem _ m)]; rfl
end
end Zw
/-! Z17: comprehensions whose answers are drawn; new lists in pairs; instances. -/
namespace Zw
open PySem L2 RZ PySem.Spec PyProof.Rows SrtO
/-- what [e for d in ds if t] may be -/
inductive Pk {α β : Type} (T : α → Bool → Prop) (E : α → β → Prop) : List α → List β → Prop where
  | nil : Pk T E [] []
  | yes {ds : List α} {l : List β} {d : α} {x : β} : Pk T E ds l → T d true → E d x → Pk T E (ds ++ [d]) (l ++ [x])
  | no {ds : List α} {l : List β} {d : α} : Pk T E ds l → T d false → Pk T E (ds ++ [d]) l
theorem Pk.le {α β : Type} {T : α → Bool → Prop} {E : α → β → Prop} {ds : List α} {l : List β} (h : Pk T E ds l) : l.length ≤ ds.length := by
  induction h with
  | nil => exact Nat.le_refl _
  | yes _ _ _ ih => simp; exact ih
  | no _ _ ih => simp; omega
theorem Pk.all {α β : Type} {T : α → Bool → Prop} {E : α → β → Prop} {ds : List α} {l : List β} (h : Pk T E ds l) : ∀ x ∈ l, ∃ d ∈ ds, E d x := by
  induction h with
  | nil => intro x m; simp at m
  | yes _ _ e ih =>
    intro x m
    rcases List.mem_append.mp m with m | m
    · obtain ⟨d, hd, he⟩ := ih x m
      exact ⟨d, List.mem_append_left _ hd, he⟩
    · simp at m
      subst m
      exact ⟨_, List.mem_append_right _ List.mem_cons_self, e⟩
  | no _ _ ih =>
    intro x m
    obtain ⟨d, hd, he⟩ := ih x m
    exact ⟨d, List.mem_append_left _ hd, he⟩
theorem Pk.len {α β : Type} {T : α → Bool → Prop} {E : α → β → Prop} {ds : List α} {l : List β} (h : Pk T E ds l) (ht : ∀ d, ¬ T d false) : l.length = ds.length := by
  induction h with
  | nil => rfl
  | yes _ _ _ ih => simp; exact ih
  | no _ t _ => exact absurd t (ht _)
theorem Pk.sub {α β : Type} {T : α → Bool → Prop} {v : α → β} {ds : List α} {l : List β} (h : Pk T (fun d x => x = v d) ds l) : l.Sublist (ds.map v) := by
  induction h with
  | nil => exact List.Sublist.refl _
  | yes _ _ e ih => rw [List.map_append, e]; exact List.Sublist.append ih (List.Sublist.refl _)
  | no _ _ ih => rw [List.map_append]; exact ih.trans (List.sublist_append_left _ _)
section
variable {K : PySem.W.Frag} {σ : L2.St} {H H0 Hb H' : Hp} {ta tb tc te tj tl ty tv : TE} {tt : TT} {tz tu : TS} {D : Ends} {g : TG} {α β γ : Type}
theorem el_gen [Py α] [PyI β] {wi : TI} {g : TG} {vs : List Nat} {ds : List α} (S : α → L2.St → Hp → Prop) (T : α → Bool → Prop) (E : α → β → Prop) (hs : Src wi σ H ds) (hz : ds.length ≤ 100000)
    (hg : ∀ d x H', Py.rep d x H' → ∀ Q : L2.St → Hp → Prop, (∀ σ2, wipe σ2 vs = wipe σ vs → S d σ2 H' → Q σ2 H') → g x (wipe σ vs) H' Q)
    (ht : ∀ d σ2 H', d ∈ ds → Gr H H' → S d σ2 H' → EdT tt σ2 H' (T d)) (he : ∀ d σ2 H', d ∈ ds → Gr H H' → S d σ2 H' → T d true → Ed te σ2 H' (E d)) :
    Ed (tLc wi g tt te vs) σ H (fun (l : Ls β) => Pk T E ds l.l) := by
  intro H1 g1 Q q
  refine hs H1 g1 _ fun J H2 g2 w D hD => ?_
  have gD : Gr H2 (upd H2 D (.lst [])) := Gr.new hD
  refine ⟨fun i m H' => m = ds.length - i ∧ i ≤ ds.length ∧ Gr H2 H' ∧ ∃ l xs, Pk T E (ds.take i) l ∧ H' D = some (.lst xs) ∧ RL (fun a x => PyI.rep a x H') l xs, ⟨ds.length, by simp, Nat.zero_le _, gD, [], [], .nil, upd_same, RL.nil⟩, ?_⟩
  rintro i m H3 ⟨rfl, hi, g3, l, xs, pk, hx, rx⟩
  by_cases hlt : i < ds.length
  · have hd : ds[i]? = some ds[i] := by simp [hlt]
    obtain ⟨hgo, hy⟩ := w.go H3 g3 i _ hd
    have hmem : ds[i] ∈ ds := List.getElem_mem hlt
    have htk : ds.take (i + 1) = ds.take i ++ [ds[i]] := by rw [List.take_add_one, hd]; rfl
    have hle : l.length ≤ 100000 := Nat.le_trans pk.le (by rw [List.length_take]; omega)
    refine .inr ⟨hgo, fun H' => i + 1 ≤ ds.length ∧ Gr H2 H' ∧ ∃ l xs, Pk T E (ds.take (i + 1)) l ∧ H' D = some (.lst xs) ∧ RL (fun a x => PyI.rep a x H') l xs, fun H' h => ⟨ds.length - (i + 1), by omega, rfl, h.1, h.2⟩, fun x H4 hyl => ?_⟩
    obtain ⟨g4, r4⟩ := hy x H4 hyl
    refine hg _ x H4 r4 _ fun σ2 hw hS => ⟨hw, ?_⟩
    have gH4 : Gr H H4 := ((g1.trans g2).trans g3).trans g4
    refine ht _ σ2 H4 hmem gH4 hS H4 (Gr.refl _) _ fun b H5 eb g5 => ?_
    cases b with
    | true =>
      refine he _ σ2 H4 hmem gH4 hS eb H5 g5 _ fun z y H6 ez g6 r6 => ?_
      have g36 : Gr H3 H6 := (g4.trans g5).trans g6
      have hp : TupK H6 (upd H6 D (.lst (xs ++ [y]))) := TupK.put (g36.lst hx) (fun _ z => nomatch z)
      refine ⟨xs, g36.lst hx, by rw [← rx.1]; exact Nat.lt_of_le_of_lt hle (by decide), hlt, (g3.trans g36).mut hD (g36.lst hx) (fun _ z => nomatch z), l ++ [z], xs ++ [y], by rw [htk]; exact .yes pk eb ez, upd_same, ?_⟩
      exact (rx.mono fun _ _ z => PyI.keep (g36.tup.trans hp) z).snoc (PyI.keep hp r6)
    | false => exact ⟨hlt, g3.trans (g4.trans g5), l, xs, by rw [htk]; exact .no pk eb, (g4.trans g5).lst hx, rx.mono fun _ _ z => PyI.keep (g4.trans g5).tup z⟩
  · have e : i = ds.length := by omega
    subst e
    rw [List.take_length] at pk
    exact .inl ⟨w.stop H3 g3, q (Ls.mk l) _ H3 pk (g2.trans g3) ⟨D, xs, rfl, hx, rx⟩⟩
theorem el_genN [Py α] [PyI β] {wi : TI} {j : Nat} {vs : List Nat} {ds : List α} (T : α → Bool → Prop) (E : α → β → Prop) (hs : Src wi σ H ds) (hz : ds.length ≤ 100000) (hw : ∀ x, wipe ((wipe σ vs).set j (some x)) vs = wipe σ vs)
    (ht : ∀ d x H', d ∈ ds → Gr H H' → Py.rep d x H' → EdT tt ((wipe σ vs).set j (some x)) H' (T d)) (he : ∀ d x H', d ∈ ds → Gr H H' → Py.rep d x H' → T d true → Ed te ((wipe σ vs).set j (some x)) H' (E d)) :
    Ed (tLc wi (gName j) tt te vs) σ H (fun (l : Ls β) => Pk T E ds l.l) :=
  el_gen (SlotN (wipe σ vs) j) T E hs hz (fun d x H' r Q q => q _ (hw x) ⟨x, rfl, r⟩) (fun d σ2 H' m g ⟨x, e, r⟩ => by subst e; exact ht d x H' m g r) (fun d σ2 H' m g ⟨x, e, r⟩ hf => by subst e; exact he d x H' m g r hf)
/-- [e for d in src], e drawn -/
theorem el_anyN [Py α] [PyI β] {wi : TI} {j : Nat} {vs : List Nat} {ds : List α} {P : β → Prop} (hs : Src wi σ H ds) (hz : ds.length ≤ 100000) (hw : ∀ x, wipe ((wipe σ vs).set j (some x)) vs = wipe σ vs)
    (he : ∀ d x H', d ∈ ds → Gr H H' → Py.rep d x H' → Ed te ((wipe σ vs).set j (some x)) H' P) : Ed (tLc wi (gName j) tYes te vs) σ H (fun (l : Ls β) => l.l.length = ds.length ∧ ∀ x ∈ l.l, P x) :=
  (el_genN (fun _ b => b = true) (fun _ x => P x) hs hz hw (fun _ _ _ _ _ _ => et_yes) (fun d x H' m g r _ => he d x H' m g r)).imp fun l p => ⟨p.len (fun _ z => nomatch z), fun x m => by obtain ⟨_, _, h⟩ := p.all x m; exact h⟩
/-- tests, drawn -/
theorem edt_test {P : Bool → Prop} (h : Ed te σ H P) : EdT (tTest te) σ H P := fun H1 g Q q => h H1 g _ fun d v H2 p g2 r => ⟨d, by rw [show v = V.bl d from r], q d H2 p g2⟩
theorem edt_B {P : Bool → Prop} (h : Ed te σ H P) : EdT (tB te) σ H P := fun H1 g Q q => h H1 g _ fun d v H2 p g2 r => ⟨d, r, q d H2 p g2⟩
/-- a, l = e, [] -/
theorem q_parNew [Py α] {i j : Nat} {P : α → Prop} (h : Ed ta σ H P) (k : ∀ a v H1 p, P a → Gr H H1 → Py.rep a v H1 → H1 p = none → tz D ((σ.set i (some v)).set j (some (.ref p))) (upd H1 p (.lst []))) : tSeq (tPar i j (tCons ta (tCons (tLst tNil) tNil))) tz D σ H :=
  h H (Gr.refl H) _ fun a v H1 p e r => ⟨Nat.zero_le _, fun q hq => ⟨v, .ref q, rfl, k a v H1 q p e r hq⟩⟩
theorem ed_lst1 [Py α] {P : α → Prop} (h : Ed te σ H P) : Ed (tLst (tCons te tNil)) σ H (fun (l : Ls α) => ∃ d, l.l = [d] ∧ P d) := fun H1 g Q q => h H1 g _ fun d v H2 p g2 r =>
  ⟨(by show 1 ≤ sizeLine; decide), fun a ha => q (Ls.mk [d]) _ _ ⟨d, rfl, p⟩ (g2.trans (Gr.new ha)) ⟨a, [v], rfl, upd_same, RL.cons (Py.mono (Gr.new ha) r) RL.nil⟩⟩
theorem s_retV [Py α] {i : Nat} {d : α} {v : V} (h : σ[i]? = some (some v)) (r : Py.rep d v H) (k : D.rt v H) : tRet (tVar i) D σ H := ⟨v, h, k⟩
/-- a value, and the heap keeps its houses apart -/
structure Nd (α : Type) where
  v : α
instance [Py α] : Py (Nd α) := ⟨fun d v H => Py.rep d.v v H ∧ Neat H, fun g ⟨a, n⟩ => ⟨Py.mono g a, g.neat n⟩⟩
theorem ev_nd [Py α] {d : α} (h : Ev te σ H d) (n : Neat H) : Ev te σ H (Nd.mk d) := fun H1 g Q q => h H1 g _ fun d v H2 e g2 r => by subst e; exact q _ v H2 rfl g2 ⟨r, (g.trans g2).neat n⟩
/-- the instance's own dict and itself stand apart from all that was -/
theorem gr_make {H1 : Hp} {x dx C : Addr} (hx : H1 x = none) (hd : H1 dx = none) (ne : dx ≠ x) : Gr H1 (upd (upd H1 dx (.own x)) x (.ins C dx [])) :=
  (Gr.new hd).trans (Gr.new (by rw [upd_ne (Ne.symm ne)]; exact hx) (by intro _ _ _ _ _ z; injection z with _ _ z; cases z))
end
/-! ### what is sorted -/
theorem sortO_of_perm {α : Type} [PyO α] {l m : List α} (p : l.Perm m) : sortO l = sortO m := sortO_eq (sortO_srtd l) ((sortO_perm l).trans p)
theorem sortO_ext {α : Type} [PyO α] {l m : List α} (hl : l.Nodup) (hm : m.Nodup) (h : ∀ x, x ∈ l ↔ x ∈ m) : sortO l = sortO m := sortO_of_perm ((List.perm_ext_iff_of_nodup hl hm).mpr h)
theorem mem_sortO {α : Type} [PyO α] {l : List α} {x : α} : x ∈ sortO l ↔ x ∈ l := (sortO_perm l).mem_iff
theorem sortO_nodup {α : Type} [PyO α] {l : List α} (h : l.Nodup) : (sortO l).Nodup := (sortO_perm l).nodup_iff.mpr h
theorem sortO_strict {α : Type} [PyO α] {l : List α} (h : l.Nodup) : (sortO l).Pairwise (fun a b => PyO.lt a b = true) := by
  have h1 := sortO_srtd l
  have h2 := sortO_nodup h
  refine (List.Pairwise.and h1 h2).imp fun {a b} z => ?_
  cases q : PyO.lt a b with
  | true => rfl
  | false => exact absurd (PyO.tri a b q z.1) z.2
theorem sortO_le (l : List Int) : (sortO l).Pairwise (· ≤ ·) := (sortO_srtd l).imp fun {a b} z => by
  have : decide (b < a) = false := z
  have := of_decide_eq_false this
  omega
theorem sortO_id {l : List Int} (h : l.Pairwise (· ≤ ·)) : sortO l = l := (sortO_eq (h.imp fun {a b} z => by show decide (b < a) = false; exact decide_eq_false (by omega)) (List.Perm.refl l)).symm
/-- sorted, by insertion -/
def insO {α : Type} [PyO α] (x : α) : List α → List α
  | [] => [x]
  | y :: l => if PyO.lt y x = true then y :: insO x l else x :: y :: l
def insS {α : Type} [PyO α] : List α → List α
  | [] => []
  | x :: l => insO x (insS l)
theorem insO_perm {α : Type} [PyO α] (x : α) : ∀ l : List α, (insO x l).Perm (x :: l)
  | [] => List.Perm.refl _
  | y :: l => by
    unfold insO
    split
    · exact ((insO_perm x l).cons y).trans (List.Perm.swap x y l)
    · exact List.Perm.refl _
theorem insS_perm {α : Type} [PyO α] : ∀ l : List α, (insS l).Perm l
  | [] => List.Perm.refl _
  | x :: l => (insO_perm x (insS l)).trans ((insS_perm l).cons x)
theorem insO_srtd {α : Type} [PyO α] (x : α) : ∀ l : List α, Srtd PyO.lt l → Srtd PyO.lt (insO x l)
  | [], _ => by unfold insO Srtd; simp
  | y :: l, h => by
    unfold insO
    have h' := List.pairwise_cons.mp h
    split
    · rename_i q
      refine List.pairwise_cons.mpr ⟨fun z hz => ?_, insO_srtd x l h'.2⟩
      rcases List.mem_cons.mp ((insO_perm x l).mem_iff.mp hz) with e | e
      · rw [e]; exact PyO.asym _ _ q
      · exact h'.1 z e
    · rename_i q
      have q' : PyO.lt y x = false := by simpa using q
      refine List.pairwise_cons.mpr ⟨fun z hz => ?_, h⟩
      rcases List.mem_cons.mp hz with e | e
      · rw [e]; exact q'
      · exact PyO.ntr _ _ _ q' (h'.1 z e)
theorem insS_srtd {α : Type} [PyO α] : ∀ l : List α, Srtd PyO.lt (insS l)
  | [] => List.Pairwise.nil
  | x :: l => insO_srtd x _ (insS_srtd l)
theorem sortO_ins {α : Type} [PyO α] (l : List α) : sortO l = insS l := (sortO_eq (insS_srtd l) (insS_perm l)).symm
end Zw
/-! Z18: where the watchers come to (plain). -/
namespace Zw
open PySem L2 RZ PySem.Spec PyProof.Rows SrtO
theorem snoc_ind {α : Type} {P : List α → Prop} (h0 : P []) (h1 : ∀ l a, P l → P (l ++ [a])) : ∀ l, P l := fun l => by
  have : ∀ m : List α, P m.reverse := fun m => by
    induction m with
    | nil => exact h0
    | cons a m ih => rw [List.reverse_cons]; exact h1 _ _ ih
  have := this l.reverse
  rwa [List.reverse_reverse] at this
/-- one step each -/
def Fw (nb : Int → Int → Prop) : List Int → List Int → Prop
  | [], [] => True
  | w :: ws, o :: os => nb w o ∧ Fw nb ws os
  | _, _ => False
theorem Fw.imp {nb nb' : Int → Int → Prop} (h : ∀ a b, nb a b → nb' a b) : ∀ {ws os : List Int}, Fw nb ws os → Fw nb' ws os
  | [], [], _ => trivial
  | _ :: _, _ :: _, f => ⟨h _ _ f.1, Fw.imp h f.2⟩
  | [], _ :: _, f => f.elim
  | _ :: _, [], f => f.elim
theorem Fw.impM {nb nb' : Int → Int → Prop} : ∀ {ws os : List Int}, (∀ a ∈ ws, ∀ b, nb a b → nb' a b) → Fw nb ws os → Fw nb' ws os
  | [], [], _, _ => trivial
  | _ :: _, _ :: _, h, f => ⟨h _ List.mem_cons_self _ f.1, Fw.impM (fun a m => h a (List.mem_cons_of_mem _ m)) f.2⟩
  | [], _ :: _, _, f => f.elim
  | _ :: _, [], _, f => f.elim
theorem Fw.length {nb : Int → Int → Prop} : ∀ {ws os : List Int}, Fw nb ws os → os.length = ws.length
  | [], [], _ => rfl
  | _ :: _, _ :: _, f => by simp [Fw.length f.2]
  | [], _ :: _, f => f.elim
  | _ :: _, [], f => f.elim
theorem Fw.flip {nb nb' : Int → Int → Prop} : ∀ {ws os : List Int}, (∀ a b, nb a b → nb' b a) → Fw nb ws os → Fw nb' os ws
  | [], [], _, _ => trivial
  | _ :: _, _ :: _, h, f => ⟨h _ _ f.1, Fw.flip h f.2⟩
  | [], _ :: _, _, f => f.elim
  | _ :: _, [], _, f => f.elim
theorem Fw.self {nb : Int → Int → Prop} : ∀ {ws : List Int}, (∀ a ∈ ws, nb a a) → Fw nb ws ws
  | [], _ => trivial
  | _ :: _, h => ⟨h _ List.mem_cons_self, Fw.self fun a m => h a (List.mem_cons_of_mem _ m)⟩
theorem Fw.mem {nb : Int → Int → Prop} : ∀ {ws os : List Int}, Fw nb ws os → ∀ o ∈ os, ∃ w ∈ ws, nb w o
  | [], [], _ => fun o m => by simp at m
  | w :: ws, o :: os, f => fun x m => by
    rcases List.mem_cons.mp m with e | m
    · subst e; exact ⟨w, List.mem_cons_self, f.1⟩
    · obtain ⟨w', m', h⟩ := Fw.mem f.2 x m
      exact ⟨w', List.mem_cons_of_mem _ m', h⟩
  | [], _ :: _, f => f.elim
  | _ :: _, [], f => f.elim
theorem Fw.snoc {nb : Int → Int → Prop} {w : Int} : ∀ {ws os : List Int}, Fw nb (ws ++ [w]) os ↔ ∃ os' o, os = os' ++ [o] ∧ Fw nb ws os' ∧ nb w o
  | [], [] => ⟨fun f => f.elim, fun ⟨os', o, e, _⟩ => by cases os' <;> cases e⟩
  | [], [o] => ⟨fun f => ⟨[], o, rfl, trivial, f.1⟩, fun ⟨os', o', e, f, h⟩ => by
    cases os' with
    | nil => cases e; exact ⟨h, trivial⟩
    | cons a b => exact f.elim⟩
  | [], o :: o2 :: os => ⟨fun f => f.2.elim, fun ⟨os', o', e, f, h⟩ => by
    cases os' with
    | nil => cases e
    | cons a b => exact f.elim⟩
  | v :: ws, [] => ⟨fun f => f.elim, fun ⟨os', o, e, _⟩ => by cases os' <;> cases e⟩
  | v :: ws, o :: os => by
    show nb v o ∧ Fw nb (ws ++ [w]) os ↔ _
    rw [Fw.snoc (ws := ws) (os := os)]
    constructor
    · rintro ⟨h, os', o', rfl, f, h'⟩
      exact ⟨o :: os', o', rfl, ⟨h, f⟩, h'⟩
    · rintro ⟨os', o', e, f, h'⟩
      cases os' with
      | nil => exact f.elim
      | cons a b => cases e; exact ⟨f.1, b, o', rfl, f.2, h'⟩
theorem Fw.perm {nb : Int → Int → Prop} {os os' : List Int} (p : os.Perm os') : ∀ {ws : List Int}, Fw nb os ws → ∃ ws', ws.Perm ws' ∧ Fw nb os' ws' := by
  induction p with
  | nil => exact fun {ws} f => ⟨ws, List.Perm.refl _, f⟩
  | cons x _ ih => exact fun {ws} f => match ws, f with
    | w :: ws, f => by obtain ⟨ws', p, g⟩ := ih f.2; exact ⟨w :: ws', p.cons w, f.1, g⟩
    | [], f => f.elim
  | swap x y l => exact fun {ws} f => match ws, f with
    | a :: b :: ws, f => ⟨b :: a :: ws, List.Perm.swap b a ws, f.2.1, f.1, f.2.2⟩
    | [], f => f.elim
    | [_], f => f.2.elim
  | trans _ _ ih1 ih2 =>
    intro ws f
    obtain ⟨w1, p1, f1⟩ := ih1 f
    obtain ⟨w2, p2, f2⟩ := ih2 f1
    exact ⟨w2, p1.trans p2, f2⟩
theorem sortO_snoc (os : List Int) (o : Int) : sortO (sortO os ++ [o]) = sortO (os ++ [o]) := sortO_of_perm ((sortO_perm os).append_right [o])
theorem mem_stepsKV {rows : List (List Int)} {x : List Int} : ∀ ws : List Int, x ∈ keysD (stepsKV rows ws) ↔ ∃ os, Fw (fun w o => o ∈ rows.getD w.toNat []) ws os ∧ x = sortO os := by
  intro ws
  induction ws using snoc_ind generalizing x with
  | h0 =>
    unfold stepsKV keysD
    simp
    constructor
    · rintro rfl; exact ⟨[], trivial, by rw [sortO_ins]; rfl⟩
    · rintro ⟨os, f, rfl⟩
      cases os with
      | nil => rw [sortO_ins]; rfl
      | cons a b => exact f.elim
  | h1 ws w ih =>
    rw [stepsKV_snoc]
    unfold stepOut
    rw [mem_stepMid]
    constructor
    · rintro (h | ⟨s, hs, o, ho, rfl⟩)
      · unfold keysD at h; simp at h
      · obtain ⟨os, f, rfl⟩ := ih.mp hs
        exact ⟨os ++ [o], Fw.snoc.mpr ⟨os, o, rfl, f, ho⟩, sortO_snoc os o⟩
    · rintro ⟨os, f, rfl⟩
      obtain ⟨os', o, rfl, f', ho⟩ := Fw.snoc.mp f
      exact .inr ⟨sortO os', ih.mpr ⟨os', f', rfl⟩, o, ho, (sortO_snoc os' o).symm⟩
theorem nodup_putD {κ β : Type} [DecidableEq κ] {l : List (κ × β)} {k : κ} {v : β} (h : (keysD l).Nodup) : (keysD (putD l k v)).Nodup := by
  unfold putD
  split
  · have e : keysD (l.map fun kv => if kv.1 = k then (kv.1, v) else kv) = keysD l := by
      unfold keysD
      rw [List.map_map]
      refine List.map_congr_left fun a _ => ?_
      show (if a.1 = k then (a.1, v) else a).1 = a.1
      split <;> rfl
    rw [e]; exact h
  · rename_i q
    unfold keysD at h ⊢
    rw [List.map_append, List.nodup_append]
    refine ⟨h, by simp, fun a ha b hb => ?_⟩
    simp at hb
    subst hb
    rintro rfl
    obtain ⟨kv, hm, e⟩ := List.mem_map.mp ha
    exact q (List.any_eq_true.mpr ⟨kv, hm, decide_eq_true e⟩)
theorem nodup_stepIn (s : List Int) : ∀ (row : List Int) (acc : KVs), (keysD acc).Nodup → (keysD (row.foldl (stepIn s) acc)).Nodup
  | [], _, h => h
  | _ :: row, _, h => nodup_stepIn s row _ (nodup_putD h)
theorem nodup_stepMid (row : List Int) : ∀ (ks : List (List Int)) (acc : KVs), (keysD acc).Nodup → (keysD (ks.foldl (stepMid row) acc)).Nodup
  | [], _, h => h
  | s :: ks, _, h => nodup_stepMid row ks _ (nodup_stepIn s row _ h)
theorem nodup_stepsKV (rows : List (List Int)) : ∀ ws : List Int, (keysD (stepsKV rows ws)).Nodup := by
  intro ws
  induction ws using snoc_ind with
  | h0 => unfold stepsKV keysD; simp
  | h1 ws w ih => rw [stepsKV_snoc]; exact nodup_stepMid _ _ _ (by unfold keysD; exact List.nodup_nil)

/-! ### the law's own -/
def lawNears (d : Int × List (Int × Int)) : List (List Int) := (rngI 0 d.1.toNat).map fun room => (rngI 0 d.1.toNat).filter fun one => decide (one = room) || decide ((min one room, max one room) ∈ d.2)
def rowExt (row : List Int) (nr : List Int) : List (List Int) := nr.map fun one => row ++ [one]
def rowsStep (nv : List (List Int)) (rows : List (List Int)) (w : Int) : List (List Int) := rows.foldl (fun acc row => acc ++ rowExt row (nv.getD w.toNat [])) []
def rowsM (nv : List (List Int)) (ws : List Int) : List (List Int) := ws.foldl (rowsStep nv) [[]]
def foundStep (kv : KVs) (row : List Int) : KVs := putD kv (sortO row) true
def foundM (rows : List (List Int)) : KVs := rows.foldl foundStep []
def lawCome (nv : List (List Int)) (ws : List Int) : List (List Int) := sortO (keysD (foundM (rowsM nv ws)))
theorem mem_rowFold {nr : List Int} {x : List Int} : ∀ (rows acc : List (List Int)), x ∈ rows.foldl (fun acc row => acc ++ rowExt row nr) acc ↔ x ∈ acc ∨ ∃ row ∈ rows, ∃ o ∈ nr, x = row ++ [o]
  | [], acc => by simp
  | row :: rows, acc => by
    simp only [List.foldl_cons]
    rw [mem_rowFold rows (acc ++ rowExt row nr), List.mem_append]
    unfold rowExt
    rw [List.mem_map]
    simp only [List.mem_cons]
    constructor
    · rintro ((h | ⟨o, ho, e⟩) | ⟨r, hr, h⟩)
      · exact .inl h
      · exact .inr ⟨row, .inl rfl, o, ho, e.symm⟩
      · exact .inr ⟨r, .inr hr, h⟩
    · rintro (h | ⟨r, (rfl | hr), o, ho, e⟩)
      · exact .inl (.inl h)
      · exact .inl (.inr ⟨o, ho, e.symm⟩)
      · exact .inr ⟨r, hr, o, ho, e⟩
theorem mem_rowsM {nv : List (List Int)} {x : List Int} : ∀ ws : List Int, x ∈ rowsM nv ws ↔ Fw (fun w o => o ∈ nv.getD w.toNat []) ws x := by
  intro ws
  induction ws using snoc_ind generalizing x with
  | h0 =>
    unfold rowsM
    simp
    cases x with
    | nil => exact ⟨fun _ => trivial, fun _ => rfl⟩
    | cons a b => exact ⟨fun h => (by cases h), fun f => f.elim⟩
  | h1 ws w ih =>
    unfold rowsM
    rw [List.foldl_append]
    show x ∈ rowsStep nv (rowsM nv ws) w ↔ _
    unfold rowsStep
    rw [mem_rowFold, Fw.snoc]
    constructor
    · rintro (h | ⟨row, hr, o, ho, e⟩)
      · simp at h
      · exact ⟨row, o, e, ih.mp hr, ho⟩
    · rintro ⟨row, o, e, f, ho⟩
      exact .inr ⟨row, ih.mpr f, o, ho, e⟩
theorem mem_foundM {x : List Int} : ∀ (rows : List (List Int)) (acc : KVs), x ∈ keysD (rows.foldl foundStep acc) ↔ x ∈ keysD acc ∨ ∃ row ∈ rows, x = sortO row
  | [], acc => by simp
  | row :: rows, acc => by
    simp only [List.foldl_cons]
    rw [mem_foundM rows]
    unfold foundStep
    rw [mem_putD]
    simp only [List.mem_cons]
    constructor
    · rintro ((h | h) | ⟨r, hr, h⟩)
      · exact .inr ⟨row, .inl rfl, h⟩
      · exact .inl h
      · exact .inr ⟨r, .inr hr, h⟩
    · rintro (h | ⟨r, (rfl | hr), h⟩)
      · exact .inl (.inr h)
      · exact .inl (.inl h)
      · exact .inr ⟨r, hr, h⟩
theorem nodup_foundM : ∀ (rows : List (List Int)) (acc : KVs), (keysD acc).Nodup → (keysD (rows.foldl foundStep acc)).Nodup
  | [], _, h => h
  | _ :: rows, _, h => nodup_foundM rows _ (nodup_putD h)
theorem mem_nbrs {a o : Int} : ∀ l : List (Int × Int), o ∈ nbrs a l ↔ (a, o) ∈ l ∨ (o, a) ∈ l
  | [] => by simp [nbrs]
  | (x, y) :: l => by
    show o ∈ (if x = a then [y] else []) ++ (if y = a then [x] else []) ++ nbrs a l ↔ _
    rw [List.mem_append, List.mem_append, mem_nbrs l]
    simp only [List.mem_cons, Prod.mk.injEq]
    have mi : ∀ (c : Prop) [Decidable c] (z : Int), (o ∈ if c then [z] else []) ↔ c ∧ o = z := fun c _ z => by
      by_cases h : c
      · rw [if_pos h]; simp [h]
      · rw [if_neg h]; simp [h]
    rw [mi, mi]
    constructor
    · rintro ((⟨e1, e2⟩ | ⟨e1, e2⟩) | (h | h))
      · exact .inl (.inl ⟨e1.symm, e2⟩)
      · exact .inr (.inl ⟨e2, e1.symm⟩)
      · exact .inl (.inr h)
      · exact .inr (.inr h)
    · rintro ((⟨e1, e2⟩ | h) | (⟨e1, e2⟩ | h))
      · exact .inl (.inl ⟨e1.symm, e2⟩)
      · exact .inr (.inl h)
      · exact .inl (.inr ⟨e2.symm, e1⟩)
      · exact .inr (.inr h)
/-- near -/
def Near (r : Int) (ds : List (Int × Int)) (w o : Int) : Prop := (0 ≤ w ∧ w < r) ∧ (0 ≤ o ∧ o < r) ∧ (o = w ∨ (w, o) ∈ ds ∨ (o, w) ∈ ds)
theorem Near.symm {r : Int} {ds : List (Int × Int)} {w o : Int} (h : Near r ds w o) : Near r ds o w := ⟨h.2.1, h.1, by rcases h.2.2 with e | e | e; exact .inl e.symm; exact .inr (.inr e); exact .inr (.inl e)⟩
/-! ### x in t, t a tuple of data -/
def rInDT (K : PySem.W.Frag) (neg : Bool) : R2 := fun x y H Q => ∃ d ds, Dp K H x d ∧ Dp K H y (.tuple ds) ∧ SeqAt.shaped d = true ∧ SeqAt.shaped (.tuple ds) = true ∧ Q (.bl (neg ^^ ds.any fun z => PyData.eqv z d)) H
section
variable {X : Cx} {K : PySem.W.Frag} {σ : L2.St} {H : Hp} {ta tb te : TE} {α β : Type}
theorem op_inDT (hu : X.A.units + 65 < cLine) : OpR X (compareOp .In) (rInDT X.K false) := by
  intro pins s σ H x y v u Q I rx ry h
  obtain ⟨d, ds, hd, he, sd, se, q⟩ := h
  obtain ⟨as, r1⟩ := Dp.reads I d x v hd rx
  obtain ⟨bs, r2⟩ := Dp.reads I (.tuple ds) y u he ry
  exact SeqAt.in_tuple_reads r2 r1 (SeqAt.canLay_of_shaped se) (SeqAt.canLay_of_shaped sd) (room_in_shaped sd hu) ⟨.bl _, H, I, rfl, by simpa using q⟩
theorem op_notInDT (hu : X.A.units + 65 < cLine) : OpR X (compareOp .NotIn) (rInDT X.K true) := by
  intro pins s σ H x y v u Q I rx ry h
  obtain ⟨d, ds, hd, he, sd, se, q⟩ := h
  obtain ⟨as, r1⟩ := Dp.reads I d x v hd rx
  obtain ⟨bs, r2⟩ := Dp.reads I (.tuple ds) y u he ry
  exact SeqAt.notIn_tuple_reads r2 r1 (SeqAt.canLay_of_shaped se) (SeqAt.canLay_of_shaped sd) (room_in_shaped sd hu) ⟨.bl _, H, I, rfl, by simpa using q⟩
theorem k_inDT (h : X.K = K) (hu : X.A.units + 65 < cLine) : OpR X (compareOp .In) (rInDT K false) := h ▸ op_inDT hu
theorem k_notInDT (h : X.K = K) (hu : X.A.units + 65 < cLine) : OpR X (compareOp .NotIn) (rInDT K true) := h ▸ op_notInDT hu
theorem any_eqvI [PyI α] [PyDI α] [DecidableEq α] {a : α} : ∀ l : List α, ((l.map PyDI.toD).any fun z => PyData.eqv z (PyDI.toD a)) = decide (a ∈ l)
  | [] => by simp
  | b :: l => by
    rw [List.map_cons, List.any_cons, any_eqvI l, dec_of (p := True) (PyDI.eqv b a)]
    by_cases h : b = a
    · simp [h]
    · have h2 : ¬ a = b := fun e => h e.symm
      simp [h, h2]
theorem ev_inT [PyI α] [PyDI α] [DecidableEq α] {a : α} {l : List α} {neg : Bool} (ha : Ev ta σ H a) (hb : Ev tb σ H l) (hd : PyDI.dm α ≤ 63 := by decide) : Ev (tOp (rInDT K neg) ta tb) σ H (neg ^^ decide (a ∈ l)) := ev_op ha hb fun x y H rx ry Q q => by
  refine ⟨_, _, PyDI.dp rx, PyDI.dp (α := List α) ry, PyD.sh (α := α) (Nat.le_trans hd (by decide)) _, PyD.sh (α := List α) (show PyDI.dm α + 1 ≤ 64 from Nat.succ_le_succ hd) _, ?_⟩
  rw [any_eqvI]
  exact q _ _ H rfl (Gr.refl H) rfl
theorem ev_min2 {i j : Int} (h : Ev ta σ H i) (h2 : Ev tb σ H j) : Ev (tCB (fun xs H Q => ∃ i j, xs = [V.int i, V.int j] ∧ Q (.int (if j < i then j else i)) H) (tCons ta (tCons tb tNil))) σ H (min i j) := fun H1 g Q q => ea_2 h h2 H1 g _ fun vs H2 g2 ⟨v, w, d, d', ev, pd, pd', r1, r2⟩ => by
  have e1 : v = .int d := r1
  have e2 : w = .int d' := r2
  subst ev pd pd' e1 e2
  exact ⟨d, d', rfl, q _ _ H2 rfl g2 (show V.int (if d' < d then d' else d) = V.int (min d d') from by congr 1; split <;> omega)⟩
theorem ev_max2 {i j : Int} (h : Ev ta σ H i) (h2 : Ev tb σ H j) : Ev (tCB (fun xs H Q => ∃ i j, xs = [V.int i, V.int j] ∧ Q (.int (if j > i then j else i)) H) (tCons ta (tCons tb tNil))) σ H (max i j) := fun H1 g Q q => ea_2 h h2 H1 g _ fun vs H2 g2 ⟨v, w, d, d', ev, pd, pd', r1, r2⟩ => by
  have e1 : v = .int d := r1
  have e2 : w = .int d' := r2
  subst ev pd pd' e1 e2
  exact ⟨d, d', rfl, q _ _ H2 rfl g2 (show V.int (if d' > d then d' else d) = V.int (max d d') from by congr 1; split <;> omega)⟩
/-- a branch on a test that is drawn -/
theorem s_ifP {t : TT} {tu tw : TS} {D : Ends} {P : Bool → Prop} (h : EdT t σ H P) (h1 : P true → ∀ H1, Gr H H1 → tu D σ H1) (h2 : P false → ∀ H1, Gr H H1 → tw D σ H1) : tIfS t tu tw D σ H := h H (Gr.refl H) _ fun b' H1 eb e => by
  cases b' with
  | true => exact h1 eb H1 e
  | false => exact h2 eb H1 e
theorem etd_andP {t u : TT} {a : Bool} {P : Bool → Prop} (h1 : EvT t σ H a) (h2 : a = true → EdT u σ H P) : EdT (tAnd t u) σ H (fun b => (a = true ∧ P b) ∨ (a = false ∧ b = false)) := fun H1 e Q q => h1 H1 e _ fun a' H2 ea e2 => by
  subst ea
  cases a' with
  | true => exact h2 rfl H2 (e.trans e2) _ fun b H3 p g3 => q b H3 (.inl ⟨rfl, p⟩) (e2.trans g3)
  | false => exact q false H2 (.inr ⟨rfl, rfl⟩) e2
end
/-! ### a list at a known address, walked -/
section
variable {K : PySem.W.Frag} {σ : L2.St} {H : Hp} {tz tu : TS} {D : Ends} {g : TG} {α : Type}
def SrcA [Py α] (wi : TI) (σ : L2.St) (H : Hp) (l : Addr) (ds : List α) : Prop := ∀ H1, Gr H H1 → ∀ R : It → Hp → Prop, (∀ J H2 xs, Gr H1 H2 → H2 l = some (.lst xs) → Wk J ds (fun H3 => H3 l = some (.lst xs) ∧ TupK H2 H3) → R J H2) → wi σ H1 R
theorem src_at [PyI α] {i : Nat} {l : Addr} {ds : List α} (hi : σ[i]? = some (some (.ref l))) (hl : Py.rep (Ls.mk ds) (.ref l) H) : SrcA (iList K (tVar i)) σ H l ds := fun H1 g R r => by
  obtain ⟨p, xs, ev, hp, rl⟩ := Py.mono g hl
  cases ev
  refine ⟨_, hi, l, rfl, ⟨xs, .of hp⟩, r _ H1 xs (Gr.refl H1) hp ⟨fun H3 k => ⟨xs, .of k.1, by rw [rl.1]; exact Nat.le_refl _⟩, fun H3 k i d' hd => ?_⟩⟩
  obtain ⟨x, hx, rx⟩ := rl.get hd
  refine ⟨⟨xs, x, .of k.1, hx⟩, fun y H4 hy => ?_⟩
  obtain ⟨e4, hy⟩ := hy
  subst e4
  have e5 := hy xs (.of k.1)
  rw [hx] at e5
  cases e5
  exact ⟨Gr.refl _, PyI.keep k.2 rx⟩
theorem s_foldA [PyI α] {wi : TI} {A : Type} {l : Addr} {ds : List α} (f : A → α → A) (a0 : A) (I : A → L2.St → Hp → Prop) (hs : SrcA wi σ H l ds) (h0 : ∀ H2, Gr H H2 → I a0 σ H2) (mono : ∀ a σ' H1 H2, Gr H1 H2 → I a σ' H1 → I a σ' H2)
    (step : ∀ Hb xs i d x a σ' H', Gr H Hb → Hb l = some (.lst xs) → H' l = some (.lst xs) → TupK Hb H' → ds[i]? = some d → a = (ds.take i).foldl f a0 → I a σ' H' → Py.rep d x H' → g x σ' H' fun σ2 H3 => tu { D with nx := fun σ3 H4 => H4 l = some (.lst xs) ∧ TupK Hb H4 ∧ I (f a d) σ3 H4, ct := fun σ3 H4 => H4 l = some (.lst xs) ∧ TupK Hb H4 ∧ I (f a d) σ3 H4, bk := D.nx } σ2 H3)
    (fin : ∀ σ' H', TupK H H' → I (ds.foldl f a0) σ' H' → D.nx σ' H') : tFor wi g tu D σ H := by
  refine hs H (Gr.refl H) _ fun J H2 xs g2 hl w => ?_
  refine ⟨fun i m σ' H' => m = ds.length - i ∧ i ≤ ds.length ∧ H' l = some (.lst xs) ∧ TupK H2 H' ∧ I ((ds.take i).foldl f a0) σ' H', ⟨ds.length, by simp, Nat.zero_le _, hl, TupK.refl _, h0 H2 g2⟩, ?_⟩
  rintro i m σ' H3 ⟨rfl, hi, hl3, s3, p⟩
  by_cases hlt : i < ds.length
  · have hd : ds[i]? = some ds[i] := by simp [hlt]
    obtain ⟨hgo, hy⟩ := w.go H3 ⟨hl3, s3⟩ i _ hd
    refine .inr ⟨hgo, fun σ4 H4 => H4 l = some (.lst xs) ∧ TupK H2 H4 ∧ I (f ((ds.take i).foldl f a0) ds[i]) σ4 H4, fun σ4 H4 p4 => ⟨ds.length - (i + 1), by omega, rfl, hlt, p4.1, p4.2.1, by rw [foldl_take f a0 hd]; exact p4.2.2⟩, fun x H4 hyl => ?_⟩
    obtain ⟨g4, r4⟩ := hy x H4 hyl
    exact step H2 xs i _ x _ σ' H4 g2 hl (g4.lst hl3) (s3.trans g4.tup) hd rfl (mono _ _ _ _ g4 p) r4
  · have e : i = ds.length := by omega
    subst e
    rw [List.take_length] at p
    exact .inl ⟨w.stop H3 ⟨hl3, s3⟩, fin σ' H3 (g2.tup.trans s3) p⟩
theorem q_foldA [PyI α] {wi : TI} {A : Type} {l : Addr} {ds : List α} (f : A → α → A) (a0 : A) (I : A → L2.St → Hp → Prop) (hs : SrcA wi σ H l ds) (h0 : ∀ H2, Gr H H2 → I a0 σ H2) (mono : ∀ a σ' H1 H2, Gr H1 H2 → I a σ' H1 → I a σ' H2)
    (step : ∀ Hb xs i d x a σ' H', Gr H Hb → Hb l = some (.lst xs) → H' l = some (.lst xs) → TupK Hb H' → ds[i]? = some d → a = (ds.take i).foldl f a0 → I a σ' H' → Py.rep d x H' → g x σ' H' fun σ2 H3 => tu { D with nx := fun σ3 H4 => H4 l = some (.lst xs) ∧ TupK Hb H4 ∧ I (f a d) σ3 H4, ct := fun σ3 H4 => H4 l = some (.lst xs) ∧ TupK Hb H4 ∧ I (f a d) σ3 H4, bk := tz D } σ2 H3)
    (fin : ∀ σ' H', TupK H H' → I (ds.foldl f a0) σ' H' → tz D σ' H') : tSeq (tFor wi g tu) tz D σ H := s_foldA (D := { D with nx := tz D }) f a0 I hs h0 mono step fin
theorem ls_addr [Py α] {d : Ls α} {v : V} {H : Hp} (r : Py.rep d v H) : ∃ a, v = .ref a ∧ H a ≠ none := by obtain ⟨a, xs, e, h, _⟩ := r; exact ⟨a, e, by rw [h]; exact fun z => nomatch z⟩
end
section
variable {K : PySem.W.Frag} {σ : L2.St} {H : Hp} {te e : TE} {tt : TT} {g : TG} {vs : List Nat} {α γ : Type}
/-- the argument drawn -/
theorem ed_via [Py α] [Py γ] {r : List V → Hp → VK → Prop} {P : α → Prop} {P' : γ → Prop} (h : Ed te σ H P) (k : ∀ d v H', Gr H H' → P d → Py.rep d v H' → Ed (tCB r (tCons (tC v) tNil)) σ H' P') : Ed (tCB r (tCons te tNil)) σ H P' := fun H1 g1 Q q =>
  h H1 g1 _ fun d v H2 p g2 rv => k d v H2 (g1.trans g2) p rv H2 (Gr.refl H2) Q fun d' v' H3 p' g3 r' => q d' v' H3 p' (g2.trans g3) r'
theorem ed_lcRng1 [Py γ] {P : Int → Prop} {P' : γ → Prop} (h : Ed te σ H P) (k : ∀ n H', Gr H H' → P n → Ed (tLc (iRng1 (tCons (tC (.int n)) tNil)) g tt e vs) σ H' P') : Ed (tLc (iRng1 (tCons te tNil)) g tt e vs) σ H P' := fun H1 g1 Q q =>
  h H1 g1 _ fun d v H2 p g2 rv => by
    have ev : v = .int d := rv
    subst ev
    exact k d H2 (g1.trans g2) p H2 (Gr.refl H2) Q fun d' v' H3 p' g3 r' => q d' v' H3 p' (g2.trans g3) r'
theorem ed_sortedL [PyO α] [PySrt α] {P : List α → Prop} (h : Ed te σ H (fun (l : Ls α) => P l.l)) (hok : ∀ l, P l → ∀ d ∈ l, PySrt.ok d) : Ed (tCB rSortedG (tCons te tNil)) σ H (fun (l : Ls α) => ∃ l0, P l0 ∧ l = Ls.mk (sortO l0)) :=
  ed_via h fun d v H' _ p r => (ev_sortedL (ds := d.l) (ev_c r) (hok d.l p)).imp fun l e => ⟨d.l, p, e⟩
theorem ed_tupL [PyI α] {P : Ls α → Prop} (h : Ed te σ H P) : Ed (tCB (rTupOf K) (tCons te tNil)) σ H (fun (l : List α) => P (Ls.mk l)) :=
  ed_via h fun d v H' _ p r => (ev_tupL (a := d.l) (ev_c r)).imp fun l e => by rw [e]; exact p
instance [DecidableEq α] : DecidableEq (Ls α) := fun a b => decidable_of_iff (a.l = b.l) ⟨fun h => by cases a; cases b; cases h; rfl, fun h => by rw [h]⟩
end
theorem foldl_count {α : Type} (l : List α) (n : Nat) : l.foldl (fun n _ => n + 1) n = n + l.length := by
  induction l generalizing n with
  | nil => rfl
  | cons a l ih => rw [List.foldl_cons, ih, List.length_cons]; omega
theorem foldl_snoc {α β : Type} (g : α → β) : ∀ (l : List α) (acc : List β), l.foldl (fun acc d => acc ++ [g d]) acc = acc ++ l.map g
  | [], acc => by simp
  | a :: l, acc => by rw [List.foldl_cons, foldl_snoc g l]; simp
theorem rowFold_len (nr : List Int) : ∀ (rows acc : List (List Int)), (rows.foldl (fun acc row => acc ++ rowExt row nr) acc).length ≤ acc.length + rows.length * nr.length
  | [], acc => by simp
  | row :: rows, acc => by
    have h1 := rowFold_len nr rows (acc ++ rowExt row nr)
    simp only [List.foldl_cons, List.length_cons]
    rw [List.length_append] at h1
    unfold rowExt at h1 ⊢
    rw [List.length_map] at h1
    rw [Nat.add_mul]
    omega
theorem foundM_len : ∀ (rows : List (List Int)) (acc : KVs), (rows.foldl foundStep acc).length ≤ acc.length + rows.length
  | [], acc => Nat.le_refl _
  | row :: rows, acc => by
    have h1 := foundM_len rows (foundStep acc row)
    have h2 : (foundStep acc row).length ≤ acc.length + 1 := putD_length _ _ _
    simp only [List.foldl_cons, List.length_cons]
    omega
theorem rowsM_snoc (nv : List (List Int)) (ws : List Int) (w : Int) : rowsM nv (ws ++ [w]) = rowsStep nv (rowsM nv ws) w := by
  unfold rowsM; rw [List.foldl_append]; rfl
theorem rowsM_len {nv : List (List Int)} (hr : ∀ r ∈ nv, r.length ≤ 9) {ws : List Int} : ∀ n ≤ ws.length, (rowsM nv (ws.take n)).length ≤ 9 ^ n
  | 0, _ => by unfold rowsM; simp
  | n + 1, h => by
    have hd : ws[n]? = some ws[n] := by simp
    rw [List.take_add_one, hd, show (some ws[n]).toList = [ws[n]] from rfl, rowsM_snoc]
    have ih := rowsM_len hr (ws := ws) n (by omega)
    unfold rowsStep
    have h1 := rowFold_len (nv.getD ws[n].toNat []) (rowsM nv (ws.take n)) []
    have h2 : (nv.getD ws[n].toNat []).length ≤ 9 := by
      rw [List.getD_eq_getElem?_getD]
      cases q : nv[ws[n].toNat]? with
      | none => show 0 ≤ 9; decide
      | some r => exact hr r (List.mem_of_getElem? q)
    refine Nat.le_trans h1 ?_
    rw [Nat.pow_succ]
    have : (rowsM nv (ws.take n)).length * (nv.getD ws[n].toNat []).length ≤ 9 ^ n * 9 := Nat.mul_le_mul ih h2
    simp at this ⊢
    exact this
theorem rowsM_keyLen {nv : List (List Int)} {ws : List Int} (n : Nat) (h : n ≤ ws.length) : ∀ k ∈ rowsM nv (ws.take n), k.length = n := fun k hk => by
  rw [((mem_rowsM _).mp hk).length, List.length_take]; omega
def tri : Nat → Nat
  | 0 => 0
  | n + 1 => tri n + n
theorem tri_le : ∀ n, n ≤ 8 → tri n ≤ 28 := by
  intro n h
  rcases (show n = 0 ∨ n = 1 ∨ n = 2 ∨ n = 3 ∨ n = 4 ∨ n = 5 ∨ n = 6 ∨ n = 7 ∨ n = 8 by omega) with rfl | rfl | rfl | rfl | rfl | rfl | rfl | rfl | rfl <;> decide
theorem rngI_nodup (lo : Int) (n : Nat) : (rngI lo n).Nodup := by
  unfold rngI
  refine List.Pairwise.map _ (fun a b h => ?_) List.nodup_range
  omega
end Zw
/-! Z19: what is made anew; dicts with ints for keys. -/
namespace Zw
open PySem L2 RZ PySem.Spec PyProof.Rows SrtO
/-- evaluates to an object that was not there -/
def EdF {α : Type} [Py α] (te : TE) (σ : L2.St) (H : Hp) (P : α → Prop) : Prop := ∀ H1, Gr H H1 → ∀ Q : VK, (∀ d a H2, P d → Gr H1 H2 → H1 a = none → H2 a ≠ none → Py.rep d (.ref a) H2 → Q (.ref a) H2) → te σ H1 Q
/-- no house keeps its looked at p -/
def NoOwn (H : Hp) (p : Addr) : Prop := ¬ Owned H p
theorem Neat.noOwn {H : Hp} (n : Neat H) {p : Addr} (h : H p = none) : NoOwn H p := fun ⟨q, C, dx, r, t, e⟩ => n.1 q C dx r t p e h
instance instDI {β : Type} [PyI β] : Py (DI β) := ⟨fun d v H => ∃ p kvs, v = .ref p ∧ H p = some (.dK kvs) ∧ NoOwn H p ∧ PL (KRI H) d.kv kvs, fun {d v H H'} g ⟨p, kvs, e, h, no, r⟩ => ⟨p, kvs, e, by
    rcases g.old p _ h with z | ⟨_, od, _⟩
    · exact z
    · exact absurd od no, fun od => no (g.owned (by rw [h]; exact fun z => nomatch z) od), r.mono fun _ _ z => z.keep g.tup⟩⟩
section
variable {K : PySem.W.Frag} {σ : L2.St} {H H0 Hb H' : Hp} {ta tb tc te tj tl ty tv td : TE} {tt : TT} {tz tu : TS} {D : Ends} {g : TG} {α β γ : Type}
theorem EdF.ed [Py α] {P : α → Prop} (h : EdF te σ H P) : Ed te σ H P := fun H1 g Q q => h H1 g Q fun d a H2 p g2 _ _ r => q d _ H2 p g2 r
theorem EdF.imp [Py α] {P P' : α → Prop} (h : EdF te σ H P) (i : ∀ d, P d → P' d) : EdF te σ H P' := fun H1 a Q q => h H1 a Q fun d v H2 p => q d v H2 (i d p)
theorem EdF.mono [Py α] {P : α → Prop} (e : Gr H H') (h : EdF te σ H P) : EdF te σ H' P := fun H1 a Q q => h H1 (e.trans a) Q q
theorem s_asgF [Py α] {i : Nat} {P : α → Prop} (h : EdF te σ H P) (k : ∀ d a H1, P d → Gr H H1 → H a = none → Py.rep d (.ref a) H1 → D.nx (σ.set i (some (.ref a))) H1) : tAsg te (gName i) D σ H := h H (Gr.refl H) _ fun d a H1 p e n _ r => k d a H1 p e n r
theorem q_asgF [Py α] {i : Nat} {P : α → Prop} (h : EdF te σ H P) (k : ∀ d a H1, P d → Gr H H1 → H a = none → Py.rep d (.ref a) H1 → tz D (σ.set i (some (.ref a))) H1) : tSeq (tAsg te (gName i)) tz D σ H := s_asgF (D := { D with nx := tz D }) h k
theorem q_parEF [Py α] [Py β] {i j : Nat} {P : α → Prop} {P' : β → Prop} (h : Ed ta σ H P) (h' : EdF tb σ H P') (k : ∀ a v b q H1, P a → P' b → Gr H H1 → Py.rep a v H1 → H q = none → Py.rep b (.ref q) H1 → tz D ((σ.set i (some v)).set j (some (.ref q))) H1) : tSeq (tPar i j (tCons ta (tCons tb tNil))) tz D σ H :=
  h H (Gr.refl H) _ fun a v H1 p e r => h' H1 e _ fun b q H2 p' e2 hq _ r' => ⟨v, .ref q, rfl, k a v b q H2 p p' (e.trans e2) (Py.mono e2 r) (e.back hq) r'⟩
theorem q_parFF [Py α] [Py β] {i j : Nat} {P : α → Prop} {P' : β → Prop} (h : EdF ta σ H P) (h' : EdF tb σ H P') (k : ∀ a p b q H1, P a → P' b → Gr H H1 → H p = none → H q = none → p ≠ q → Py.rep a (.ref p) H1 → Py.rep b (.ref q) H1 → tz D ((σ.set i (some (.ref p))).set j (some (.ref q))) H1) : tSeq (tPar i j (tCons ta (tCons tb tNil))) tz D σ H :=
  h H (Gr.refl H) _ fun a p H1 pa e hp hp2 r => h' H1 e _ fun b q H2 p' e2 hq _ r' => ⟨.ref p, .ref q, rfl, k a p b q H2 pa p' (e.trans e2) hp (e.back hq) (fun z => hp2 (by rw [z]; exact hq)) (Py.mono e2 r) r'⟩
theorem edF_newDT [PyI β] : EdF tDNewT σ H (· = DT.mk ([] : List (List Int × β))) := fun H1 g Q q p hp => q _ p _ rfl (Gr.new hp) hp (by rw [upd_same]; exact fun z => nomatch z) rep_newDT
theorem edF_newDI [PyI β] (n : Neat H) : EdF tDNewK σ H (· = DI.mk ([] : List (Int × β))) := fun H1 g Q q p hp => q _ p _ rfl (Gr.new hp) hp (by rw [upd_same]; exact fun z => nomatch z) ⟨p, [], rfl, upd_same, (fun ⟨a, C, dx, r, t, e⟩ => (g.neat n).noOwn hp ⟨a, C, dx, r, t, by rw [upd_ne (fun z => by rw [z, upd_same] at e; cases e)] at e; exact e⟩), PL.nil⟩
theorem edF_lst [Py α] {ds : List α} {tr : TA} (h : EvA tr σ H (AllI ds)) (hl : ds.length ≤ 100000) : EdF (tLst tr) σ H (· = Ls.mk ds) := fun H1 e Q q =>
  h H1 e _ fun vs H2 e2 r => ⟨by rw [← r.1]; exact Nat.le_trans hl (by decide), fun p hp => q _ p _ rfl (e2.trans (Gr.new hp)) (e2.back hp) (by rw [upd_same]; exact fun z => nomatch z) ⟨p, vs, rfl, upd_same, r.mono fun _ _ z => Py.mono (Gr.new hp) z⟩⟩
theorem edF_newL [Py α] : EdF (tLst tNil) σ H (· = Ls.mk ([] : List α)) := edF_lst eal_nil (Nat.zero_le _)
theorem edF_lst1 [Py α] {P : α → Prop} (h : Ed te σ H P) : EdF (tLst (tCons te tNil)) σ H (fun (l : Ls α) => ∃ d, l.l = [d] ∧ P d) := fun H1 g Q q => h H1 g _ fun d v H2 p g2 r =>
  ⟨(by show 1 ≤ sizeLine; decide), fun a ha => q (Ls.mk [d]) a _ ⟨d, rfl, p⟩ (g2.trans (Gr.new ha)) (g2.back ha) (by rw [upd_same]; exact fun z => nomatch z) ⟨a, [v], rfl, upd_same, RL.cons (Py.mono (Gr.new ha) r) RL.nil⟩⟩
theorem edF_rg1 {n : Int} (h : Ev te σ H n) (hn : -100000 ≤ n ∧ n ≤ 100000) : EdF (tLstRg (tRg1 te)) σ H (· = Ls.mk (rngI 0 n.toNat)) := fun H1 g Q q => h H1 g _ fun d v H2 e g2 r => by
  subst e
  have ev : v = .int d := r
  subst ev
  refine ⟨d, rfl, ⟨by omega, by omega, by omega, by omega, by omega⟩, fun p hp => q _ p _ rfl (g2.trans (Gr.new hp)) (g2.back hp) (by rw [upd_same]; exact fun z => nomatch z) ⟨p, _, rfl, upd_same, ?_⟩⟩
  have e : rgV 0 d = (rngI 0 d.toNat).map V.int := by unfold rgV rngI; rw [List.map_map, Int.sub_zero]; rfl
  rw [e]
  exact RL.map fun _ _ => rfl
theorem edF_rg2 {m n : Int} (h0 : Ev ta σ H m) (h : Ev te σ H n) (hn : -100000 ≤ m ∧ m ≤ 100000 ∧ -100000 ≤ n ∧ n ≤ 100000) : EdF (tLstRg (tRg2 ta te)) σ H (· = Ls.mk (rngI m (n - m).toNat)) := fun H1 g Q q => h0 H1 g _ fun d0 v0 H2 e0 g2 r0 => h H2 (g.trans g2) _ fun d v H3 e g3 r => by
  subst e e0
  have ev : v = .int d := r
  have ev0 : v0 = .int d0 := r0
  subst ev ev0
  refine ⟨d0, d, rfl, rfl, ⟨by omega, by omega, by omega, by omega, by omega⟩, fun p hp => q _ p _ rfl ((g2.trans g3).trans (Gr.new hp)) ((g2.trans g3).back hp) (by rw [upd_same]; exact fun z => nomatch z) ⟨p, _, rfl, upd_same, ?_⟩⟩
  have e : rgV d0 d = (rngI d0 (d - d0).toNat).map V.int := by unfold rgV rngI; rw [List.map_map]; rfl
  rw [e]
  exact RL.map fun _ _ => rfl
/-- tuple(range(n)) -/
theorem ev_tupRg1 {n : Int} (h : Ev te σ H n) (hn : -100000 ≤ n ∧ n ≤ 100000) : Ev (tTupRg (tRg1 te)) σ H (rngI 0 n.toNat) := fun H1 g Q q => h H1 g _ fun d v H2 e g2 r => by
  subst e
  have ev : v = .int d := r
  subst ev
  refine ⟨d, rfl, ⟨by omega, by omega, by omega, by omega, by omega⟩, fun p hp => q _ _ _ rfl (g2.trans (Gr.new hp)) ⟨p, _, rfl, upd_same, ?_⟩⟩
  have e : rgV 0 d = (rngI 0 d.toNat).map V.int := by unfold rgV rngI; rw [List.map_map, Int.sub_zero]; rfl
  rw [e]
  exact RL.map fun _ _ => rfl
theorem edF_lstT [PyI α] {a : List α} (h : Ev te σ H a) : EdF (tCB (rLstOf K) (tCons te tNil)) σ H (· = Ls.mk a) := fun H1 g Q q => h H1 g _ fun d v H2 e g2 ⟨p, xs, ev, hp, r⟩ => by
  subst e
  exact ⟨p, xs, by rw [ev], .inr (.of hp), fun l hl => q _ l _ rfl (g2.trans (Gr.new hl)) (g2.back hl) (by rw [upd_same]; exact fun z => nomatch z) ⟨l, xs, rfl, upd_same, r.mono fun _ _ z => PyI.keep (TupK.new hl) z⟩⟩
theorem edF_lstL [PyI α] {a : List α} (h : Ev te σ H (Ls.mk a)) : EdF (tCB (rLstOf K) (tCons te tNil)) σ H (· = Ls.mk a) := fun H1 g Q q => h H1 g _ fun d v H2 e g2 ⟨p, xs, ev, hp, r⟩ => by
  subst e
  exact ⟨p, xs, by rw [ev], .inl (.of hp), fun l hl => q _ l _ rfl (g2.trans (Gr.new hl)) (g2.back hl) (by rw [upd_same]; exact fun z => nomatch z) ⟨l, xs, rfl, upd_same, r.mono fun _ _ z => PyI.keep (TupK.new hl) z⟩⟩
/-- comprehensions make new lists -/
theorem elF_gen [Py α] [PyI β] {wi : TI} {g : TG} {vs : List Nat} {ds : List α} (S : α → L2.St → Hp → Prop) (T : α → Bool → Prop) (E : α → β → Prop) (hs : Src wi σ H ds) (hz : ds.length ≤ 100000)
    (hg : ∀ d x H', Py.rep d x H' → ∀ Q : L2.St → Hp → Prop, (∀ σ2, wipe σ2 vs = wipe σ vs → S d σ2 H' → Q σ2 H') → g x (wipe σ vs) H' Q)
    (ht : ∀ d σ2 H', d ∈ ds → Gr H H' → S d σ2 H' → EdT tt σ2 H' (T d)) (he : ∀ d σ2 H', d ∈ ds → Gr H H' → S d σ2 H' → T d true → Ed te σ2 H' (E d)) :
    EdF (tLc wi g tt te vs) σ H (fun (l : Ls β) => Pk T E ds l.l) := by
  intro H1 g1 Q q
  refine hs H1 g1 _ fun J H2 g2 w D hD => ?_
  have gD : Gr H2 (upd H2 D (.lst [])) := Gr.new hD
  refine ⟨fun i m H' => m = ds.length - i ∧ i ≤ ds.length ∧ Gr H2 H' ∧ ∃ l xs, Pk T E (ds.take i) l ∧ H' D = some (.lst xs) ∧ RL (fun a x => PyI.rep a x H') l xs, ⟨ds.length, by simp, Nat.zero_le _, gD, [], [], .nil, upd_same, RL.nil⟩, ?_⟩
  rintro i m H3 ⟨rfl, hi, g3, l, xs, pk, hx, rx⟩
  by_cases hlt : i < ds.length
  · have hd : ds[i]? = some ds[i] := by simp [hlt]
    obtain ⟨hgo, hy⟩ := w.go H3 g3 i _ hd
    have hmem : ds[i] ∈ ds := List.getElem_mem hlt
    have htk : ds.take (i + 1) = ds.take i ++ [ds[i]] := by rw [List.take_add_one, hd]; rfl
    have hle : l.length ≤ 100000 := Nat.le_trans pk.le (by rw [List.length_take]; omega)
    refine .inr ⟨hgo, fun H' => i + 1 ≤ ds.length ∧ Gr H2 H' ∧ ∃ l xs, Pk T E (ds.take (i + 1)) l ∧ H' D = some (.lst xs) ∧ RL (fun a x => PyI.rep a x H') l xs, fun H' h => ⟨ds.length - (i + 1), by omega, rfl, h.1, h.2⟩, fun x H4 hyl => ?_⟩
    obtain ⟨g4, r4⟩ := hy x H4 hyl
    refine hg _ x H4 r4 _ fun σ2 hw hS => ⟨hw, ?_⟩
    have gH4 : Gr H H4 := ((g1.trans g2).trans g3).trans g4
    refine ht _ σ2 H4 hmem gH4 hS H4 (Gr.refl _) _ fun b H5 eb g5 => ?_
    cases b with
    | true =>
      refine he _ σ2 H4 hmem gH4 hS eb H5 g5 _ fun z y H6 ez g6 r6 => ?_
      have g36 : Gr H3 H6 := (g4.trans g5).trans g6
      have hp : TupK H6 (upd H6 D (.lst (xs ++ [y]))) := TupK.put (g36.lst hx) (fun _ z => nomatch z)
      refine ⟨xs, g36.lst hx, by rw [← rx.1]; exact Nat.lt_of_le_of_lt hle (by decide), hlt, (g3.trans g36).mut hD (g36.lst hx) (fun _ z => nomatch z), l ++ [z], xs ++ [y], by rw [htk]; exact .yes pk eb ez, upd_same, ?_⟩
      exact (rx.mono fun _ _ z => PyI.keep (g36.tup.trans hp) z).snoc (PyI.keep hp r6)
    | false => exact ⟨hlt, g3.trans (g4.trans g5), l, xs, by rw [htk]; exact .no pk eb, (g4.trans g5).lst hx, rx.mono fun _ _ z => PyI.keep (g4.trans g5).tup z⟩
  · have e : i = ds.length := by omega
    subst e
    rw [List.take_length] at pk
    exact .inl ⟨w.stop H3 g3, q (Ls.mk l) D H3 pk (g2.trans g3) (g2.back hD) (by rw [hx]; exact fun z => nomatch z) ⟨D, xs, rfl, hx, rx⟩⟩
theorem Pk.det {f : α → Bool} {v : α → β} {ds : List α} {l : List β} (h : Pk (fun d b => b = f d) (fun d x => x = v d) ds l) : l = (ds.filter f).map v := by
  induction h with
  | nil => rfl
  | yes _ t e ih => rw [List.filter_append, List.map_append, ← ih, List.filter_cons, if_pos t.symm, e]; rfl
  | no _ t ih => rw [List.filter_append, List.map_append, ← ih, List.filter_cons, if_neg (by rw [← t]; decide)]; simp
theorem elF_lcN [Py α] [PyI β] {wi : TI} {j : Nat} {vs : List Nat} {ds : List α} {f : α → Bool} {v : α → β} (hs : Src wi σ H ds) (hz : ds.length ≤ 100000) (hw : ∀ x, wipe ((wipe σ vs).set j (some x)) vs = wipe σ vs)
    (ht : ∀ d x H', d ∈ ds → Gr H H' → Py.rep d x H' → EvT tt ((wipe σ vs).set j (some x)) H' (f d)) (he : ∀ d x H', d ∈ ds → Gr H H' → Py.rep d x H' → f d = true → Ev te ((wipe σ vs).set j (some x)) H' (v d)) :
    EdF (tLc wi (gName j) tt te vs) σ H (· = Ls.mk ((ds.filter f).map v)) :=
  (elF_gen (SlotN (wipe σ vs) j) (fun d b => b = f d) (fun d x => x = v d) hs hz (fun d x H' r Q q => q _ (hw x) ⟨x, rfl, r⟩) (fun d σ2 H' m g ⟨x, e, r⟩ => by subst e; exact ht d x H' m g r) (fun d σ2 H' m g ⟨x, e, r⟩ hf => by subst e; exact he d x H' m g r hf.symm)).imp fun l p => by rw [← p.det]
end
end Zw
/-! Z20: dicts with ints for keys. -/
namespace Zw
open PySem L2 RZ PySem.Spec PyProof.Rows SrtO
section
variable {K : PySem.W.Frag} {σ : L2.St} {H H0 Hb H' : Hp} {ta tb tc te tj tl ty tv td : TE} {tt : TT} {tz tu : TS} {D : Ends} {g : TG} {α β γ : Type}
theorem lkI_some [PyI β] {k : Int} {kv : List (Int × β)} {kvs : List (Key × V)} (r : PL (KRI H) kv kvs) : (valV kvs (Sum.inl k)).isSome = (lkD kv k).isSome := by
  have l := lk_KRI (k := k) r
  cases q : lkD kv k with
  | none => rw [q] at l; rw [l]; rfl
  | some z => rw [q] at l; obtain ⟨v, hv, _⟩ := l; rw [hv]; rfl
theorem ev_inDI [PyI β] {k : Int} {d : DI β} (hk : Ev ty σ H k) (hd : Ev td σ H d) : Ev (tDIn ty td) σ H (decide (k ∈ keysD d.kv)) := fun H1 g Q q => hk H1 g _ fun k' y H2 e g2 ry => hd H2 (g.trans g2) _ fun d' x H3 e' g3 ⟨p, kvs, ep, hp, no, r⟩ => by
  subst e e'
  have ey : y = .int k' := ry
  subst ep ey
  refine ⟨p, _, rfl, DGet.k (k := Sum.inl k') hp, ?_⟩
  rw [lkI_some r, lkD_isSome]
  exact q _ _ H3 rfl (g2.trans g3) rfl
theorem ev_notInDI [PyI β] {k : Int} {d : DI β} (hk : Ev ty σ H k) (hd : Ev td σ H d) : Ev (tDNotIn ty td) σ H (!decide (k ∈ keysD d.kv)) := fun H1 g Q q => hk H1 g _ fun k' y H2 e g2 ry => hd H2 (g.trans g2) _ fun d' x H3 e' g3 ⟨p, kvs, ep, hp, no, r⟩ => by
  subst e e'
  have ey : y = .int k' := ry
  subst ep ey
  refine ⟨p, _, rfl, DGet.k (k := Sum.inl k') hp, ?_⟩
  rw [lkI_some r, lkD_isSome]
  exact q _ _ H3 rfl (g2.trans g3) rfl
theorem ev_getDI [PyI β] {k : Int} {d : DI β} {b : β} (hd : Ev td σ H d) (hk : Ev ty σ H k) (hl : lkD d.kv k = some b) : Ev (tDGet td ty) σ H b := fun H1 g Q q => hd H1 g _ fun d' x H2 e g2 rd => hk H2 (g.trans g2) _ fun k' y H3 e' g3 ry => by
  obtain ⟨p, kvs, ep, hp, no, r⟩ := Py.mono g3 rd
  subst e e'
  have ey : y = .int k' := ry
  subst ep ey
  have l := lk_KRI (k := k') r
  rw [hl] at l
  obtain ⟨v, hv, rv⟩ := l
  exact ⟨p, v, rfl, by have := DGet.k (k := Sum.inl k') hp; rw [hv] at this; exact this, q _ v H3 rfl (g2.trans g3) rv⟩
theorem s_putDI [PyI β] {p : Addr} {i : Nat} {kv : List (Int × β)} {Pk : Int → Prop} {Pv : β → Prop} (hp : Py.rep (DI.mk kv) (.ref p) H) (hi : σ[i]? = some (some (.ref p))) (hk : Ed ty σ H Pk) (hv : Ed tv σ H Pv) (hz : kv.length < 100000)
    (kk : ∀ k b H2, Pk k → Pv b → Mu p H H2 → Py.rep (DI.mk (putD kv k b)) (.ref p) H2 → D.nx σ H2) : sDPut (tVar i) ty tv D σ H := by
  refine hv H (Gr.refl H) _ fun b y H1 pb g1 ry => ⟨_, hi, ?_⟩
  refine hk H1 g1 _ fun k z H2 pk g2 rz => ?_
  obtain ⟨p', kvs, e, hp', no, r⟩ := Py.mono (g1.trans g2) hp
  cases e
  have ez : z = .int k := rz
  subst ez
  have hzl : kvs.length < sizeLine := by rw [← r.1]; exact Nat.lt_of_lt_of_le hz (by decide)
  refine ⟨p, _, rfl, DPut.k (k := Sum.inl k) (v := y) hp' hzl, ?_⟩
  have tk : TupK H2 (upd H2 p (.dK (putK kvs (Sum.inl k) y))) := TupK.put hp' (fun _ z => nomatch z)
  refine kk k b _ pk pb ⟨H2, _, _, g1.trans g2, hp', (fun _ z => nomatch z), (by intro _ _ _ _ _ z; cases z), rfl⟩ ⟨p, _, rfl, upd_same, (fun ⟨a, C, dx, r, t, e⟩ => no ⟨a, C, dx, r, t, by rw [upd_ne (fun z => by rw [z, upd_same] at e; cases e)] at e; exact e⟩), (put_KRI (Py.mono g2 ry) r).mono fun _ _ z => z.keep tk⟩
theorem q_putDI [PyI β] {p : Addr} {i : Nat} {kv : List (Int × β)} {Pk : Int → Prop} {Pv : β → Prop} (hp : Py.rep (DI.mk kv) (.ref p) H) (hi : σ[i]? = some (some (.ref p))) (hk : Ed ty σ H Pk) (hv : Ed tv σ H Pv) (hz : kv.length < 100000)
    (kk : ∀ k b H2, Pk k → Pv b → Mu p H H2 → Py.rep (DI.mk (putD kv k b)) (.ref p) H2 → tz D σ H2) : tSeq (sDPut (tVar i) ty tv) tz D σ H := s_putDI (D := { D with nx := tz D }) hp hi hk hv hz kk
theorem Mu.dI [PyI β] {l p : Addr} {H2 : Hp} {d : List (Int × β)} (m : Mu l H H2) (ne : p ≠ l) (r : Py.rep (DI.mk d) (.ref p) H) : Py.rep (DI.mk d) (.ref p) H2 := by
  obtain ⟨H1, o, u, g1, hl, hn, no, rfl⟩ := m
  have tk : TupK H1 (upd H1 l o) := TupK.put hl hn
  obtain ⟨q, kvs, e, hq, nw, rr⟩ := Py.mono g1 r
  cases e
  exact ⟨p, kvs, rfl, by rw [upd_ne ne]; exact hq, (fun ⟨a, C, dx, r, t, e⟩ => nw ⟨a, C, dx, r, t, by
    by_cases z : a = l
    · rw [z, upd_same] at e; cases e; exact absurd rfl (no C dx r t p)
    · rw [upd_ne z] at e; exact e⟩), rr.mono fun _ _ z => z.keep tk⟩
theorem keysI_RL [PyI β] {kv : List (Int × β)} {kvs : List (Key × V)} (r : PL (KRI H) kv kvs) : RL (fun (d : Int) x => PyI.rep d x H') (keysD kv) (kvs.map fun kv => kV kv.1) := by
  refine ⟨by unfold keysD; rw [List.length_map, List.length_map, r.1], fun i d x h h' => ?_⟩
  unfold keysD at h
  rw [List.getElem?_map] at h h'
  cases e : kv[i]? with
  | none => rw [e] at h; cases h
  | some p =>
    cases e' : kvs[i]? with
    | none => rw [e'] at h'; cases h'
    | some q =>
      rw [e] at h; rw [e'] at h'
      cases h; cases h'
      have e1 := (r.2 i p q e e').1
      show kV q.1 = V.int p.1
      rw [e1]; rfl
theorem ev_sortedDI [PyI β] {d : DI β} (h : Ev te σ H d) : Ev (tCB rSortedG (tCons te tNil)) σ H (Ls.mk (sortO (keysD d.kv))) := ev_sortedC (α := Int) (γ := DI β) (ds := keysD d.kv) h (fun v H' r0 => by obtain ⟨p, kvs, e, hp, no, r⟩ := r0; exact ⟨p, e, Coll.dK hp (keysI_RL r)⟩) (fun _ _ => trivial)
/-- Ms for whatever stands at t -/
theorem Ms.gr' {t : Addr} {u : HO} (g : Gr H H') (ht : H t = some u) (hc : ¬ Chg u) (hu : NotH u) (ht2 : ∀ xs, u ≠ .tup xs) : Ms t H H' := fun o n n2 => by
  have ht' := g.at ht hc
  refine ⟨fun a w ha => ?_, fun nn => (g.neat ⟨fun p C dx r t' l hp => ?_, fun p p' C C' dx dx' r r' t1 t2 l hp hp' => ?_⟩).put n, fun p C dx r t' l hp hl => ?_⟩
  · by_cases e : a = t
    · subst e; rw [upd_same] at ha ⊢; exact .inl ha
    · rw [upd_ne e] at ha ⊢
      rcases g.old a w ha with z | ⟨c, ⟨p0, C0, dx0, r0, t0, e0⟩, v, ns, z, r, ow⟩
      · exact .inl z
      · refine .inr ⟨c, ⟨p0, C0, dx0, r0, t0, by rw [upd_ne (fun q => by rw [q, ht] at e0; cases e0; exact hu _ _ _ _ _ rfl)]; exact e0⟩, v, ns, z, PyI.keep (TupK.put ht' ht2) r, fun p C dx r' t' ds hp hd => ?_⟩
        have pt : p ≠ t := fun e => by subst e; rw [upd_same] at hp; cases hp; exact n _ _ _ _ _ rfl
        rw [upd_ne pt] at hp
        refine ow p C dx r' t' ds hp (PyI.keep (fun b ys hb => ?_) hd)
        by_cases e : b = t
        · subst e; rw [upd_same] at hb; cases hb; exact absurd rfl (n2 ys)
        · rw [upd_ne e] at hb; exact hb
  · have pt : p ≠ t := fun e => by subst e; rw [ht] at hp; cases hp; exact hu _ _ _ _ _ rfl
    have h1 := nn.1 p C dx r t' l (by rw [upd_ne pt]; exact hp)
    by_cases e : l = t
    · subst e; rw [ht]; exact fun z => nomatch z
    · rw [upd_ne e] at h1; exact h1
  · have pt : p ≠ t := fun e => by subst e; rw [ht] at hp; cases hp; exact hu _ _ _ _ _ rfl
    have pt' : p' ≠ t := fun e => by subst e; rw [ht] at hp'; cases hp'; exact hu _ _ _ _ _ rfl
    exact nn.2 p p' C C' dx dx' r r' t1 t2 l (by rw [upd_ne pt]; exact hp) (by rw [upd_ne pt']; exact hp')
  · have pt : p ≠ t := fun e => by subst e; rw [upd_same] at hp; cases hp; exact n _ _ _ _ _ rfl
    rw [upd_ne pt] at hp ⊢
    refine g.newH p C dx r t' l hp ?_
    by_cases e : l = t
    · subst e; rw [ht]; exact fun z => nomatch z
    · rw [upd_ne e] at hl; exact hl
/-- [e for j in d if t], d a dict of ints: what is read of the heap but d must be data that never changes -/
theorem el_lcD [PyI β] [PyI γ] {i j : Nat} {vs : List Nat} {p : Addr} {kv : List (Int × β)} {f : Int → Bool} {v : Int → γ} (hi : σ[i]? = some (some (.ref p))) (hp : Py.rep (DI.mk kv) (.ref p) H) (hz : kv.length ≤ 100000) (hw : ∀ x, wipe ((wipe σ vs).set j (some x)) vs = wipe σ vs)
    (ht : ∀ d H', d ∈ keysD kv → TupK H H' → EvT tt ((wipe σ vs).set j (some (.int d))) H' (f d)) (he : ∀ d H', d ∈ keysD kv → TupK H H' → f d = true → Ev te ((wipe σ vs).set j (some (.int d))) H' (v d)) :
    Ev (tLockE (tLc (iKeys (tVar i)) (gName j) tt te vs)) σ H (Ls.mk (((keysD kv).filter f).map v)) := fun H1 g1 Q q => by
  obtain ⟨p', kvs, e, hH, no, r⟩ := Py.mono g1 hp
  cases e
  refine ⟨p, .dK kvs, hH, trivial, fun od => ?_⟩
  have tk0 : TupK H1 (upd H1 p (.frz od (.dK kvs))) := TupK.put hH (fun _ z => nomatch z)
  have hlen : (keysD kv).length = kvs.length := by unfold keysD; rw [List.length_map]; exact r.1
  refine ⟨.ref p, hi, p, od, rfl, .inl ⟨kvs, upd_same, ?_⟩⟩
  have main := elF_gen (te := te) (tt := tt) (σ := σ) (H := upd H1 p (.frz od (.dK kvs))) (wi := fun _ H R => R (Itk p od kvs) H) (g := gName j) (vs := vs) (ds := keysD kv) (α := Int) (β := γ) (SlotN (wipe σ vs) j) (fun d b => b = f d) (fun d x => x = v d)
    (fun H2 g2 R rr => rr _ H2 (Gr.refl H2) ⟨fun H3 g3 => ⟨(g2.trans g3).at upd_same (fun z => nomatch z), by rw [hlen]; exact Nat.le_refl _⟩, fun H3 g3 n d hd => by
      have hn := (List.getElem?_eq_some_iff.mp hd).1
      rw [hlen] at hn
      refine ⟨⟨(g2.trans g3).at upd_same (fun z => nomatch z), hn⟩, fun x H4 ⟨e4, k, w, hk, ex⟩ => ?_⟩
      subst e4 ex
      refine ⟨Gr.refl _, ?_⟩
      have hx : (kvs.map fun kv => kV kv.1)[n]? = some (kV k) := by rw [List.getElem?_map, hk]; rfl
      exact (keysI_RL (H' := H4) r).2 n d _ hd hx⟩)
    (by rw [hlen, ← r.1]; exact hz) (fun d x H' rx Q q => q _ (hw x) ⟨x, rfl, rx⟩)
    (fun d σ2 H' m gg ⟨x, e, rx⟩ => by subst e; have ex : x = .int d := rx; subst ex; exact ht d H' m (g1.tup.trans (tk0.trans gg.tup)))
    (fun d σ2 H' m gg ⟨x, e, rx⟩ hf => by subst e; have ex : x = .int d := rx; subst ex; exact he d H' m (g1.tup.trans (tk0.trans gg.tup)) hf.symm)
  refine main _ (Gr.refl _) (fun v H' => H' p = some (.frz od (.dK kvs)) ∧ Q v (upd H' p (.dK kvs))) fun l a H2 pk g2 ha _ rl => ?_
  have hfz := g2.at (a := p) (o := .frz od (.dK kvs)) upd_same (fun z => nomatch z)
  refine ⟨hfz, ?_⟩
  have ms := Ms.gr' g2 (t := p) upd_same (fun z => nomatch z) (by intro _ _ _ _ _ z; cases z) (by intro _ z; cases z) (.dK kvs) (by intro _ _ _ _ _ z; cases z) (by intro _ z; cases z)
  rw [upd_upd, upd_back hH] at ms
  refine q _ _ _ rfl ms ?_
  obtain ⟨a', xs, e, hx, rx⟩ := rl
  cases e
  have hap : a ≠ p := fun z => by rw [z, hfz] at hx; cases hx
  rw [pk.det] at rx
  exact ⟨a, xs, rfl, by rw [upd_ne hap]; exact hx, rx.mono fun _ _ z => PyI.keep (TupK.put hfz (fun _ z => nomatch z)) z⟩
end
end Zw
/-! Z21: xs.extend(t), t a tuple; x in xs of ints; max of a list. -/
namespace Zw
open PySem L2 RZ PySem.Spec PyProof.Rows SrtO PySem.AutoSeq1
theorem extend_tup (l : Addr) (xs : Array Value) (n : Nat) (b : Addr) (ys : Array Value) (k : Nat) (dd : Option Addr) (sl : Array (Option Value)) (few : ¬(!xs.isEmpty && Builtin.List.listTooLong (xs.size + ys.size)) = true) (z1 : xs.size ≤ sizeLine) (z2 : xs.size + ys.size ≤ sizeLine + 1) :
    Meets (Builtin.«list.extend» ⟨[.ref l, .ref b], []⟩) (fun _ R s => s.heap.get? l = some { cls := .type "list", dict := none, data := .seq xs n, slots := #[] } ∧
      s.heap.get? b = some { cls := .type "tuple", dict := dd, data := .seq ys k, slots := sl } ∧ R (.ok (.ret .none)) { s with heap := s.heap.update l (Obj.mapSeq fun x => x ++ ys), toks := s.toks }) :=
  .of_wp fun prog w A R s h => by
    obtain ⟨h0, g, dr, tk, os⟩ := s
    obtain ⟨hl, hb, h⟩ := h
    have f1 := idx_int
    have f2 := AutoSeq1.sub_tuple_tuple
    have f3 := AutoSeq1.sub_list_list
    have f4 := AutoSeq1.sub_tuple_list
    have f5 := AutoSeq1.sub_list_tuple
    have z3 : (xs ++ ys).size ≤ sizeLine + 1 := by
      rw [Array.size_append]
      exact z2
    wp_walk using (wpAny_updateSeq hl rfl (hz := z1) (_hz' := z3)), wpAny_loadPart' hl, wpAny_loadPart' hb
    exact ⟨_, rfl, h⟩
/-- a list, or a tuple -/
def rExtT (K : PySem.W.Frag) : V → List V → Hp → VK → Prop := fun x vs H Q => ∃ l b xs zs, x = .ref l ∧ vs = [.ref b] ∧ H l = some (.lst xs) ∧ SqT K H b zs ∧ xs.length + zs.length ≤ sizeLine ∧ Q .non (upd H l (.lst (xs ++ zs)))
theorem mt_extT {X : Cx} : MtR X "list.extend" (rExtT X.K) := by
  intro pins s σ H x vs v us Q I rx rv h
  obtain ⟨l, b, xs, zs, rfl, rfl, hH, hB, hz, q⟩ := h
  cases rx
  obtain ⟨u, rfl, ru⟩ := rv.one
  cases ru
  obtain ⟨z, its, n, r, hl, e⟩ := I.lstM hH
  obtain ⟨its2, r2, ⟨⟨cls, dd, data, sl⟩, e2, hc, n2, hd⟩, hz2⟩ := I.tuple hB
  simp only at hc hd
  subst hc hd
  have hl2 := r2.length
  have hsz : its.toArray.size + its2.toArray.size ≤ sizeLine := by
    rw [List.size_toArray, List.size_toArray]
    omega
  have hlong : ¬ (!its.toArray.isEmpty && Builtin.List.listTooLong (its.toArray.size + its2.toArray.size)) = true := by
    rw [notLongL hsz, Bool.and_false]
    decide
  refine call_meets F.slot_list_extend ⟨_, e, rfl⟩ F.entry_list_extend (F.args_list_extend_2 _ _) (extend_tup l its.toArray n b its2.toArray n2 dd sl hlong (by rw [List.size_toArray]; omega) (by omega)) ⟨e, e2, ?_⟩
  refine ⟨.non, _, I.lset (its' := its ++ its2) hH e (by simp) (r.append r2) (by rw [List.length_append]; omega), rfl, q⟩
theorem k_extT {X : Cx} {K : PySem.W.Frag} (h : X.K = K) : MtR X "list.extend" (rExtT K) := h ▸ mt_extT
section
variable {K : PySem.W.Frag} {σ : L2.St} {H H0 Hb H' : Hp} {ta tb tc te tj tl ty tv td : TE} {tt : TT} {tz tu : TS} {D : Ends} {g : TG} {α β γ : Type}
theorem s_extT [PyI α] {l : Addr} {i : Nat} {ds es : List α} (hl : Py.rep (Ls.mk ds) (.ref l) H) (ha : σ[i]? = some (some (.ref l))) (h : Ev te σ H es) (hz : ds.length + es.length ≤ 100000) (k : ∀ H2, Mu l H H2 → Py.rep (Ls.mk (ds ++ es)) (.ref l) H2 → D.nx σ H2) :
    tDrop (tBM K "list" (rExtT K) (tVar i) (tCons te tNil)) D σ H := by
  obtain ⟨q, xs, e, hq, rr⟩ := hl
  cases e
  refine ⟨_, ha, .inl ⟨rfl, xs, .of hq⟩, ?_⟩
  refine h H (Gr.refl H) _ fun d v H1 p g ⟨b, ys, ev, hb, rb⟩ => ⟨l, b, xs, ys, rfl, by rw [ev], g.lst hq, .inl (.inl hb), by rw [← rr.1, ← rb.1, p]; exact Nat.le_trans hz (by decide), ?_⟩
  subst p
  exact k _ (mu_of g (g.lst hq)) (ls_put (g.lst hq) ((rr.mono fun _ _ z => PyI.keep g.tup z).append rb))
theorem q_extT [PyI α] {l : Addr} {i : Nat} {ds es : List α} (hl : Py.rep (Ls.mk ds) (.ref l) H) (ha : σ[i]? = some (some (.ref l))) (h : Ev te σ H es) (hz : ds.length + es.length ≤ 100000) (k : ∀ H2, Mu l H H2 → Py.rep (Ls.mk (ds ++ es)) (.ref l) H2 → tz D σ H2) :
    tSeq (tDrop (tBM K "list" (rExtT K) (tVar i) (tCons te tNil))) tz D σ H := s_extT (D := { D with nx := tz D }) hl ha h hz k
theorem inV_ints {i : Int} : ∀ l : List Int, inV (.int i) (l.map V.int) = decide (i ∈ l)
  | [] => rfl
  | a :: l => by
    have e : eqV (.int a) (.int i) = decide (i = a) := by
      show (a == i) = _
      rw [Bool.eq_iff_iff]
      simp
      exact eq_comm
    have ih := inV_ints l (i := i)
    unfold inV at ih ⊢
    rw [List.map_cons, List.any_cons, ih, e]
    simp
theorem flat_ints : ∀ l : List Int, (l.map V.int).all flatV = true
  | [] => rfl
  | a :: l => by rw [List.map_cons, List.all_cons, flat_ints l]; rfl
/-- x in xs, x not in xs: ints -/
theorem ev_inIL {i : Int} {l : List Int} {neg : Bool} (ha : Ev ta σ H i) (hb : Ev tb σ H (Ls.mk l)) : Ev (tOp (rIn K neg) ta tb) σ H (neg ^^ decide (i ∈ l)) := ev_op ha hb fun x y H rx ⟨p, xs, e, hp, rl⟩ Q q => by
  have ex : x = .int i := rx
  have es := RL.eq_map (f := V.int) rl
  subst ex es
  refine ⟨p, _, e, .inl (.of hp), rfl, flat_ints l, ?_⟩
  rw [inV_ints]
  cases neg <;> simpa using q _ _ H rfl (Gr.refl H) rfl
theorem ev_inIT {i : Int} {l : List Int} {neg : Bool} (ha : Ev ta σ H i) (hb : Ev tb σ H l) : Ev (tOp (rIn K neg) ta tb) σ H (neg ^^ decide (i ∈ l)) := ev_op ha hb fun x y H rx ⟨p, xs, e, hp, rl⟩ Q q => by
  have ex : x = .int i := rx
  have es := RL.eq_map (f := V.int) rl
  subst ex es
  refine ⟨p, _, e, .inr (.inl (.inl hp)), rfl, flat_ints l, ?_⟩
  rw [inV_ints]
  cases neg <;> simpa using q _ _ H rfl (Gr.refl H) rfl
/-- max of a list of ints -/
theorem ed_maxL {l : List Int} (h : Ev te σ H (Ls.mk l)) (hl : 0 < l.length) : Ed (tCB (rMax K) (tCons te tNil)) σ H (fun (m : Int) => m ∈ l ∧ ∀ y ∈ l, y ≤ m) := fun H1 g Q q => h H1 g _ fun d v H2 e g2 ⟨p, xs, ev, hp, rl⟩ => by
  subst e
  have es := RL.eq_map (f := V.int) rl
  subst es
  exact ⟨p, l, by rw [ev], .inl (.inl hp), hl, fun m hm hy => q m _ H2 ⟨hm, hy⟩ g2 rfl⟩
theorem max_uniq {l : List Int} {m m' : Int} (h : m ∈ l ∧ ∀ y ∈ l, y ≤ m) (h' : m' ∈ l ∧ ∀ y ∈ l, y ≤ m') : m = m' := by
  have a := h.2 _ h'.1
  have b := h'.2 _ h.1
  omega
end
end Zw
/-! Z22: xs.append(ys.pop(k)); lists of lists; loops of drawn length. -/
namespace Zw
open PySem L2 RZ PySem.Spec PyProof.Rows SrtO
section
variable {K : PySem.W.Frag} {σ : L2.St} {H H0 Hb H' : Hp} {ta tb tc te tj tl ty tv td : TE} {tt : TT} {tz tu : TS} {D : Ends} {g : TG} {α β γ : Type}
theorem s_appPop [PyI α] {l m : Addr} {i j : Nat} {ds es : List α} {P : Int → Prop} (hl : Py.rep (Ls.mk ds) (.ref l) H) (hm : Py.rep (Ls.mk es) (.ref m) H) (ne : l ≠ m) (ha : σ[i]? = some (some (.ref l))) (hb : σ[j]? = some (some (.ref m))) (h : Ed te σ H P) (hP : ∀ k, P k → 0 ≤ k ∧ k < es.length) (hz : ds.length < 100000) (hz2 : es.length ≤ 100000)
    (k : ∀ (n : Nat) d H2, es[n]? = some d → (∀ Hb, Gr Hb H → Hb l = none → Hb m = none → Gr Hb H2) → TupK H H2 → Py.rep (Ls.mk (ds ++ [d])) (.ref l) H2 → Py.rep (Ls.mk (es.eraseIdx n)) (.ref m) H2 → D.nx σ H2) :
    tDrop (tBM K "list" rAppend (tVar i) (tCons (tBM K "list" rPopAt (tVar j) (tCons te tNil)) tNil)) D σ H := by
  obtain ⟨l', xs, e, hxs, rx⟩ := hl
  cases e
  obtain ⟨m', ys, e, hys, ry⟩ := hm
  cases e
  refine ⟨_, ha, .inl ⟨rfl, xs, .of hxs⟩, _, hb, .inl ⟨rfl, ys, .of hys⟩, ?_⟩
  refine h H (Gr.refl H) _ fun c v H1 pc g1 rc => ?_
  obtain ⟨c0, c1⟩ := hP c pc
  have ec : v = .int c := rc
  subst ec
  have hlt : c.toNat < es.length := by omega
  have hd : es[c.toNat]? = some es[c.toNat] := by simp [hlt]
  obtain ⟨y, hy, rd⟩ := ry.get hd
  have hix : ixN ys.length c = some c.toNat := by
    unfold ixN
    rw [if_pos c0, if_pos (by rw [← ry.1]; exact c1)]
  have g1m := g1.lst hys
  have g1l := g1.lst hxs
  refine ⟨m, ys, c, c.toNat, y, rfl, rfl, g1m, by omega, by omega, (ixN_seq hix).1, hy, ?_⟩
  have t1 : TupK H1 (upd H1 m (.lst (ys.eraseIdx c.toNat))) := TupK.put g1m (fun _ z => nomatch z)
  have hl2 : (upd H1 m (.lst (ys.eraseIdx c.toNat))) l = some (.lst xs) := by rw [upd_ne ne]; exact g1l
  have t2 : TupK (upd H1 m (.lst (ys.eraseIdx c.toNat))) (upd (upd H1 m (.lst (ys.eraseIdx c.toNat))) l (.lst (xs ++ [y]))) := TupK.put hl2 (fun _ z => nomatch z)
  refine ⟨l, xs, y, rfl, rfl, hl2, by rw [← rx.1]; exact Nat.lt_of_lt_of_le hz (by decide), ?_⟩
  have tt := (g1.tup.trans t1).trans t2
  refine k c.toNat _ _ hd (fun Hb gb b1 b2 => ((gb.trans g1).mut b2 g1m (fun _ z => nomatch z)).mut b1 hl2 (fun _ z => nomatch z)) tt ⟨l, _, rfl, upd_same, ?_⟩ ⟨m, _, rfl, by rw [upd_ne (Ne.symm ne)]; exact upd_same, ?_⟩
  · exact (rx.mono fun _ _ z => PyI.keep tt z).snoc (PyI.keep tt rd)
  · exact (RL.erase _ ry).mono fun _ _ z => PyI.keep tt z
theorem q_appPop [PyI α] {l m : Addr} {i j : Nat} {ds es : List α} {P : Int → Prop} (hl : Py.rep (Ls.mk ds) (.ref l) H) (hm : Py.rep (Ls.mk es) (.ref m) H) (ne : l ≠ m) (ha : σ[i]? = some (some (.ref l))) (hb : σ[j]? = some (some (.ref m))) (h : Ed te σ H P) (hP : ∀ k, P k → 0 ≤ k ∧ k < es.length) (hz : ds.length < 100000) (hz2 : es.length ≤ 100000)
    (k : ∀ (n : Nat) d H2, es[n]? = some d → (∀ Hb, Gr Hb H → Hb l = none → Hb m = none → Gr Hb H2) → TupK H H2 → Py.rep (Ls.mk (ds ++ [d])) (.ref l) H2 → Py.rep (Ls.mk (es.eraseIdx n)) (.ref m) H2 → tz D σ H2) :
    tSeq (tDrop (tBM K "list" rAppend (tVar i) (tCons (tBM K "list" rPopAt (tVar j) (tCons te tNil)) tNil))) tz D σ H := s_appPop (D := { D with nx := tz D }) hl hm ne ha hb h hP hz hz2 k
theorem perm_pop {l : List α} {d : α} {n : Nat} (h : l[n]? = some d) : (d :: l.eraseIdx n).Perm l := by
  induction l generalizing n with
  | nil => simp at h
  | cons a l ih =>
    cases n with
    | zero => simp at h; subst h; exact List.Perm.refl _
    | succ n =>
      simp at h
      rw [List.eraseIdx_cons_succ]
      exact (List.Perm.swap a d _).trans ((ih h).cons a)
theorem q_parEN [Py α] [Py β] {i j : Nat} {P : α → Prop} {P' : β → Prop} (h : Ed ta σ H P) (h' : EdF tb σ H P') (k : ∀ a v b q H1 H2, P a → P' b → Gr H H1 → Py.rep a v H1 → H1 q = none → Gr H1 H2 → Py.rep b (.ref q) H2 → tz D ((σ.set i (some v)).set j (some (.ref q))) H2) : tSeq (tPar i j (tCons ta (tCons tb tNil))) tz D σ H :=
  h H (Gr.refl H) _ fun a v H1 p e r => h' H1 e _ fun b q H2 p' e2 hq _ r' => ⟨v, .ref q, rfl, k a v b q H1 H2 p p' e r hq e2 r'⟩
/-- for .. in range(e), e drawn -/
theorem s_forRng {P : Int → Prop} (h : Ed te σ H P) (k : ∀ n H', P n → Gr H H' → tFor (iRng1 (tCons (tC (.int n)) tNil)) g tu D σ H') : tFor (iRng1 (tCons te tNil)) g tu D σ H := h H (Gr.refl H) _ fun d v H1 p g1 r => by
  have e : v = .int d := r
  subst e
  exact k d H1 p g1
theorem q_forRng {P : Int → Prop} (h : Ed te σ H P) (k : ∀ n H', P n → Gr H H' → tSeq (tFor (iRng1 (tCons (tC (.int n)) tNil)) g tu) tz D σ H') : tSeq (tFor (iRng1 (tCons te tNil)) g tu) tz D σ H := s_forRng (D := { D with nx := tz D }) h k
theorem ed_tup2 {Pa Pb : Int → Prop} (h : Ed ta σ H Pa) (h' : Ed tb σ H Pb) : Ed (tTup (tCons ta (tCons tb tNil))) σ H (fun (l : List Int) => ∃ a b, l = [a, b] ∧ Pa a ∧ Pb b) := fun H1 e Q q =>
  ea_2 h h' H1 e _ fun vs H2 e2 ⟨v, w, d, d', ev, p, p', r, r'⟩ => by
    subst ev
    exact ⟨by show 2 ≤ sizeLine; decide, fun p0 hp => q [d, d'] _ _ ⟨d, d', rfl, p, p'⟩ (e2.trans (Gr.new hp)) ⟨p0, [v, w], rfl, upd_same, (RL.cons (Py.mono (Gr.new hp) r) (RL.cons (Py.mono (Gr.new hp) r') RL.nil))⟩⟩
theorem list2_pair {a b : Int} {v : V} {H : Hp} (h : Py.rep [a, b] v H) : Py.rep (a, b) v H := by
  obtain ⟨p, xs, e, hp, r⟩ := h
  obtain ⟨x, xs', rfl, r1, t⟩ := r.uncons
  obtain ⟨y, ys, rfl, r2, t2⟩ := t.uncons
  rw [t2.nil_inv] at hp
  exact ⟨p, x, y, e, hp, r1, r2⟩
/-- [list(..) for j in ..]: a list of new lists -/
theorem el_nestF [PyI α] [Py β] {wi : TI} {j : Nat} {vs : List Nat} {ds : List β} {v : β → List α} (hs : Src wi σ H ds) (hz : ds.length ≤ 100000) (hw : ∀ x, wipe ((wipe σ vs).set j (some x)) vs = wipe σ vs)
    (he : ∀ d x H', d ∈ ds → Gr H H' → Py.rep d x H' → EdF te ((wipe σ vs).set j (some x)) H' (· = Ls.mk (v d))) : EdF (tLc wi (gName j) tYes te vs) σ H (· = Ls.mk (ds.map fun d => Ls.mk (v d))) := by
  intro H1 g1 Q q
  refine hs H1 g1 _ fun J H2 g2 w A hA => ?_
  have gD : Gr H2 (upd H2 A (.lst [])) := Gr.new hA
  have hA0 : H1 A = none := g2.back hA
  refine ⟨fun i m H' => m = ds.length - i ∧ i ≤ ds.length ∧ Gr H2 H' ∧ ∃ as, Nest (α := α) H1 H' A as ((ds.take i).map v), ⟨ds.length, by simp, Nat.zero_le _, gD, [], ⟨upd_same, hA0, rfl, fun i a vs h => by simp at h, List.nodup_nil⟩⟩, ?_⟩
  rintro i m H3 ⟨rfl, hi, g3, as, N⟩
  by_cases hlt : i < ds.length
  · have hd : ds[i]? = some ds[i] := by simp [hlt]
    obtain ⟨hgo, hy⟩ := w.go H3 g3 i _ hd
    have hmem : ds[i] ∈ ds := List.getElem_mem hlt
    have htk : ds.take (i + 1) = ds.take i ++ [ds[i]] := by rw [List.take_add_one, hd]; rfl
    refine .inr ⟨hgo, fun H' => i + 1 ≤ ds.length ∧ Gr H2 H' ∧ ∃ as, Nest (α := α) H1 H' A as ((ds.take (i + 1)).map v), fun H' h => ⟨ds.length - (i + 1), by omega, rfl, h.1, h.2⟩, fun x H4 hyl => ?_⟩
    obtain ⟨g4, r4⟩ := hy x H4 hyl
    refine ⟨hw x, ?_⟩
    unfold tYes
    have gH4 : Gr H H4 := ((g1.trans g2).trans g3).trans g4
    have main := he _ x H4 hmem gH4 r4 H4 (Gr.refl _) (fun y H5 => ∃ acc, H5 A = some (.lst acc) ∧ acc.length < sizeLine ∧ (i + 1 ≤ ds.length ∧ Gr H2 (upd H5 A (.lst (acc ++ [y]))) ∧ ∃ as, Nest (α := α) H1 (upd H5 A (.lst (acc ++ [y]))) A as ((ds.take (i + 1)).map v))) fun d a H5 ed g5 ha ha2 r5 => ?_
    · simpa using main
    · subst ed
      have N5 := N.gr (g4.trans g5)
      have hl := N.len
      rw [List.length_map, List.length_take] at hl
      have aA : a ≠ A := fun e => by rw [e, (N.gr g4).out] at ha; cases ha
      obtain ⟨a', xs, e, hxs, rxs⟩ := r5
      cases e
      have tk : TupK H5 (upd H5 A (.lst (as.map V.ref ++ [V.ref a]))) := TupK.put N5.out (fun _ z => nomatch z)
      refine ⟨as.map V.ref, N5.out, by rw [List.length_map]; exact Nat.lt_of_lt_of_le (show as.length < 100001 by omega) (by decide), hlt, ?_, as ++ [a], ?_⟩
      · exact (g3.trans (g4.trans g5)).mut hA N5.out (fun _ z => nomatch z)
      · refine ⟨by rw [upd_same]; simp, N.new, by rw [htk, List.map_append, List.length_append, List.length_append, N.len]; rfl, fun q b ws h h' => ?_, ?_⟩
        · rw [htk, List.map_append] at h'
          by_cases hq : q < as.length
          · rw [List.getElem?_append_left hq] at h
            rw [List.getElem?_append_left (by rw [← N.len]; exact hq)] at h'
            obtain ⟨h1, h2, ys, hys, rys⟩ := N5.ins q b ws h h'
            exact ⟨h1, h2, ys, by rw [upd_ne h2]; exact hys, rys.mono fun _ _ z => PyI.keep tk z⟩
          · rw [List.getElem?_append_right (by omega)] at h
            rw [List.getElem?_append_right (by rw [← N.len]; omega), ← N.len] at h'
            have hz0 : q - as.length = 0 := by
              have := (List.getElem?_eq_some_iff.mp h).1
              simp at this; omega
            rw [hz0] at h h'
            simp at h h'
            subst h h'
            exact ⟨g2.back (g3.back (g4.back ha)), aA, xs, by rw [upd_ne aA]; exact hxs, rxs.mono fun _ _ z => PyI.keep tk z⟩
        · rw [List.nodup_append]
          refine ⟨N.nd, by simp, fun b hb c hc e => ?_⟩
          simp at hc
          subst hc e
          obtain ⟨q, hq⟩ := List.mem_iff_getElem?.mp hb
          have hql := (List.getElem?_eq_some_iff.mp hq).1
          obtain ⟨ws, hws⟩ : ∃ ws, ((ds.take i).map v)[q]? = some ws := ⟨_, List.getElem?_eq_getElem (by rw [← N.len]; exact hql)⟩
          obtain ⟨_, _, ys, hys, _⟩ := (N.gr g4).ins q b ws hq hws
          rw [ha] at hys
          cases hys
  · have e : i = ds.length := by omega
    subst e
    rw [List.take_length] at N
    have hr := N.rep
    rw [List.map_map] at hr
    exact .inl ⟨w.stop H3 g3, q _ A H3 rfl (g2.trans g3) hA0 (by rw [N.out]; exact fun z => nomatch z) hr⟩
theorem edF_sortedL [PyO α] [PySrt α] {ds : List α} (h : Ev te σ H (Ls.mk ds)) (hok : ∀ d ∈ ds, PySrt.ok d) : EdF (tCB rSortedG (tCons te tNil)) σ H (· = Ls.mk (sortO ds)) := fun H1 g Q q => h H1 g _ fun d v H2 e g2 ⟨p, xs, ev, hp, r⟩ => by
  subst e
  refine ⟨α, _, _, ds, p, by rw [ev], Coll.lst hp r, hok, fun p' ys ds' hp' hs hn rl => ?_⟩
  rw [sortO_eq hs hp'] at rl
  exact q _ p' _ rfl (g2.trans (Gr.new hn)) (g2.back hn) (by rw [upd_same]; exact fun z => nomatch z) ⟨p', ys, rfl, upd_same, rl.mono fun _ _ z => PyI.keep (TupK.new hn) z⟩
end
end Zw
/-! Z23: a, b = (e, f) through a tuple. -/
namespace Zw
open PySem L2 RZ PySem.Spec PyProof.Rows SrtO
section
variable {K : PySem.W.Frag} {σ : L2.St} {H : Hp} {ta tb : TE} {tz : TS} {D : Ends} {α β : Type}
theorem q_asgT2 [Py α] [Py β] {i j : Nat} {P : α → Prop} {P' : β → Prop} (h : Ed ta σ H P) (h' : Ed tb σ H P') (k : ∀ a b v w H1, P a → P' b → Gr H H1 → Py.rep a v H1 → Py.rep b w H1 → tz D ((σ.set i (some v)).set j (some w)) H1) :
    tSeq (tAsg (tTup (tCons ta (tCons tb tNil))) (gTup K 2 (gCons (gName i) (gCons (gName j) gNil)))) tz D σ H := by
  unfold tSeq tAsg tTup
  refine ea_2 h h' H (Gr.refl H) _ fun vs H1 e z => ?_
  obtain ⟨v, w, a, b, ev, p, p', r, r'⟩ := z
  subst ev
  exact ⟨by show 2 ≤ sizeLine; decide, fun q hq => ⟨q, _, rfl, .of upd_same, rfl, v, _, rfl, w, _, rfl, rfl, k a b v w _ p p' (e.trans (Gr.new hq)) (Py.mono (Gr.new hq) r) (Py.mono (Gr.new hq) r')⟩⟩
theorem ed_eqI {Pa Pb : Int → Prop} (ha : Ed ta σ H Pa) (hb : Ed tb σ H Pb) : Ed (tOp rEq ta tb) σ H (fun (_ : Bool) => True) := ed_op ha hb fun a b _ _ x y H rx ry Q q =>
  ev_eqI (ta := tC x) (tb := tC y) (σ := σ) (ev_c rx) (ev_c ry) H (Gr.refl H) Q fun d v H2 _ g r => q d v H2 trivial g r
theorem ed_ixTd [PyI α] {P : List α → Prop} {P' : α → Prop} {i : Int} (h : Ed ta σ H P) (hi : Ev tb σ H i) (e : ∀ ds, P ds → ∃ d, L2.atI ds i = some d ∧ P' d) : Ed (tOp (rIxT K) ta tb) σ H P' := ed_op h hi fun ds i' pd ei x y H2 ⟨p, xs, ex, hp, r⟩ ry Q q => by
  subst ei
  obtain ⟨d, ed, pd⟩ := e ds pd
  obtain ⟨z, ez, rz⟩ := r.atI ed
  exact ⟨p, xs, i', z, ex, ry, .of hp, ez, q d z H2 pd (Gr.refl H2) rz⟩
/-- x = [.. for k in d ..] under the dict's lock -/
theorem s_lockAsg [Py α] {te : TE} {n : Nat} {P : α → Prop} (h : Ed (tLockE te) σ H P) (k : ∀ d v H1, P d → Gr H H1 → Py.rep d v H1 → D.nx (σ.set n (some v)) H1) : tLock (tAsg te (gName n)) D σ H :=
  h H (Gr.refl H) (fun v H' => D.nx (σ.set n (some v)) H') k
end
end Zw
namespace Cl
open PySem L2 Zw RZ
def top (i : Nat) : Stmt := PySem.Challenge.pw_sweptrooms_k21_whole_open_rooms_and_swee.main.body.getD i (.Pass ⟨0, 0, 0, 0⟩)
abbrev st_is_integer : Stmt := top 1
theorem sc_is_integer : FnScope ["thing"] ["thing"] (defScope st_is_integer) := ⟨rfl, rfl, rfl, by decide +kernel, rfl, by decide +kernel, by decide +kernel⟩

abbrev st_is_within : Stmt := top 2
theorem sc_is_within : FnScope ["thing", "low", "high"] ["thing", "low", "high"] (defScope st_is_within) := ⟨rfl, rfl, rfl, by decide +kernel, rfl, by decide +kernel, by decide +kernel⟩

abbrev st_is_tuple : Stmt := top 3
theorem sc_is_tuple : FnScope ["thing", "least", "most"] ["thing", "least", "most"] (defScope st_is_tuple) := ⟨rfl, rfl, rfl, by decide +kernel, rfl, by decide +kernel, by decide +kernel⟩

abbrev st_is_lot : Stmt := top 4
theorem sc_is_lot : FnScope ["thing", "many", "one", "other"] ["thing", "many"] (defScope st_is_lot) := ⟨rfl, rfl, rfl, by decide +kernel, rfl, by decide +kernel, by decide +kernel⟩

abbrev st_is_door : Stmt := top 13
theorem sc_is_door : FnScope ["rooms", "thing", "room"] ["rooms", "thing"] (defScope st_is_door) := ⟨rfl, rfl, rfl, by decide +kernel, rfl, by decide +kernel, by decide +kernel⟩

abbrev st_are_doors : Stmt := top 14
theorem sc_are_doors : FnScope ["rooms", "thing", "door", "one", "other"] ["rooms", "thing"] (defScope st_are_doors) := ⟨rfl, rfl, rfl, by decide +kernel, rfl, by decide +kernel, by decide +kernel⟩

abbrev st_House___init__ : Stmt := inClass (top 15) 0
theorem sc_House___init__ : FnScope ["self", "rooms", "doors"] ["self", "rooms", "doors"] (defScope st_House___init__) := ⟨rfl, rfl, rfl, by decide +kernel, rfl, by decide +kernel, by decide +kernel⟩

abbrev st_besides : Stmt := top 16
theorem sc_besides : FnScope ["house", "found", "room", "a", "b", "row"] ["house"] (defScope st_besides) := ⟨rfl, rfl, rfl, by decide +kernel, rfl, by decide +kernel, by decide +kernel⟩

abbrev st_nears : Stmt := top 17
theorem sc_nears : FnScope ["house", "room", "row"] ["house"] (defScope st_nears) := ⟨rfl, rfl, rfl, by decide +kernel, rfl, by decide +kernel, by decide +kernel⟩

abbrev st_is_lot_of : Stmt := top 18
theorem sc_is_lot_of : FnScope ["house", "thing"] ["house", "thing"] (defScope st_is_lot_of) := ⟨rfl, rfl, rfl, by decide +kernel, rfl, by decide +kernel, by decide +kernel⟩

abbrev st_check_lot : Stmt := top 19
theorem sc_check_lot : FnScope ["house", "lot"] ["house", "lot"] (defScope st_check_lot) := ⟨rfl, rfl, rfl, by decide +kernel, rfl, by decide +kernel, by decide +kernel⟩

abbrev st_is_row_of : Stmt := top 21
theorem sc_is_row_of : FnScope ["house", "thing", "room"] ["house", "thing"] (defScope st_is_row_of) := ⟨rfl, rfl, rfl, by decide +kernel, rfl, by decide +kernel, by decide +kernel⟩

abbrev st_check_row : Stmt := top 22
theorem sc_check_row : FnScope ["house", "row"] ["house", "row"] (defScope st_check_row) := ⟨rfl, rfl, rfl, by decide +kernel, rfl, by decide +kernel, by decide +kernel⟩

abbrev st_spread : Stmt := top 24
theorem sc_spread : FnScope ["house", "rooms", "barred", "found", "waiting", "room"] ["house", "rooms", "barred"] (defScope st_spread) := ⟨rfl, rfl, rfl, by decide +kernel, rfl, by decide +kernel, by decide +kernel⟩

abbrev st_unsure : Stmt := top 25
theorem sc_unsure : FnScope ["house", "sweep", "number", "lot", "found", "room", "one", "other", "barred", "later"] ["house", "sweep"] (defScope st_unsure) := ⟨rfl, rfl, rfl, by decide +kernel, rfl, by decide +kernel, by decide +kernel⟩

abbrev st_open_of : Stmt := top 26
theorem sc_open_of : FnScope ["house", "lot", "room", "near"] ["house", "lot"] (defScope st_open_of) := ⟨rfl, rfl, rfl, by decide +kernel, rfl, by decide +kernel, by decide +kernel⟩

abbrev st_open_rooms : Stmt := top 27
theorem sc_open_rooms : FnScope ["house", "lot"] ["house", "lot"] (defScope st_open_rooms) := ⟨rfl, rfl, rfl, by decide +kernel, rfl, by decide +kernel, by decide +kernel⟩

abbrev st_begun : Stmt := top 28
theorem sc_begun : FnScope ["row", "at"] ["row", "at"] (defScope st_begun) := ⟨rfl, rfl, rfl, by decide +kernel, rfl, by decide +kernel, by decide +kernel⟩

abbrev st_sweep_of : Stmt := top 29
theorem sc_sweep_of : FnScope ["house", "row", "found", "at", "room"] ["house", "row"] (defScope st_sweep_of) := ⟨rfl, rfl, rfl, by decide +kernel, rfl, by decide +kernel, by decide +kernel⟩

abbrev st_law_hand : Stmt := top 31
theorem sc_law_hand : FnScope ["script", "cells", "cell"] ["script"] (defScope st_law_hand) := ⟨rfl, rfl, rfl, by decide +kernel, rfl, by decide +kernel, by decide +kernel⟩

abbrev st_law_draw : Stmt := top 32
theorem sc_law_draw : FnScope ["hand", "many", "cell", "digit", "number"] ["hand", "many"] (defScope st_law_draw) := ⟨rfl, rfl, rfl, by decide +kernel, rfl, by decide +kernel, by decide +kernel⟩

abbrev st_law_any : Stmt := top 33
theorem sc_law_any : FnScope ["hand", "things"] ["hand", "things"] (defScope st_law_any) := ⟨rfl, rfl, rfl, by decide +kernel, rfl, by decide +kernel, by decide +kernel⟩

abbrev st_law_mixed : Stmt := top 36
theorem sc_law_mixed : FnScope ["hand", "many", "found", "left"] ["hand", "many"] (defScope st_law_mixed) := ⟨rfl, rfl, rfl, by decide +kernel, rfl, by decide +kernel, by decide +kernel⟩

abbrev st_law_house : Stmt := top 35
theorem sc_law_house : FnScope ["hand", "most", "rooms", "thick", "doors", "room", "turn", "a", "b", "order", "found"] ["hand", "most"] (defScope st_law_house) := ⟨rfl, rfl, rfl, by decide +kernel, rfl, by decide +kernel, by decide +kernel⟩

abbrev st_law_besides : Stmt := top 37
theorem sc_law_besides : FnScope ["rooms", "doors", "found", "room", "a", "b", "row"] ["rooms", "doors"] (defScope st_law_besides) := ⟨rfl, rfl, rfl, by decide +kernel, rfl, by decide +kernel, by decide +kernel⟩

abbrev st_law_reached : Stmt := top 38
theorem sc_law_reached : FnScope ["besides_v", "firsts", "barred", "met", "waiting", "room", "other"] ["besides_v", "firsts", "barred"] (defScope st_law_reached) := ⟨rfl, rfl, rfl, by decide +kernel, rfl, by decide +kernel, by decide +kernel⟩

abbrev st_law_open : Stmt := top 43
theorem sc_law_open : FnScope ["besides_v", "lot", "room", "other"] ["besides_v", "lot"] (defScope st_law_open) := ⟨rfl, rfl, rfl, by decide +kernel, rfl, by decide +kernel, by decide +kernel⟩

abbrev st_law_sweep : Stmt := top 46
theorem sc_law_sweep : FnScope ["besides_v", "row", "found", "at", "room"] ["besides_v", "row"] (defScope st_law_sweep) := ⟨rfl, rfl, rfl, by decide +kernel, rfl, by decide +kernel, by decide +kernel⟩

abbrev st_law : Stmt := top 47
theorem sc_law : FnScope ["script", "hand", "known", "turn", "rooms", "doors", "house", "besides_v", "lot", "room", "row", "told", "most", "at", "here", "one", "other", "met"] ["script"] (defScope st_law) := ⟨rfl, rfl, rfl, by decide +kernel, rfl, by decide +kernel, by decide +kernel⟩

structure Ctx (K : PySem.W.Frag) (mg : Str → Option Value) where
  n_abs : mg "abs" = none
  n_all : mg "all" = none
  n_any : mg "any" = none
  n_bool : mg "bool" = none
  n_enumerate : mg "enumerate" = none
  n_int : mg "int" = none
  n_isinstance : mg "isinstance" = none
  n_len : mg "len" = none
  n_list : mg "list" = none
  n_max : mg "max" = none
  n_min : mg "min" = none
  n_range : mg "range" = none
  n_set : mg "set" = none
  n_sorted : mg "sorted" = none
  n_tuple : mg "tuple" = none
  n_zip : mg "zip" = none
  c_MOST_ROOMS : ∃ t, mg "MOST_ROOMS" = some (.int 9 t)
  C_House : Addr
  m_House : mg "House" = some (.ref C_House)
  cl_House : Cls K C_House
  na_House_rooms : NoAttr K C_House "rooms"
  na_House_doors : NoAttr K C_House "doors"
  na_House_looked : NoAttr K C_House "looked"
  a_is_integer : Addr
  fd_is_integer : FuncData
  F_is_integer : Fun K "is_integer" "is_integer" st_is_integer a_is_integer fd_is_integer
  b_is_integer : Binds K fd_is_integer ["thing"] []
  m_is_integer : mg "is_integer" = some (.ref a_is_integer)
  a_is_within : Addr
  fd_is_within : FuncData
  F_is_within : Fun K "is_within" "is_within" st_is_within a_is_within fd_is_within
  b_is_within : Binds K fd_is_within ["thing", "low", "high"] []
  m_is_within : mg "is_within" = some (.ref a_is_within)
  a_is_tuple : Addr
  fd_is_tuple : FuncData
  F_is_tuple : Fun K "is_tuple" "is_tuple" st_is_tuple a_is_tuple fd_is_tuple
  b_is_tuple : Binds K fd_is_tuple ["thing", "least", "most"] []
  m_is_tuple : mg "is_tuple" = some (.ref a_is_tuple)
  a_is_lot : Addr
  fd_is_lot : FuncData
  F_is_lot : Fun K "is_lot" "is_lot" st_is_lot a_is_lot fd_is_lot
  b_is_lot : Binds K fd_is_lot ["thing", "many"] []
  m_is_lot : mg "is_lot" = some (.ref a_is_lot)
  a_is_door : Addr
  fd_is_door : FuncData
  F_is_door : Fun K "is_door" "is_door" st_is_door a_is_door fd_is_door
  b_is_door : Binds K fd_is_door ["rooms", "thing"] []
  m_is_door : mg "is_door" = some (.ref a_is_door)
  a_are_doors : Addr
  fd_are_doors : FuncData
  F_are_doors : Fun K "are_doors" "are_doors" st_are_doors a_are_doors fd_are_doors
  b_are_doors : Binds K fd_are_doors ["rooms", "thing"] []
  m_are_doors : mg "are_doors" = some (.ref a_are_doors)
  a_House___init__ : Addr
  fd_House___init__ : FuncData
  F_House___init__ : Fun K "__init__" "House.__init__" st_House___init__ a_House___init__ fd_House___init__
  b_House___init__ : Binds K fd_House___init__ ["self", "rooms", "doors"] []
  mk_House : Mk K C_House a_House___init__
  a_besides : Addr
  fd_besides : FuncData
  F_besides : Fun K "besides" "besides" st_besides a_besides fd_besides
  b_besides : Binds K fd_besides ["house"] []
  m_besides : mg "besides" = some (.ref a_besides)
  a_nears : Addr
  fd_nears : FuncData
  F_nears : Fun K "nears" "nears" st_nears a_nears fd_nears
  b_nears : Binds K fd_nears ["house"] []
  m_nears : mg "nears" = some (.ref a_nears)
  a_is_lot_of : Addr
  fd_is_lot_of : FuncData
  F_is_lot_of : Fun K "is_lot_of" "is_lot_of" st_is_lot_of a_is_lot_of fd_is_lot_of
  b_is_lot_of : Binds K fd_is_lot_of ["house", "thing"] []
  m_is_lot_of : mg "is_lot_of" = some (.ref a_is_lot_of)
  a_check_lot : Addr
  fd_check_lot : FuncData
  F_check_lot : Fun K "check_lot" "check_lot" st_check_lot a_check_lot fd_check_lot
  b_check_lot : Binds K fd_check_lot ["house", "lot"] []
  m_check_lot : mg "check_lot" = some (.ref a_check_lot)
  a_is_row_of : Addr
  fd_is_row_of : FuncData
  F_is_row_of : Fun K "is_row_of" "is_row_of" st_is_row_of a_is_row_of fd_is_row_of
  b_is_row_of : Binds K fd_is_row_of ["house", "thing"] []
  m_is_row_of : mg "is_row_of" = some (.ref a_is_row_of)
  a_check_row : Addr
  fd_check_row : FuncData
  F_check_row : Fun K "check_row" "check_row" st_check_row a_check_row fd_check_row
  b_check_row : Binds K fd_check_row ["house", "row"] []
  m_check_row : mg "check_row" = some (.ref a_check_row)
  a_spread : Addr
  fd_spread : FuncData
  F_spread : Fun K "spread" "spread" st_spread a_spread fd_spread
  b_spread : Binds K fd_spread ["house", "rooms", "barred"] []
  m_spread : mg "spread" = some (.ref a_spread)
  a_unsure : Addr
  fd_unsure : FuncData
  F_unsure : Fun K "unsure" "unsure" st_unsure a_unsure fd_unsure
  b_unsure : Binds K fd_unsure ["house", "sweep"] []
  m_unsure : mg "unsure" = some (.ref a_unsure)
  a_open_of : Addr
  fd_open_of : FuncData
  F_open_of : Fun K "open_of" "open_of" st_open_of a_open_of fd_open_of
  b_open_of : Binds K fd_open_of ["house", "lot"] []
  m_open_of : mg "open_of" = some (.ref a_open_of)
  a_open_rooms : Addr
  fd_open_rooms : FuncData
  F_open_rooms : Fun K "open_rooms" "open_rooms" st_open_rooms a_open_rooms fd_open_rooms
  b_open_rooms : Binds K fd_open_rooms ["house", "lot"] []
  m_open_rooms : mg "open_rooms" = some (.ref a_open_rooms)
  a_begun : Addr
  fd_begun : FuncData
  F_begun : Fun K "begun" "begun" st_begun a_begun fd_begun
  b_begun : Binds K fd_begun ["row", "at"] []
  m_begun : mg "begun" = some (.ref a_begun)
  a_sweep_of : Addr
  fd_sweep_of : FuncData
  F_sweep_of : Fun K "sweep_of" "sweep_of" st_sweep_of a_sweep_of fd_sweep_of
  b_sweep_of : Binds K fd_sweep_of ["house", "row"] []
  m_sweep_of : mg "sweep_of" = some (.ref a_sweep_of)
  a_law_hand : Addr
  fd_law_hand : FuncData
  F_law_hand : Fun K "_law_hand" "_law_hand" st_law_hand a_law_hand fd_law_hand
  b_law_hand : Binds K fd_law_hand ["script"] []
  m_law_hand : mg "_law_hand" = some (.ref a_law_hand)
  a_law_draw : Addr
  fd_law_draw : FuncData
  F_law_draw : Fun K "_law_draw" "_law_draw" st_law_draw a_law_draw fd_law_draw
  b_law_draw : Binds K fd_law_draw ["hand", "many"] []
  m_law_draw : mg "_law_draw" = some (.ref a_law_draw)
  a_law_any : Addr
  fd_law_any : FuncData
  F_law_any : Fun K "_law_any" "_law_any" st_law_any a_law_any fd_law_any
  b_law_any : Binds K fd_law_any ["hand", "things"] []
  m_law_any : mg "_law_any" = some (.ref a_law_any)
  a_law_mixed : Addr
  fd_law_mixed : FuncData
  F_law_mixed : Fun K "_law_mixed" "_law_mixed" st_law_mixed a_law_mixed fd_law_mixed
  b_law_mixed : Binds K fd_law_mixed ["hand", "many"] []
  m_law_mixed : mg "_law_mixed" = some (.ref a_law_mixed)
  a_law_house : Addr
  fd_law_house : FuncData
  F_law_house : Fun K "_law_house" "_law_house" st_law_house a_law_house fd_law_house
  b_law_house : Binds K fd_law_house ["hand", "most"] []
  m_law_house : mg "_law_house" = some (.ref a_law_house)
  a_law_besides : Addr
  fd_law_besides : FuncData
  F_law_besides : Fun K "_law_besides" "_law_besides" st_law_besides a_law_besides fd_law_besides
  b_law_besides : Binds K fd_law_besides ["rooms", "doors"] []
  m_law_besides : mg "_law_besides" = some (.ref a_law_besides)
  a_law_reached : Addr
  fd_law_reached : FuncData
  F_law_reached : Fun K "_law_reached" "_law_reached" st_law_reached a_law_reached fd_law_reached
  b_law_reached : Binds K fd_law_reached ["besides_v", "firsts", "barred"] []
  m_law_reached : mg "_law_reached" = some (.ref a_law_reached)
  a_law_open : Addr
  fd_law_open : FuncData
  F_law_open : Fun K "_law_open" "_law_open" st_law_open a_law_open fd_law_open
  b_law_open : Binds K fd_law_open ["besides_v", "lot"] []
  m_law_open : mg "_law_open" = some (.ref a_law_open)
  a_law_sweep : Addr
  fd_law_sweep : FuncData
  F_law_sweep : Fun K "_law_sweep" "_law_sweep" st_law_sweep a_law_sweep fd_law_sweep
  b_law_sweep : Binds K fd_law_sweep ["besides_v", "row"] []
  m_law_sweep : mg "_law_sweep" = some (.ref a_law_sweep)
  a_law : Addr
  fd_law : FuncData
  F_law : Fun K "law" "law" st_law a_law fd_law
  b_law : Binds K fd_law ["script"] []
  m_law : mg "law" = some (.ref a_law)

section
variable {P : Program} {w : World} {K : PySem.W.Frag} {mg : Str → Option Value} {base : Heap}
theorem ok_is_integer (T : Ctx K mg) : FnOk P w K mg base CX0 1 T.a_is_integer T.fd_is_integer ["thing"] (Sp1 (fun (_ : Int) => True) (fun _ (d : Bool) => d = true)) := by
  refine T.F_is_integer.ok sc_is_integer (fun vs H Q E h => h.len) (fun cdv A outer s H vs Q E hr h => ?_)
  obtain ⟨v, a, rfl, ra, -, k⟩ := h
  refine ⟨_, (pss_one (ps_ret (pe_and (pe_callB (k_isi (K := K) rfl) (by rfl) T.n_isinstance (by decide +kernel) (pa_cons (pv 0) (pa_cons (pe_bltn (v := .ty "int") (u := .type "int") (by rfl) T.n_int (by decide +kernel) rfl) pa_nil))) (pe_one (pe_not (pe_callB (k_isi (K := K) rfl) (by rfl) T.n_isinstance (by decide +kernel) (pa_cons (pv 0) (pa_cons (pe_bltn (v := .ty "bool") (u := .type "bool") (by rfl) T.n_bool (by decide +kernel) rfl) pa_nil)))))))), ?_⟩
  exact s_retE (ev_andV (ev_isi (b := true) (ev_var rfl ra) (by decide +kernel)) fun _ => ev_not (ev_isi (b := false) (ev_var rfl ra) (by decide +kernel))) fun v H1 g r => k _ v H1 rfl g r

theorem ok_is_within (T : Ctx K mg) : FnOk P w K mg base CX0 2 T.a_is_within T.fd_is_within ["thing", "low", "high"] (Sp3 (fun (_ _ _ : Int) => True) (fun t lo hi (d : Bool) => d = (decide (lo ≤ t) && decide (t ≤ hi)))) := by
  have G_is_integer := ok_is_integer (P := P) (w := w) (base := base) T
  refine T.F_is_within.ok sc_is_within (fun vs H Q E h => h.len) (fun cdv A outer s H vs Q E hr h => ?_)
  obtain ⟨v, v', v'', a, b, c, rfl, ra, rb, rc, -, k⟩ := h
  refine ⟨_, (pss_one (ps_ret (pe_and (pe_call (G_is_integer) (hr.mono (by first | decide | omega)) (by rfl) T.m_is_integer T.F_is_integer.kp T.b_is_integer .nil pass0 (pa_cons (pv 0) pa_nil)) (pe_one (pe_chain op_le op_le (pv 1) (pv 0) (pv 2)))))), ?_⟩
  exact s_retE (ev_andV (a := true) (ed_call1 (ev_var rfl ra) (fun _ _ => trivial) (fun _ _ _ p => p)) fun _ => ev_chain (ev_var rfl rb) (ev_var rfl ra) (ev_var rfl rc) ro_le ro_le) fun v H1 g r => k _ v H1 (by simp) g r

theorem ok_is_tuple (T : Ctx K mg) : FnOk P w K mg base CX0 1 T.a_is_tuple T.fd_is_tuple ["thing", "least", "most"] (Sp3 (fun (_ : TupN) (_ _ : Int) => True) (fun t lo hi (d : Bool) => d = (decide (lo ≤ (t.n : Int)) && decide ((t.n : Int) ≤ hi)))) := by
  refine T.F_is_tuple.ok sc_is_tuple (fun vs H Q E h => h.len) (fun cdv A outer s H vs Q E hr h => ?_)
  obtain ⟨v, v', v'', a, b, c, rfl, ra, rb, rc, -, k⟩ := h
  refine ⟨_, (pss_one (ps_ret (pe_and (pe_callB (k_isi (K := K) rfl) (by rfl) T.n_isinstance (by decide +kernel) (pa_cons (pv 0) (pa_cons (pe_bltn (v := .ty "tuple") (u := .type "tuple") (by rfl) T.n_tuple (by decide +kernel) rfl) pa_nil))) (pe_one (pe_chain op_le op_le (pv 1) (pe_callB (k_len (K := K) rfl) (by rfl) T.n_len (by decide +kernel) (pa_cons (pv 0) pa_nil)) (pv 2)))))), ?_⟩
  exact s_retE (ev_andV (ev_isi (b := true) (ev_var rfl ra) (by decide +kernel)) fun _ => ev_chain (ev_var rfl rb) (ev_lenN (ev_var rfl ra)) (ev_var rfl rc) ro_le ro_le) fun v H1 g r => k _ v H1 (by simp) g r

def LotOk (r : Int) (l : List Int) : Prop := (∀ x ∈ l, 0 ≤ x ∧ x < r) ∧ l.Pairwise (· < ·) ∧ l.length ≤ 100
theorem ltI_all {ds : List Int} (h : ds.Pairwise (· < ·)) : (List.map (fun (d : Int × Int) => decide (d.1 < d.2)) (ds.zip (cutL ds (some 1) none))).all id = true :=
  lt_all (α := Int) (h.imp fun z => decide_eq_true z)
theorem ok_is_lot (T : Ctx K mg) : FnOk P w K mg base CX0 3 T.a_is_lot T.fd_is_lot ["thing", "many"] (Sp2 (fun (l : List Int) (many : Int) => LotOk many l) (fun _ _ (d : Bool) => d = true)) := by
  have G_is_within := ok_is_within (P := P) (w := w) (base := base) T
  refine T.F_is_lot.ok sc_is_lot (fun vs H Q E h => h.len) (fun cdv A outer s H vs Q E hr h => ?_)
  obtain ⟨v, v', l, many, rfl, ra, rb, ⟨h1, h2, h3⟩, k⟩ := h
  refine ⟨_, (pss_cons (ps_if (PW.pt (pw_or (pt_not (pt_val (pe_callB (k_isi (K := K) rfl) (by rfl) T.n_isinstance (by decide +kernel) (pa_cons (pv 0) (pa_cons (pe_bltn (v := .ty "tuple") (u := .type "tuple") (by rfl) T.n_tuple (by decide +kernel) rfl) pa_nil))))) (pw_or1 (pt_not (pt_val (pe_callB (k_all (K := K) rfl rfl) (by rfl) T.n_all (by decide +kernel) (pa_cons (pe_lc (own := [("one", 2)]) rfl sc_is_lot.nd (k_pi_tup (K := K) rfl (pv 0)) (blkOk_by (by kernel_rfl)) (fun _ _ _ _ _ => (pg_name (i := 2) sc_is_lot.nd rfl (Or.inl rfl) (Or.inr rfl))) (fun _ _ _ _ _ => pts_nil) (fun _ _ _ _ _ => (pe_call (G_is_within) (hr.mono (by first | decide | omega)) (by rfl) T.m_is_within T.F_is_within.kp T.b_is_within .nil pass0 (pa_cons (pv 2) (pa_cons pe_int (pa_cons (pe_op op_sub (pv 1) pe_int) pa_nil)))))) pa_nil))))))) (pss_one (ps_ret pe_bl)) pss_nil)
      (pss_one (ps_ret (pe_callB (k_all (K := K) rfl rfl) (by rfl) T.n_all (by decide +kernel) (pa_cons (pe_lc (own := [("one", 2), ("other", 3)]) rfl sc_is_lot.nd (k_pi_zip (K := K) rfl (by rfl) T.n_zip (pa_cons (pv 0) (pa_cons (pe_slice (k_sl_tup (K := K) rfl) (pv 0) (po_some pe_int) po_none) pa_nil))) (blkOk_by (by kernel_rfl)) (fun _ _ _ _ _ => (k_pg_tup (K := K) (n := 2) rfl rfl (pgs_cons (pg_name (i := 2) sc_is_lot.nd rfl (Or.inl rfl) (Or.inr rfl)) (pgs_cons (pg_name (i := 3) sc_is_lot.nd rfl (Or.inl rfl) (Or.inr rfl)) pgs_nil)) rfl)) (fun _ _ _ _ _ => pts_nil) (fun _ _ _ _ _ => (pe_cmpR op_lt (pv 2) (pv 3) (nomark _)))) pa_nil))))), ?_⟩
  refine q_when (b := !true || !((List.map (fun _ => true) l).all id)) (et_or (et_not (et_B (ev_isi (b := true) (ev_var rfl ra) (by decide +kernel)))) fun _ => et_not (et_B (ev_all (el_mapN (src_tup (ev_var rfl ra)).src (by omega) (fun _ => rfl) fun d x H' m g rx =>
      ed_call3 (ev_var rfl rx) ev_int (ev_sub (ev_var rfl (Py.mono g rb)) ev_int) (fun _ _ _ _ _ _ => trivial) (fun a b c d' ea eb ec p => by subst ea eb ec; have := h1 _ m; rw [p]; simp; omega))))) (fun hb => absurd hb (by simp)) fun _ H1 g1 => ?_
  refine s_retE (ev_all (el_mapP (src_zipT (ev_var rfl (Py.mono g1 ra)) (ev_slT (ev_var rfl (Py.mono g1 ra)) (eo_some ev_int) eo_none)).src (by rw [List.length_zip]; omega) (fun _ _ => rfl) fun d x y H' m g rx ry => ev_lt (ev_var rfl rx) (ev_var rfl ry))) fun v H2 g r => k _ v H2 ?_ (g1.trans g) r
  exact ltI_all h2

def DoorOk (rooms : Int) (t : Int × Int) : Prop := 0 ≤ t.1 ∧ t.1 < t.2 ∧ t.2 < rooms
theorem ok_is_door (T : Ctx K mg) : FnOk P w K mg base CX0 3 T.a_is_door T.fd_is_door ["rooms", "thing"] (Sp2 (fun (rooms : Int) (t : Int × Int) => DoorOk rooms t) (fun _ _ (d : Bool) => d = true)) := by
  have G_is_tuple := ok_is_tuple (P := P) (w := w) (base := base) T
  have G_is_within := ok_is_within (P := P) (w := w) (base := base) T
  refine T.F_is_door.ok sc_is_door (fun vs H Q E h => h.len) (fun cdv A outer s H vs Q E hr h => ?_)
  obtain ⟨v, v', rooms, t, rfl, ra, rb, ⟨h1, h2, h3⟩, k⟩ := h
  refine ⟨_, (pss_cons (ps_if (PW.pt (pw_or (pt_not (pt_val (pe_call (G_is_tuple) (hr.mono (by first | decide | omega)) (by rfl) T.m_is_tuple T.F_is_tuple.kp T.b_is_tuple .nil pass0 (pa_cons (pv 1) (pa_cons pe_int (pa_cons pe_int pa_nil)))))) (pw_or1 (pt_not (pt_val (pe_callB (k_all (K := K) rfl rfl) (by rfl) T.n_all (by decide +kernel) (pa_cons (pe_lc (own := [("room", 2)]) rfl sc_is_door.nd (k_pi_tup (K := K) rfl (pv 1)) (blkOk_by (by kernel_rfl)) (fun _ _ _ _ _ => (pg_name (i := 2) sc_is_door.nd rfl (Or.inl rfl) (Or.inr rfl))) (fun _ _ _ _ _ => pts_nil) (fun _ _ _ _ _ => (pe_call (G_is_within) (hr.mono (by first | decide | omega)) (by rfl) T.m_is_within T.F_is_within.kp T.b_is_within .nil pass0 (pa_cons (pv 2) (pa_cons pe_int (pa_cons (pe_op op_sub (pv 0) pe_int) pa_nil)))))) pa_nil))))))) (pss_one (ps_ret pe_bl)) pss_nil)
      (pss_one (ps_ret (pe_cmpR op_lt (pe_ix (k_ix_tup (K := K) rfl) (pv 1) pe_int (fun _ _ => rfl)) (pe_ix (k_ix_tup (K := K) rfl) (pv 1) pe_int (fun _ _ => rfl)) (nomark _))))), ?_⟩
  refine q_when (b := !true || !((List.map (fun _ => true) [t.1, t.2]).all id)) (et_or (et_not (et_B (ed_call3 (ev_cast (b := TupN.mk 2) (ev_var rfl rb) fun v H' r => tupN_pair r) ev_int ev_int (fun _ _ _ _ _ _ => trivial) (fun a b c d ea eb ec p => by subst ea eb ec; exact p)))) fun _ => et_not (et_B (ev_all (el_mapN (src_tup (ev_cast (b := [t.1, t.2]) (ev_var rfl rb) fun v H' r => pair_list r)).src (by simp) (fun _ => rfl) fun d x H' m g rx =>
      ed_call3 (ev_var rfl rx) ev_int (ev_sub (ev_var rfl (Py.mono g ra)) ev_int) (fun _ _ _ _ _ _ => trivial) (fun a b c d' ea eb ec p => by subst ea eb ec; simp at m; rw [p]; rcases m with m | m <;> subst m <;> simp <;> omega))))) (fun hb => absurd hb (by simp)) fun _ H1 g1 => ?_
  exact s_retE (ev_lt (ev_fst (ev_var rfl (Py.mono g1 rb))) (ev_snd (ev_var rfl (Py.mono g1 rb)))) fun v H2 g r => k _ v H2 (by simp; omega) (g1.trans g) r

def DoorsOk (rooms : Int) (ds : List (Int × Int)) : Prop := (∀ d ∈ ds, DoorOk rooms d) ∧ ds.Pairwise (fun a b => PyO.lt a b = true) ∧ ds.length ≤ 36
theorem ok_are_doors (T : Ctx K mg) : FnOk P w K mg base CX0 4 T.a_are_doors T.fd_are_doors ["rooms", "thing"] (Sp2 (fun (rooms : Int) (ds : List (Int × Int)) => DoorsOk rooms ds) (fun _ _ (d : Bool) => d = true)) := by
  have G_is_door := ok_is_door (P := P) (w := w) (base := base) T
  refine T.F_are_doors.ok sc_are_doors (fun vs H Q E h => h.len) (fun cdv A outer s H vs Q E hr h => ?_)
  obtain ⟨v, v', rooms, ds, rfl, ra, rb, ⟨h1, h2, h3⟩, k⟩ := h
  refine ⟨_, (pss_cons (ps_if (PW.pt (pw_or (pt_not (pt_val (pe_callB (k_isi (K := K) rfl) (by rfl) T.n_isinstance (by decide +kernel) (pa_cons (pv 1) (pa_cons (pe_bltn (v := .ty "tuple") (u := .type "tuple") (by rfl) T.n_tuple (by decide +kernel) rfl) pa_nil))))) (pw_or1 (pt_not (pt_val (pe_callB (k_all (K := K) rfl rfl) (by rfl) T.n_all (by decide +kernel) (pa_cons (pe_lc (own := [("door", 2)]) rfl sc_are_doors.nd (k_pi_tup (K := K) rfl (pv 1)) (blkOk_by (by kernel_rfl)) (fun _ _ _ _ _ => (pg_name (i := 2) sc_are_doors.nd rfl (Or.inl rfl) (Or.inr rfl))) (fun _ _ _ _ _ => pts_nil) (fun _ _ _ _ _ => (pe_call (G_is_door) (hr.mono (by first | decide | omega)) (by rfl) T.m_is_door T.F_is_door.kp T.b_is_door .nil pass0 (pa_cons (pv 0) (pa_cons (pv 2) pa_nil))))) pa_nil))))))) (pss_one (ps_ret pe_bl)) pss_nil)
      (pss_one (ps_ret (pe_callB (k_all (K := K) rfl rfl) (by rfl) T.n_all (by decide +kernel) (pa_cons (pe_lc (own := [("one", 3), ("other", 4)]) rfl sc_are_doors.nd (k_pi_zip (K := K) rfl (by rfl) T.n_zip (pa_cons (pv 1) (pa_cons (pe_slice (k_sl_tup (K := K) rfl) (pv 1) (po_some pe_int) po_none) pa_nil))) (blkOk_by (by kernel_rfl)) (fun _ _ _ _ _ => (k_pg_tup (K := K) (n := 2) rfl rfl (pgs_cons (pg_name (i := 3) sc_are_doors.nd rfl (Or.inl rfl) (Or.inr rfl)) (pgs_cons (pg_name (i := 4) sc_are_doors.nd rfl (Or.inl rfl) (Or.inr rfl)) pgs_nil)) rfl)) (fun _ _ _ _ _ => pts_nil) (fun _ _ _ _ _ => (pe_cmpR (op_ltG hr.units) (pv 3) (pv 4) (nomark _)))) pa_nil))))), ?_⟩
  refine q_when (b := !true || !((List.map (fun _ => true) ds).all id)) (et_or (et_not (et_B (ev_isi (b := true) (ev_var rfl rb) (by decide +kernel)))) fun _ => et_not (et_B (ev_all (el_mapN (src_tup (ev_var rfl rb)).src (by omega) (fun _ => rfl) fun d x H' m g rx =>
      ed_call2 (ev_var rfl (Py.mono g ra)) (ev_var rfl rx) (fun _ _ ea eb => by subst ea eb; exact h1 _ m) (fun _ _ _ _ _ p => p))))) (fun hb => absurd hb (by simp)) fun _ H1 g1 => ?_
  refine s_retE (ev_all (el_mapP (src_zipT (ev_var rfl (Py.mono g1 rb)) (ev_slT (ev_var rfl (Py.mono g1 rb)) (eo_some ev_int) eo_none)).src (by rw [List.length_zip]; omega) (fun _ _ => rfl) fun d x y H' m g rx ry => ev_ltG (ev_var rfl rx) (ev_var rfl ry))) fun v H2 g r => k _ v H2 ?_ (g1.trans g) r
  exact lt_all h2

end
end Cl
namespace Cl
open PySem L2 Zw RZ
section
variable {P : Program} {w : World} {K : PySem.W.Frag} {mg : Str → Option Value} {base : Heap}
def spInit (C : Addr) : Sp := fun vs H Q _ => ∃ (H0 : Hp) (p dx : Addr) (v v' : V) (r : Int) (ds : List (Int × Int)), vs = [.ref p, v, v'] ∧ H0 p = none ∧ H0 dx = none ∧ Neat H0 ∧ Gr H0 H ∧ H p = some (.ins C dx []) ∧ Py.rep r v H ∧ Py.rep ds v' H ∧ 1 ≤ r ∧ r ≤ 9 ∧ DoorsOk r ds ∧
  ∀ H' : Hp, Gr H0 H' → Py.rep (Hs.mk (C := C) r ds) (.ref p) H' → Q .non H'
theorem spInit_len {C : Addr} {vs : List V} {H : Hp} {Q : VK} {E : XK} (h : spInit C vs H Q E) : vs.length = 3 := by obtain ⟨_, _, _, _, _, _, _, rfl, _⟩ := h; rfl
theorem ok_House___init__ (T : Ctx K mg) : FnOk P w K mg base CX0 5 T.a_House___init__ T.fd_House___init__ ["self", "rooms", "doors"] (spInit T.C_House) := by
  have G_are_doors := ok_are_doors (P := P) (w := w) (base := base) T
  have G_is_within := ok_is_within (P := P) (w := w) (base := base) T
  obtain ⟨t_MOST_ROOMS, c_MOST_ROOMS⟩ := T.c_MOST_ROOMS
  refine T.F_House___init__.ok sc_House___init__ (fun vs H Q E h => spInit_len h) (fun cdv A outer s H vs Q E hr h => ?_)
  obtain ⟨H0, p, dx, v, v', r, ds, rfl, np, nd, hneat, g0, hp, ra, rb, hr1, hr2, hok, k⟩ := h
  refine ⟨_, (pss_cons (ps_if (pt_not (pt_val (pe_call (G_is_within) (hr.mono (by first | decide | omega)) (by rfl) T.m_is_within T.F_is_within.kp T.b_is_within .nil pass0 (pa_cons (pv 1) (pa_cons pe_int (pa_cons (pe_glob (v := .int (9)) (by rfl) c_MOST_ROOMS ⟨_, rfl⟩) pa_nil)))))) (pss_one ps_never) pss_nil)
      (pss_cons (ps_if (pt_not (pt_val (pe_call (G_are_doors) (hr.mono (by first | decide | omega)) (by rfl) T.m_are_doors T.F_are_doors.kp T.b_are_doors .nil pass0 (pa_cons (pv 1) (pa_cons (pv 2) pa_nil))))) (pss_one ps_never) pss_nil)
      (pss_cons (ps_asg (pe_tup (pa_cons (pv 1) (pa_cons (pv 2) pa_nil))) (k_pg_tup (K := K) (n := 2) rfl rfl (pgs_cons (k_pg_attr (K := K) rfl (pv 0)) (pgs_cons (k_pg_attr (K := K) rfl (pv 0)) pgs_nil)) rfl))
      (pss_one (k_ps_fld (K := K) rfl (pv 0) pe_dnewK rfl))))), ?_⟩
  refine q_when (b := !(decide ((1 : Int) ≤ r) && decide (r ≤ 9))) (et_not (et_B (ed_call3 (ev_var rfl ra) ev_int (ev_c rfl) (fun _ _ _ _ _ _ => trivial) (fun a b c d ea eb ec p => by subst ea eb ec; exact p)))) (fun hb => absurd hb (by simp; omega)) fun _ H1 g1 => ?_
  refine q_when (b := !true) (et_not (et_B (ed_call2 (ev_var rfl (Py.mono g1 ra)) (ev_var rfl (Py.mono g1 rb)) (fun _ _ ea eb => by subst ea eb; exact hok) (fun _ _ _ _ _ p => p)))) (fun hb => absurd hb (by simp)) fun _ H2 g2 => ?_
  have hp2 := (g1.trans g2).ins hp
  have ra2 : v = .int r := ra
  subst ra2
  have ra3 : Py.rep r (.int r) H2 := rfl
  have rb3 := Py.mono (g1.trans g2) rb
  obtain ⟨td, xs, e2, ht, rd⟩ := id rb3
  subst e2
  have hea := ea_2 (σ := L2.start ["self", "rooms", "doors"] [.ref p, .int r, .ref td]) (ev_var (i := 1) rfl ra3) (ev_var (i := 2) rfl rb3)
  unfold tSeq tAsg tTup
  refine hea H2 (Gr.refl _) _ fun vs H3 g3 z => ?_
  obtain ⟨w, w', d, d', ev, p1, p2, r1, r2⟩ := z
  refine ⟨by subst ev; show 2 ≤ sizeLine; decide, fun q hq => ?_⟩
  subst ev p1 p2
  have ew : w = .int d := r1
  subst ew
  obtain ⟨td', xs', e2', ht', rd'⟩ := r2
  subst e2'
  have hp3 := g3.ins hp2
  refine ⟨q, _, rfl, .of upd_same, rfl, _, _, rfl, ?_⟩
  have npq : p ≠ q := ne_of_none hp3 hq
  refine ⟨_, rfl, p, T.C_House, dx, [], rfl, by rw [upd_ne npq]; exact hp3, T.cl_House, T.na_House_rooms, by decide, ?_⟩
  refine ⟨_, _, rfl, ⟨_, rfl, p, T.C_House, dx, _, rfl, upd_same, T.cl_House, T.na_House_doors, (show (1 : Nat) < 1000 by decide), rfl, ?_⟩⟩
  intro l hl
  have npl : p ≠ l := ne_of_none upd_same hl
  have hl3 : H3 l = none := by
    rw [upd_ne (Ne.symm npl), upd_ne (Ne.symm npl)] at hl
    by_cases hlq : l = q
    · rw [hlq, upd_same] at hl; cases hl
    · rw [upd_ne hlq] at hl; exact hl
  refine ⟨_, rfl, p, T.C_House, dx, _, rfl, by rw [upd_ne npl]; exact upd_same, T.cl_House, T.na_House_looked, (by show (2 : Nat) < 1000; decide), ?_⟩
  have g03 : Gr H0 H3 := (g0.trans (g1.trans g2)).trans g3
  have gq : Gr H0 (upd H3 q (.tup [V.int d, V.ref td'])) := g03.trans (Gr.new hq)
  have hpq : (upd H3 q (.tup [V.int d, V.ref td'])) p = some (.ins T.C_House dx []) := by rw [upd_ne npq]; exact hp3
  have nhA : ∀ (a : V), NotH (.ins T.C_House dx (putF "rooms" a [])) := fun a C' dx' r' t' l' z => by injection z with _ _ z; cases z
  have nhB : ∀ (a b : V), NotH (.ins T.C_House dx (putF "doors" a (putF "rooms" b []))) := fun a b C' dx' r' t' l' z => by injection z with _ _ z; cases z
  have gA := gq.mut (o := .ins T.C_House dx (putF "rooms" (V.int d) [])) np hpq (fun _ z => nomatch z) (nhA _)
  have gB := gA.mut (o := .ins T.C_House dx (putF "doors" (V.ref td') (putF "rooms" (V.int d) []))) np upd_same (fun _ z => nomatch z) (nhB _ _)
  have gC := gB.trans (Gr.new (o := .dK []) hl)
  have hpC : (upd (upd (upd (upd H3 q (.tup [V.int d, V.ref td'])) p (.ins T.C_House dx (putF "rooms" (V.int d) []))) p (.ins T.C_House dx (putF "doors" (V.ref td') (putF "rooms" (V.int d) [])))) l (.dK [])) p = some (.ins T.C_House dx (putF "doors" (V.ref td') (putF "rooms" (V.int d) []))) := by rw [upd_ne npl]; exact upd_same
  have hfin := Neat.fresh (C := T.C_House) (dx := dx) (r := d) (t := td') (gB.neat hneat) hl upd_same
  have gD := gC.mutN (o := .ins T.C_House dx (putF "looked" (V.ref l) (putF "doors" (V.ref td') (putF "rooms" (V.int d) [])))) np hpC (fun _ z => nomatch z) (fun _ => by rw [putF_house]; exact hfin) (fun C' dx' r' t' l' e => by rw [putF_house] at e; injection e with _ _ e; rw [← (hF_inj e).2.2]; exact gB.back hl)
  refine k _ gD ⟨p, dx, td', l, rfl, ?_, gD.neat hneat, ?_, .inl (by rw [upd_ne (Ne.symm npl)]; exact upd_same)⟩
  · rw [upd_same, putF_house]
  · have tk : TupK H3 (upd (upd (upd (upd (upd H3 q (.tup [V.int d, V.ref td'])) p (.ins T.C_House dx (putF "rooms" (V.int d) []))) p (.ins T.C_House dx (putF "doors" (V.ref td') (putF "rooms" (V.int d) [])))) l (.dK [])) p (.ins T.C_House dx (putF "looked" (V.ref l) (putF "doors" (V.ref td') (putF "rooms" (V.int d) []))))) :=
      ((((TupK.new hq).trans (TupK.put hpq (by intro _ z; cases z))).trans (TupK.put upd_same (by intro _ z; cases z))).trans (TupK.new hl)).trans (TupK.put hpC (by intro _ z; cases z))
    exact PyI.keep tk ⟨td', xs', rfl, ht', rd'⟩

def HOk' (r : Int) (ds : List (Int × Int)) : Prop := 1 ≤ r ∧ r ≤ 9 ∧ DoorsOk r ds
abbrev HOk {C : Addr} (h : Hs C) : Prop := HOk' h.r h.ds
theorem ok_besides (T : Ctx K mg) : FnOk P w K mg base CX0 1 T.a_besides T.fd_besides ["house"] (Sp1 (fun (h : Hs T.C_House) => HOk h) (fun h (d : List (List Int)) => d = besM h.r h.ds)) := by
  refine T.F_besides.ok sc_besides (fun vs H Q E h => h.len) (fun cdv A outer s H vs Q E hr h => ?_)
  obtain ⟨v, h, rfl, ra, ⟨h1, h2, h3, h4, h5⟩, k⟩ := h
  refine ⟨_, (pss_cons (ps_if (pt_cmp (pc_dnotin (hu_of hr) pe_str (k_fld (K := K) rfl (pv 0) rfl)) (by rfl)) (pss_cons (ps_setLc (i := 1) (own := [("room", 2)]) rfl sc_besides.nd rfl rfl (sw_true rfl rfl rfl (by decide +kernel)) (pi_range1 (by rfl) T.n_range (pa_cons (k_fld (K := K) rfl (pv 0) rfl) pa_nil)) (blkOk_by (by kernel_rfl)) (fun _ _ _ _ _ => (pg_name (i := 2) sc_besides.nd rfl (Or.inl rfl) (Or.inr rfl))) (fun _ _ _ _ _ => pts_nil) (fun _ _ _ _ _ => (pe_lst pa_nil)))
      (pss_cons (ps_for PassesOwn.never rfl (k_pi_tup (K := K) rfl (k_fld (K := K) rfl (pv 0) rfl)) (k_pg_tup (K := K) (n := 2) rfl rfl (pgs_cons (pg_name (i := 3) sc_besides.nd rfl (Or.inl rfl) (Or.inr rfl)) (pgs_cons (pg_name (i := 4) sc_besides.nd rfl (Or.inl rfl) (Or.inr rfl)) pgs_nil)) rfl)
      (pss_cons (ps_expr (k_bm (K := K) rfl PySem.F.plainAttrs_list PySem.F.slot_list_append PySem.F.type_list_append mt_append (pe_ix (k_ix_list (K := K) rfl) (pv 1) (pv 3) (fun _ _ => rfl)) (pa_cons (pv 4) pa_nil)))
      (pss_one (ps_expr (k_bm (K := K) rfl PySem.F.plainAttrs_list PySem.F.slot_list_append PySem.F.type_list_append mt_append (pe_ix (k_ix_list (K := K) rfl) (pv 1) (pv 4) (fun _ _ => rfl)) (pa_cons (pv 3) pa_nil))))))
      (pss_one (ps_dput (hu_of hr) (k_fld (K := K) rfl (pv 0) rfl) pe_str (pe_callTy (k_tuple_of (K := K) rfl) (by rfl) T.n_tuple (by decide +kernel) (pa_cons (pe_lc (own := [("row", 5)]) rfl sc_besides.nd (k_pi_list (K := K) rfl (pv 1)) (blkOk_by (by kernel_rfl)) (fun _ _ _ _ _ => (pg_name (i := 5) sc_besides.nd rfl (Or.inl rfl) (Or.inr rfl))) (fun _ _ _ _ _ => pts_nil) (fun _ _ _ _ _ => (pe_callTy (k_tuple_of (K := K) rfl) (by rfl) T.n_tuple (by decide +kernel) (pa_cons (pe_callB (cr_sortedG rfl hr.units) (by rfl) T.n_sorted (by decide +kernel) (pa_cons (pv 5) pa_nil)) pa_nil)))) pa_nil)) rfl)))) pss_nil)
      (pss_one (ps_ret (pe_dget (hu_of hr) (k_fld (K := K) rfl (pv 0) rfl) pe_str (fun _ _ => rfl))))), ?_⟩
  have fin : ∀ σ1 H1, σ1[0]? = some (some v) → Gr H H1 → Warm h v H1 → tRet (tDGet (tFld K (tVar 0) "looked") (tC (.str "beside"))) { nx := fun _ H' => Q .non H', rt := Q } σ1 H1 := fun σ1 H1 e g w =>
    s_retE (ev_bes T.cl_House T.na_House_looked e w) fun x H2 g2 r => k _ _ H2 rfl (g.trans g2) r
  refine q_cold T.cl_House T.na_House_looked rfl ra ?_ (fun w => fin _ _ rfl (Gr.refl _) w)
  refine q_nest (α := Int) (src_rng1 (ev_rooms T.cl_House T.na_House_rooms (ev_var rfl ra)) (by omega)).src (by rw [rngI_length]; omega) (fun _ => rfl) fun A as H2 g2 N => ?_
  rw [rngI_length, ← nbAll_nil] at N
  refine q_forT (src_tup (ev_doors T.cl_House T.na_House_doors (ev_var rfl (Py.mono g2 ra)))) fun H3 g3 => ?_
  refine ⟨fun i σ' H' => Gr H H' ∧ TupK H3 H' ∧ Nest H H' A as (nbAll h.r (h.ds.take i)) ∧ σ'[0]? = some (some v) ∧ σ'[1]? = some (some (.ref A)) ∧ σ'.length = 6, ⟨g2.trans g3, TupK.refl _, by simpa using N.gr g3, rfl, rfl, rfl⟩, fun i σ' H' p => p.2.1, ?_, ?_⟩
  · rintro i ⟨a, b⟩ x σ' H' H'' hd ⟨g4, tk, N4, s0, s1, sl⟩ g5 rx
    refine gTup2 rx fun y z ry rz => ?_
    have hm := List.mem_of_getElem? hd
    obtain ⟨o1, o2, o3⟩ := h3 _ hm
    have hi := (List.getElem?_eq_some_iff.mp hd).1
    have htk : h.ds.take (i + 1) = h.ds.take i ++ [(a, b)] := by rw [List.take_add_one, hd]; rfl
    have hle : (h.ds.take i).length ≤ 40000 := by rw [List.length_take]; omega
    simp only [] at o1 o2 o3
    have v1 := nbAll_get (r := h.r) (l := h.ds.take i) (a := a) o1 (by omega)
    have l1 := nbrs_length a (h.ds.take i)
    have l2 := nbrs_length b (h.ds.take i)
    have e3 : ((σ'.set 3 (some y)).set 4 (some z))[3]? = some (some y) := by simp [sl]
    have e4 : ((σ'.set 3 (some y)).set 4 (some z))[4]? = some (some z) := by simp [sl]
    have e1 : ((σ'.set 3 (some y)).set 4 (some z))[1]? = some (some (.ref A)) := sne (by decide) (sne (by decide) s1)
    refine q_nestApp (d := b) (N4.gr g5) (g4.trans g5) e1 (ev_var e3 ry) (ev_var e4 rz) o1 v1 (by omega) fun H5 g6 tk6 N5 => ?_
    have v2 : ((nbAll h.r (h.ds.take i)).set a.toNat (nbrs a (h.ds.take i) ++ [b]))[b.toNat]? = some (nbrs b (h.ds.take i)) := by
      rw [List.getElem?_set_ne (by omega)]; exact nbAll_get (by omega) (by omega)
    refine s_nestApp (d := a) N5 g6 e1 (ev_var e4 (PyI.keep tk6 rz)) (ev_var e3 (PyI.keep tk6 ry)) (by omega) v2 (by omega) fun H6 g7 tk7 N6 => ?_
    rw [nbAll_snoc o1 (by omega) (by omega) o3 (by omega)] at N6
    refine ⟨g7, ((tk.trans g5.tup).trans tk6).trans tk7, by rw [htk]; exact N6, sne (by decide) (sne (by decide) s0), e1, by simp [sl]⟩
  · rintro σ' H' ⟨g4, tk, N4, s0, s1, sl⟩
    rw [List.take_length] at N4
    have hw : ∀ x, wipe ((wipe σ' [5]).set 5 (some x)) [5] = wipe σ' [5] := fun x => by simp [wipe]
    refine s_warm T.cl_House T.na_House_looked s0 (Py.mono g4 ra) (ev_is (ev_tupL (el_mapN (v := fun (l : Ls Int) => sortO l.l) (src_lstG (ev_var s1 N4.rep)) (by simp [nbAll]; omega) hw fun d x H5 m g5 rx => ev_tupL (ev_sortedL (ev_var (by simp [wipe, sl]) rx) (fun _ _ => trivial)))) ?_) fun H1 g w => fin _ _ s0 (g4.trans g) w
    rw [List.map_map, ← besM_nb]; rfl

def nearsM (r : Int) (ds : List (Int × Int)) : List (List Int) := (numL (besM r ds)).map fun p => sortO (p.2 ++ [p.1])
theorem numL_mem {α : Type} {l : List α} {d : Int × α} (h : d ∈ numL l) : d.2 ∈ l := by
  obtain ⟨i, hi⟩ := List.mem_iff_getElem?.mp h
  exact List.mem_of_getElem? (numL_get hi).2
theorem besM_len {r : Int} {ds : List (Int × Int)} (ok : HOk' r ds) {l : List Int} (m : l ∈ besM r ds) : l.length ≤ 80000 := by
  unfold besM at m
  obtain ⟨a, _, rfl⟩ := List.mem_map.mp m
  unfold isortI
  rw [List.length_mergeSort]
  have := nbrs_length (a : Int) ds
  have := ok.2.2.2.2
  omega
theorem ok_nears (T : Ctx K mg) : FnOk P w K mg base CX0 2 T.a_nears T.fd_nears ["house"] (Sp1 (fun (h : Hs T.C_House) => HOk h) (fun h (d : List (List Int)) => d = nearsM h.r h.ds)) := by
  have G_besides := ok_besides (P := P) (w := w) (base := base) T
  refine T.F_nears.ok sc_nears (fun vs H Q E h => h.len) (fun cdv A outer s H vs Q E hr h => ?_)
  obtain ⟨v, h, rfl, ra, ok, k⟩ := h
  have hb : (besM h.r h.ds).length ≤ 100000 := by unfold besM; rw [List.length_map, List.length_range]; have := ok.2.1; omega
  refine ⟨_, (pss_one (ps_ret (pe_callTy (k_tuple_of (K := K) rfl) (by rfl) T.n_tuple (by decide +kernel) (pa_cons (pe_lc (own := [("room", 1), ("row", 2)]) rfl sc_nears.nd (k_pi_enumT (K := K) rfl (by rfl) T.n_enumerate (pa_cons (pe_call (G_besides) (hr.mono (by first | decide | omega)) (by rfl) T.m_besides T.F_besides.kp T.b_besides .nil pass0 (pa_cons (pv 0) pa_nil)) pa_nil)) (blkOk_by (by kernel_rfl)) (fun _ _ _ _ _ => (k_pg_tup (K := K) (n := 2) rfl rfl (pgs_cons (pg_name (i := 1) sc_nears.nd rfl (Or.inl rfl) (Or.inr rfl)) (pgs_cons (pg_name (i := 2) sc_nears.nd rfl (Or.inl rfl) (Or.inr rfl)) pgs_nil)) rfl)) (fun _ _ _ _ _ => pts_nil) (fun _ _ _ _ _ => (pe_callTy (k_tuple_of (K := K) rfl) (by rfl) T.n_tuple (by decide +kernel) (pa_cons (pe_callB (cr_sortedG rfl hr.units) (by rfl) T.n_sorted (by decide +kernel) (pa_cons (pe_op (k_catT (K := K) rfl) (pv 2) (pe_tup (pa_cons (pv 1) pa_nil))) pa_nil)) pa_nil)))) pa_nil)))), ?_⟩
  exact s_retE (ev_tupL (el_mapP (src_enumT (ev_call1 (m := fun (h : Hs T.C_House) => besM h.r h.ds) (ev_var rfl ra) ok)).src (by rw [numL_length]; exact hb) (fun _ _ => rfl) fun d x y H' m g rx ry =>
      ev_tupL (ev_sortedT (ev_catT (ev_var rfl ry) (ev_tup (eal_cons (ev_var rfl rx) eal_nil) (by show 1 ≤ _; decide)) (by have := besM_len ok (numL_mem m); show _ + 1 ≤ 100000; omega)) (fun _ _ => trivial)))) fun v H1 g r => k _ v H1 rfl g r

end
end Cl
namespace Cl
open PySem L2 Zw RZ
section
variable {P : Program} {w : World} {K : PySem.W.Frag} {mg : Str → Option Value} {base : Heap}
theorem ok_is_lot_of (T : Ctx K mg) : FnOk P w K mg base CX0 4 T.a_is_lot_of T.fd_is_lot_of ["house", "thing"] (Sp2 (fun (h : Hs T.C_House) (l : List Int) => LotOk h.r l) (fun _ _ (d : Bool) => d = true)) := by
  have G_is_lot := ok_is_lot (P := P) (w := w) (base := base) T
  refine T.F_is_lot_of.ok sc_is_lot_of (fun vs H Q E h => h.len) (fun cdv A outer s H vs Q E hr h => ?_)
  obtain ⟨v, v', h, l, rfl, ra, rb, ok, k⟩ := h
  refine ⟨_, (pss_one (ps_ret (pe_call (G_is_lot) (hr.mono (by first | decide | omega)) (by rfl) T.m_is_lot T.F_is_lot.kp T.b_is_lot .nil pass0 (pa_cons (pv 1) (pa_cons (k_fld (K := K) rfl (pv 0) rfl) pa_nil))))), ?_⟩
  exact s_ret (ed_call2 (ev_var rfl rb) (ev_rooms T.cl_House T.na_House_rooms (ev_var rfl ra)) (fun _ _ ea eb => by subst ea eb; exact ok) (fun _ _ _ _ _ p => p)) fun d v H1 p g r => k d v H1 p g r

theorem ok_check_lot (T : Ctx K mg) : FnOk P w K mg base CX0 5 T.a_check_lot T.fd_check_lot ["house", "lot"] (Sp2 (fun (h : Hs T.C_House) (l : List Int) => LotOk h.r l) (fun _ _ (d : Unit) => True)) := by
  have G_is_lot_of := ok_is_lot_of (P := P) (w := w) (base := base) T
  refine T.F_check_lot.ok sc_check_lot (fun vs H Q E h => h.len) (fun cdv A outer s H vs Q E hr h => ?_)
  obtain ⟨v, v', h, ws, rfl, ra, rb, ok, k⟩ := h
  refine ⟨_, (pss_one (ps_if (pt_not (pt_val (pe_call (G_is_lot_of) (hr.mono (by first | decide | omega)) (by rfl) T.m_is_lot_of T.F_is_lot_of.kp T.b_is_lot_of .nil pass0 (pa_cons (pv 0) (pa_cons (pv 1) pa_nil))))) (pss_one ps_never) pss_nil)), ?_⟩
  exact s_when (b := !true) (et_not (et_B (ed_call2 (ev_var rfl ra) (ev_var rfl rb) (fun _ _ ea eb => by subst ea eb; exact ok) (fun _ _ _ _ _ p => p)))) (fun hb => absurd hb (by simp)) fun _ H1 g => k () _ H1 trivial g rfl

def RowOk (r : Int) (l : List Int) : Prop := 0 ≤ r ∧ r ≤ 9 ∧ l.Perm (rngI 0 r.toNat)
theorem rngI_le (lo : Int) (n : Nat) : (rngI lo n).Pairwise (· ≤ ·) := by
  unfold rngI
  exact List.Pairwise.map _ (fun a b h => by omega) List.pairwise_lt_range
theorem ok_is_row_of (T : Ctx K mg) : FnOk P w K mg base CX0 3 T.a_is_row_of T.fd_is_row_of ["house", "thing"] (Sp2 (fun (h : Hs T.C_House) (l : List Int) => RowOk h.r l) (fun _ _ (d : Bool) => d = true)) := by
  have G_is_tuple := ok_is_tuple (P := P) (w := w) (base := base) T
  have G_is_within := ok_is_within (P := P) (w := w) (base := base) T
  refine T.F_is_row_of.ok sc_is_row_of (fun vs H Q E h => h.len) (fun cdv A outer s H vs Q E hr h => ?_)
  obtain ⟨v, v', h, l, rfl, ra, rb, ⟨r0, r9, pm⟩, k⟩ := h
  have hl : l.length = h.r.toNat := by rw [pm.length_eq, rngI_length]
  refine ⟨_, (pss_cons (ps_if (pt_not (pt_val (pe_call (G_is_tuple) (hr.mono (by first | decide | omega)) (by rfl) T.m_is_tuple T.F_is_tuple.kp T.b_is_tuple .nil pass0 (pa_cons (pv 1) (pa_cons (k_fld (K := K) rfl (pv 0) rfl) (pa_cons (k_fld (K := K) rfl (pv 0) rfl) pa_nil)))))) (pss_one (ps_ret pe_bl)) pss_nil)
      (pss_cons (ps_if (pt_not (pt_val (pe_callB (k_all (K := K) rfl rfl) (by rfl) T.n_all (by decide +kernel) (pa_cons (pe_lc (own := [("room", 2)]) rfl sc_is_row_of.nd (k_pi_tup (K := K) rfl (pv 1)) (blkOk_by (by kernel_rfl)) (fun _ _ _ _ _ => (pg_name (i := 2) sc_is_row_of.nd rfl (Or.inl rfl) (Or.inr rfl))) (fun _ _ _ _ _ => pts_nil) (fun _ _ _ _ _ => (pe_call (G_is_within) (hr.mono (by first | decide | omega)) (by rfl) T.m_is_within T.F_is_within.kp T.b_is_within .nil pass0 (pa_cons (pv 2) (pa_cons pe_int (pa_cons (pe_op op_sub (k_fld (K := K) rfl (pv 0) rfl) pe_int) pa_nil)))))) pa_nil)))) (pss_one (ps_ret pe_bl)) pss_nil)
      (pss_one (ps_ret (pe_cmpR (k_eqD (K := K) rfl hr.units) (pe_callB (cr_sortedG rfl hr.units) (by rfl) T.n_sorted (by decide +kernel) (pa_cons (pv 1) pa_nil)) (pe_listRg rfl (by rfl) T.n_list (prg_1 (by rfl) T.n_range (k_fld (K := K) rfl (pv 0) rfl))) (nomark _)))))), ?_⟩
  refine q_when (b := !true) (et_not (et_B (ed_call3 (ev_cast (b := TupN.mk l.length) (ev_var rfl rb) fun v H' r => tupN_list r) (ev_rooms T.cl_House T.na_House_rooms (ev_var rfl ra)) (ev_rooms T.cl_House T.na_House_rooms (ev_var rfl ra)) (fun _ _ _ _ _ _ => trivial) (fun a b c d ea eb ec p => by subst ea eb ec; rw [p]; simp; omega)))) (fun hb => absurd hb (by simp)) fun _ H1 g1 => ?_
  have ra1 := Py.mono g1 ra
  have rb1 := Py.mono g1 rb
  refine q_when (b := !((List.map (fun _ => true) l).all id)) (et_not (et_B (ev_all (el_mapN (src_tup (ev_var rfl rb1)).src (by omega) (fun _ => rfl) fun d x H' m g rx =>
      ed_call3 (ev_var rfl rx) ev_int (ev_sub (ev_rooms T.cl_House T.na_House_rooms (ev_var rfl (Py.mono g ra1))) ev_int) (fun _ _ _ _ _ _ => trivial) (fun a b c d' ea eb ec p => by subst ea eb ec; have := mem_rngI.mp (pm.mem_iff.mp m); rw [p]; simp; omega))))) (fun hb => absurd hb (by simp)) fun _ H2 g2 => ?_
  exact s_retE (ev_eqD (a := Ls.mk (sortO l)) (b := Ls.mk (rngI 0 h.r.toNat)) (ev_sortedT (ev_var rfl (Py.mono g2 rb1)) (fun _ _ => trivial)) (edF_rg1 (ev_rooms T.cl_House T.na_House_rooms (ev_var rfl (Py.mono g2 ra1))) (by omega)).ed) fun v H3 g3 r => k _ v H3 (by
    rw [sortO_of_perm pm, sortO_id (rngI_le _ _)]; simp) ((g1.trans g2).trans g3) r

theorem ok_check_row (T : Ctx K mg) : FnOk P w K mg base CX0 4 T.a_check_row T.fd_check_row ["house", "row"] (Sp2 (fun (h : Hs T.C_House) (l : List Int) => RowOk h.r l) (fun _ _ (d : Unit) => True)) := by
  have G_is_row_of := ok_is_row_of (P := P) (w := w) (base := base) T
  refine T.F_check_row.ok sc_check_row (fun vs H Q E h => h.len) (fun cdv A outer s H vs Q E hr h => ?_)
  obtain ⟨v, v', h, ws, rfl, ra, rb, ok, k⟩ := h
  refine ⟨_, (pss_one (ps_if (pt_not (pt_val (pe_call (G_is_row_of) (hr.mono (by first | decide | omega)) (by rfl) T.m_is_row_of T.F_is_row_of.kp T.b_is_row_of .nil pass0 (pa_cons (pv 0) (pa_cons (pv 1) pa_nil))))) (pss_one ps_never) pss_nil)), ?_⟩
  exact s_when (b := !true) (et_not (et_B (ed_call2 (ev_var rfl ra) (ev_var rfl rb) (fun _ _ ea eb => by subst ea eb; exact ok) (fun _ _ _ _ _ p => p)))) (fun hb => absurd hb (by simp)) fun _ H1 g => k () _ H1 trivial g rfl

def openM (r : Int) (ds : List (Int × Int)) (l : List Int) : List Int := l.filter fun room => !(((nearsM r ds).getD room.toNat []).map (fun z => decide (z ∈ l))).all id
theorem nearsM_length (r : Int) (ds : List (Int × Int)) : (nearsM r ds).length = r.toNat := by
  unfold nearsM; rw [List.length_map, numL_length]; unfold besM; simp
theorem nbrs_len1 (a : Int) : ∀ l : List (Int × Int), (∀ d ∈ l, d.1 < d.2) → (nbrs a l).length ≤ l.length
  | [], _ => Nat.zero_le _
  | (x, y) :: l, h => by
    have h1 := nbrs_len1 a l fun d m => h d (List.mem_cons_of_mem _ m)
    have h2 : x < y := h (x, y) List.mem_cons_self
    show ((if x = a then [y] else []) ++ (if y = a then [x] else []) ++ nbrs a l).length ≤ _
    rw [List.length_append, List.length_append, List.length_cons]
    by_cases hx : x = a
    · rw [if_pos hx, if_neg (by omega)]; simp; omega
    · rw [if_neg hx]
      have : (if y = a then [x] else ([] : List Int)).length ≤ 1 := by split <;> simp
      simp at this ⊢; omega
theorem nearsM_row {r : Int} {ds : List (Int × Int)} (ok : HOk' r ds) : ∀ z ∈ nearsM r ds, z.length ≤ 37 := fun z hr => by
  unfold nearsM at hr
  obtain ⟨p, hp, rfl⟩ := List.mem_map.mp hr
  rw [sortO_len, List.length_append]
  have := numL_mem hp
  unfold besM at this
  obtain ⟨a, _, e⟩ := List.mem_map.mp this
  rw [← e]
  unfold isortI
  rw [List.length_mergeSort]
  have h1 := nbrs_len1 (a : Int) ds fun d m => (ok.2.2.1 d m).2.1
  have h2 := ok.2.2.2.2
  simp; omega
theorem ok_open_of (T : Ctx K mg) : FnOk P w K mg base CX0 3 T.a_open_of T.fd_open_of ["house", "lot"] (Sp2 (fun (h : Hs T.C_House) (l : List Int) => HOk h ∧ (∀ x ∈ l, 0 ≤ x ∧ x < h.r) ∧ l.length ≤ 100) (fun h l (d : List Int) => d = openM h.r h.ds l)) := by
  have G_nears := ok_nears (P := P) (w := w) (base := base) T
  refine T.F_open_of.ok sc_open_of (fun vs H Q E h => h.len) (fun cdv A outer s H vs Q E hr h => ?_)
  obtain ⟨v, v', h, l, rfl, ra, rb, ⟨ok, hin, hl⟩, k⟩ := h
  refine ⟨_, (pss_one (ps_ret (pe_callTy (k_tuple_of (K := K) rfl) (by rfl) T.n_tuple (by decide +kernel) (pa_cons (pe_lc (own := [("room", 2)]) rfl sc_open_of.nd (k_pi_tup (K := K) rfl (pv 1)) (blkOk_by (by kernel_rfl)) (fun _ _ _ _ _ => (pg_name (i := 2) sc_open_of.nd rfl (Or.inl rfl) (Or.inr rfl))) (fun _ _ _ _ _ => (pts_one (pt_not (pt_val (pe_callB (k_all (K := K) rfl rfl) (by rfl) T.n_all (by decide +kernel) (pa_cons (pe_lc (own := [("near", 3)]) rfl sc_open_of.nd (k_pi_tup (K := K) rfl (pe_ix (k_ix_tup (K := K) rfl) (pe_call (G_nears) (hr.mono (by first | decide | omega)) (by rfl) T.m_nears T.F_nears.kp T.b_nears .nil pass0 (pa_cons (pv 0) pa_nil)) (pv 2) (fun _ _ => rfl))) (blkOk_by (by kernel_rfl)) (fun _ _ _ _ _ => (pg_name (i := 3) sc_open_of.nd rfl (Or.inl rfl) (Or.inr rfl))) (fun _ _ _ _ _ => pts_nil) (fun _ _ _ _ _ => (pe_cmpR (k_in_seq (K := K) rfl) (pv 3) (pv 1) (by rfl)))) pa_nil)))))) (fun _ _ _ _ _ => (pv 2))) pa_nil)))), ?_⟩
  exact s_retE (ev_tupL (ev_is (el_lcN (f := fun room => !(((nearsM h.r h.ds).getD room.toNat []).map (fun z => decide (z ∈ l))).all id) (v := fun z => z) (src_tup (ev_var rfl rb)).src (by omega) (fun _ => rfl) (fun d x H' m g rx => by
    obtain ⟨w0, w1⟩ := hin d m
    obtain ⟨row, hat, hrow⟩ := atI_nat (l := nearsM h.r h.ds) w0 (by rw [nearsM_length]; omega)
    have hgd : (nearsM h.r h.ds).getD d.toNat [] = row := by rw [List.getD_eq_getElem?_getD, hrow]; rfl
    have hrl := nearsM_row ok row (List.mem_of_getElem? hrow)
    rw [hgd]
    exact et_not (et_B (ev_all (el_mapN (src_tup (ev_ixT (ev_call1 (m := fun (h : Hs T.C_House) => nearsM h.r h.ds) (ev_var rfl (Py.mono g ra)) ok) (ev_var rfl rx) hat)).src (by omega) (fun _ => rfl) fun d' x' H2 m' g' rx' => ev_is (ev_inIT (neg := false) (ev_var rfl rx') (ev_var rfl (Py.mono (g.trans g') rb))) (by simp)))))
    (fun d x H' m g rx _ => ev_var rfl rx)) (by rw [List.map_id']; rfl))) fun v H1 g r => k _ v H1 rfl g r

theorem ok_open_rooms (T : Ctx K mg) : FnOk P w K mg base CX0 6 T.a_open_rooms T.fd_open_rooms ["house", "lot"] (Sp2 (fun (h : Hs T.C_House) (l : List Int) => HOk h ∧ LotOk h.r l) (fun h l (d : List Int) => d = openM h.r h.ds l)) := by
  have G_check_lot := ok_check_lot (P := P) (w := w) (base := base) T
  have G_open_of := ok_open_of (P := P) (w := w) (base := base) T
  refine T.F_open_rooms.ok sc_open_rooms (fun vs H Q E h => h.len) (fun cdv A outer s H vs Q E hr h => ?_)
  obtain ⟨v, v', h, l, rfl, ra, rb, ⟨ok, lok⟩, k⟩ := h
  refine ⟨_, (pss_cons (ps_expr (pe_call (G_check_lot) (hr.mono (by first | decide | omega)) (by rfl) T.m_check_lot T.F_check_lot.kp T.b_check_lot .nil pass0 (pa_cons (pv 0) (pa_cons (pv 1) pa_nil))))
      (pss_one (ps_ret (pe_call (G_open_of) (hr.mono (by first | decide | omega)) (by rfl) T.m_open_of T.F_open_of.kp T.b_open_of .nil pass0 (pa_cons (pv 0) (pa_cons (pv 1) pa_nil)))))), ?_⟩
  refine q_drop (P := fun (_ : Unit) => True) (ed_call2 (ev_var rfl ra) (ev_var rfl rb) (fun _ _ ea eb => by subst ea eb; exact lok) (fun _ _ _ _ _ _ => trivial)) fun H1 g1 => ?_
  exact s_ret (ed_call2 (ev_var rfl (Py.mono g1 ra)) (ev_var rfl (Py.mono g1 rb)) (fun _ _ ea eb => by subst ea eb; exact ⟨ok, lok.1, lok.2.2⟩) (fun _ _ _ ea eb p => by subst ea eb; exact p)) fun d v H2 p g r => k d v H2 p (g1.trans g) r

theorem cutL_head {α : Type} (l : List α) {i : Int} (h : 0 ≤ i) : cutL l none (some i) = l.take i.toNat := by
  obtain ⟨n, rfl⟩ := Int.eq_ofNat_of_zero_le h
  unfold cutL
  rw [HT.sIx_none, show HT.sIx l.length l.length (some (n : Int)) = min n l.length from HT.sIx_nat l.length l.length n]
  simp
theorem ok_begun (T : Ctx K mg) : FnOk P w K mg base CX0 1 T.a_begun T.fd_begun ["row", "at"] (Sp2 (fun (row : List Int) (at_ : Int) => 0 ≤ at_ ∧ row.length ≤ 100) (fun row at_ (d : List Int) => d = sortO (row.take at_.toNat))) := by
  refine T.F_begun.ok sc_begun (fun vs H Q E h => h.len) (fun cdv A outer s H vs Q E hr h => ?_)
  obtain ⟨v, v', row, i, rfl, ra, rb, ⟨i0, hl⟩, k⟩ := h
  refine ⟨_, (pss_one (ps_ret (pe_callTy (k_tuple_of (K := K) rfl) (by rfl) T.n_tuple (by decide +kernel) (pa_cons (pe_callB (cr_sortedG rfl hr.units) (by rfl) T.n_sorted (by decide +kernel) (pa_cons (pe_slice (k_sl_tup (K := K) rfl) (pv 0) po_none (po_some (pv 1))) pa_nil)) pa_nil)))), ?_⟩
  exact s_retE (ev_tupL (ev_sortedT (ev_is (ev_slT (ev_var rfl ra) eo_none (eo_some (ev_var rfl rb))) (cutL_head row i0)) (fun _ _ => trivial))) fun v H1 g r => k _ v H1 rfl g r

end
end Cl
namespace Cl
open PySem L2 Zw RZ
section
variable {P : Program} {w : World} {K : PySem.W.Frag} {mg : Str → Option Value} {base : Heap}
theorem rngI_at {n i : Nat} (h : i < n) : (rngI 0 n)[i]? = some (i : Int) := by
  unfold rngI
  rw [List.getElem?_map, List.getElem?_range h]
  simp
theorem numL_at {α : Type} {l : List α} {i : Nat} {x : α} (h : l[i]? = some x) : (numL l)[i]? = some ((i : Int), x) := by
  unfold numL
  exact List.getElem?_zip_eq_some.mpr ⟨rngI_at (List.getElem?_eq_some_iff.mp h).1, h⟩
theorem near_nearsM {r : Int} {ds : List (Int × Int)} (ok : HOk' r ds) {w o : Int} (w0 : 0 ≤ w) (w1 : w < r) : o ∈ (nearsM r ds).getD w.toNat [] ↔ Near r ds w o := by
  have hb : (besM r ds)[w.toNat]? = some (isortI (nbrs w ds)) := by
    unfold besM
    rw [List.getElem?_map, List.getElem?_range (by omega)]
    show some (isortI (nbrs ((w.toNat : Nat) : Int) ds)) = _
    rw [Int.toNat_of_nonneg w0]
  have hm : (nearsM r ds)[w.toNat]? = some (sortO (isortI (nbrs w ds) ++ [w])) := by
    unfold nearsM
    rw [List.getElem?_map, numL_at hb]
    show some (sortO (isortI (nbrs w ds) ++ [((w.toNat : Nat) : Int)])) = _
    rw [Int.toNat_of_nonneg w0]
  rw [List.getD_eq_getElem?_getD, hm]
  show o ∈ sortO (isortI (nbrs w ds) ++ [w]) ↔ _
  rw [mem_sortO, List.mem_append, ← isortI_eq, mem_sortO, mem_nbrs]
  have rng : ∀ d ∈ ds, 0 ≤ d.1 ∧ d.1 < d.2 ∧ d.2 < r := ok.2.2.1
  constructor
  · rintro ((m | m) | m)
    · have := rng _ m; simp only [] at this
      exact ⟨⟨w0, w1⟩, ⟨by omega, by omega⟩, .inr (.inl m)⟩
    · have := rng _ m; simp only [] at this
      exact ⟨⟨w0, w1⟩, ⟨by omega, by omega⟩, .inr (.inr m)⟩
    · simp at m; subst m; exact ⟨⟨w0, w1⟩, ⟨w0, w1⟩, .inl rfl⟩
  · rintro ⟨_, _, e | m | m⟩
    · subst e; exact .inr (by simp)
    · exact .inl (.inl m)
    · exact .inl (.inr m)
def SprOk (r : Int) (ds : List (Int × Int)) (rooms barred ks : List Int) : Prop := ks.Nodup ∧ (∀ k ∈ ks, 0 ≤ k ∧ k < r) ∧ ∀ S : Int → Prop, (∀ f ∈ rooms, f ∉ barred → S f) → (∀ y, S y → ∀ z, Near r ds y z → z ∉ barred → S z) → ∀ k ∈ ks, S k
structure SInv (r : Int) (ds : List (Int × Int)) (rooms barred : List Int) (kv : List (Int × Bool)) (wt : List Int) : Prop where
  nd : (keysD kv).Nodup
  kr : ∀ k ∈ keysD kv, 0 ≤ k ∧ k < r
  wr : ∀ w ∈ wt, 0 ≤ w ∧ w < r
  up : ∀ S : Int → Prop, (∀ f ∈ rooms, f ∉ barred → S f) → (∀ y, S y → ∀ z, Near r ds y z → z ∉ barred → S z) → (∀ k ∈ keysD kv, S k) ∧ ∀ w ∈ wt, w ∉ barred → S w
def free (r : Int) (kv : List (Int × Bool)) : Nat := ((rngI 0 r.toNat).filter fun x => decide (x ∉ keysD kv)).length
theorem free_le (r : Int) (kv : List (Int × Bool)) : free r kv ≤ r.toNat := by
  unfold free
  refine Nat.le_trans (List.length_filter_le _ _) ?_
  rw [rngI_length]; exact Nat.le_refl _
theorem filter_lt {α : Type} {p q : α → Bool} {x : α} : ∀ {l : List α}, (∀ a ∈ l, p a = true → q a = true) → x ∈ l → p x = false → q x = true → (l.filter p).length < (l.filter q).length
  | [], _, m, _, _ => by simp at m
  | a :: l, h, m, hp, hq => by
    have hle : ∀ l : List α, (∀ a ∈ l, p a = true → q a = true) → (l.filter p).length ≤ (l.filter q).length := fun l => by
      induction l with
      | nil => intro _; exact Nat.le_refl _
      | cons b l ih =>
        intro h
        have := ih fun a m => h a (List.mem_cons_of_mem _ m)
        rw [List.filter_cons, List.filter_cons]
        split
        · rename_i e
          rw [if_pos (h b List.mem_cons_self e)]
          simp; omega
        · split
          · simp; omega
          · exact this
    rw [List.filter_cons, List.filter_cons]
    rcases List.mem_cons.mp m with e | m
    · subst e
      rw [hp, hq]
      have := hle l fun a m => h a (List.mem_cons_of_mem _ m)
      simp; omega
    · have ih := filter_lt (fun a m => h a (List.mem_cons_of_mem _ m)) m hp hq
      split
      · rename_i e
        rw [if_pos (h a List.mem_cons_self e)]
        simp; omega
      · split
        · simp; omega
        · exact ih
theorem free_put {r : Int} {kv : List (Int × Bool)} {x : Int} {v : Bool} (hx : 0 ≤ x ∧ x < r) (hn : x ∉ keysD kv) : free r (putD kv x v) + 1 ≤ free r kv := by
  unfold free
  refine filter_lt (x := x) (fun a _ h => ?_) (mem_rngI.mpr (by omega)) ?_ ?_
  · simp at h ⊢
    exact fun m => h (mem_putD.mpr (.inr m))
  · simp
    exact mem_putD.mpr (.inl rfl)
  · simpa using hn
theorem keys_len {r : Int} {kv : List (Int × Bool)} (nd : (keysD kv).Nodup) (kr : ∀ k ∈ keysD kv, 0 ≤ k ∧ k < r) : (keysD kv).length ≤ r.toNat := by
  have p : (keysD kv).Perm ((rngI 0 r.toNat).filter fun x => decide (x ∈ keysD kv)) := (List.perm_ext_iff_of_nodup nd (List.Nodup.sublist List.filter_sublist (rngI_nodup _ _))).mpr fun a => by
    rw [List.mem_filter, mem_rngI]
    constructor
    · intro m; have := kr a m; exact ⟨by omega, by simpa using m⟩
    · intro m; simpa using m.2
  rw [p.length_eq]
  refine Nat.le_trans (List.length_filter_le _ _) ?_
  rw [rngI_length]; exact Nat.le_refl _
theorem sinv_put {r : Int} {ds : List (Int × Int)} {rooms barred : List Int} {kv : List (Int × Bool)} {wt row : List Int} {x : Int} (ok : HOk' r ds) (i : SInv r ds rooms barred kv (wt ++ [x])) (h1 : x ∉ keysD kv) (h2 : x ∉ barred) (hx : 0 ≤ x ∧ x < r) (hr : ∀ z ∈ row, Near r ds x z) : SInv r ds rooms barred (putD kv x true) (wt ++ row) := by
  refine ⟨nodup_putD i.nd, fun k m => ?_, fun w m => ?_, fun S s1 s2 => ?_⟩
  · rcases mem_putD.mp m with e | m
    · subst e; exact hx
    · exact i.kr k m
  · rcases List.mem_append.mp m with m | m
    · exact i.wr w (List.mem_append_left _ m)
    · exact (hr w m).2.1
  · have hu := i.up S s1 s2
    have hSx : S x := hu.2 x (by simp) h2
    refine ⟨fun k m => ?_, fun w m hb => ?_⟩
    · rcases mem_putD.mp m with e | m
      · subst e; exact hSx
      · exact hu.1 k m
    · rcases List.mem_append.mp m with m | m
      · exact hu.2 w (List.mem_append_left _ m) hb
      · exact s2 x hSx w (hr w m) hb
theorem sinv_skip {r : Int} {ds : List (Int × Int)} {rooms barred : List Int} {kv : List (Int × Bool)} {wt : List Int} {x : Int} (i : SInv r ds rooms barred kv (wt ++ [x])) (_h : x ∉ keysD kv → x ∈ barred) : SInv r ds rooms barred kv wt :=
  ⟨i.nd, i.kr, fun w m => i.wr w (List.mem_append_left _ m), fun S s1 s2 => ⟨(i.up S s1 s2).1, fun w m hb => (i.up S s1 s2).2 w (List.mem_append_left _ m) hb⟩⟩
theorem ok_spread (T : Ctx K mg) : FnOk P w K mg base CX0 3 T.a_spread T.fd_spread ["house", "rooms", "barred"] (Sp3 (fun (h : Hs T.C_House) (rooms : List Int) (barred : Ls Int) => HOk h ∧ (∀ x ∈ rooms, 0 ≤ x ∧ x < h.r) ∧ rooms.length ≤ 100) (fun h rooms barred (d : DI Bool) => SprOk h.r h.ds rooms barred.l (keysD d.kv))) := by
  have G_nears := ok_nears (P := P) (w := w) (base := base) T
  refine T.F_spread.ok sc_spread (fun vs H Q E h => h.len) (fun cdv A outer s H vs Q E hr h => ?_)
  obtain ⟨v, v', v'', h, rooms, barred, rfl, ra, rb, rc, ⟨ok, hin, hl⟩, k⟩ := h
  have hneat : Neat H := by obtain ⟨_, _, _, _, _, _, hn, _⟩ := ra; exact hn
  refine ⟨_, (pss_cons (ps_par (i := 3) (j := 4) rfl sc_spread.nd rfl rfl (by decide) rfl rfl (pa_cons pe_dnewK (pa_cons (pe_callTy (k_list_of (K := K) rfl) (by rfl) T.n_list (by decide +kernel) (pa_cons (pv 1) pa_nil)) pa_nil)) (by rfl))
      (pss_cons (ps_while PassesOwn.never (pt_cmpR op_gt (pe_callB (k_len (K := K) rfl) (by rfl) T.n_len (by decide +kernel) (pa_cons (pv 4) pa_nil)) pe_int (nomark _)) (pss_cons (ps_set (i := 5) sc_spread.nd rfl (Or.inl rfl) (k_bm0 (K := K) rfl PySem.F.plainAttrs_list PySem.F.slot_list_pop PySem.F.type_list_pop mt_pop (pv 4)))
      (pss_one (ps_if (PW.pt (pw_and (pt_cmp (pc_dnotin (hu_of hr) (pv 5) (pv 3)) (by rfl)) (pw_and1 (pt_cmpR (k_notIn_seq (K := K) rfl) (pv 5) (pv 2) (by rfl))))) (pss_cons (ps_dput (hu_of hr) (pv 3) (pv 5) pe_bl rfl)
      (pss_one (ps_expr (k_bm (K := K) rfl PySem.F.plainAttrs_list PySem.F.slot_list_extend PySem.F.type_list_extend (k_extT (K := K) rfl) (pv 4) (pa_cons (pe_ix (k_ix_tup (K := K) rfl) (pe_call (G_nears) (hr.mono (by first | decide | omega)) (by rfl) T.m_nears T.F_nears.kp T.b_nears .nil pass0 (pa_cons (pv 0) pa_nil)) (pv 5) (fun _ _ => rfl)) pa_nil))))) pss_nil))))
      (pss_one (ps_ret (pv 3))))), ?_⟩
  refine q_parFF (edF_newDI (β := Bool) hneat) (edF_lstT (K := K) (ev_var rfl rb)) fun d0 p l0 q H1 e1 e2 g1 hp hq hpq r1 r2 => ?_
  subst e1 e2
  refine q_while (fun m σ' H' => ∃ (kv : List (Int × Bool)) (wt : List Int), Gr H H' ∧ Py.rep (DI.mk kv) (.ref p) H' ∧ Py.rep (Ls.mk wt) (.ref q) H' ∧ σ'[0]? = some (some v) ∧ σ'[2]? = some (some v'') ∧ σ'[3]? = some (some (.ref p)) ∧ σ'[4]? = some (some (.ref q)) ∧ σ'.length = 6 ∧ SInv h.r h.ds rooms barred.l kv wt ∧ m = wt.length + 40 * free h.r kv ∧ m ≤ 1000) (rooms.length + 40 * free h.r ([] : List (Int × Bool)))
    ⟨[], rooms, g1, r1, r2, rfl, rfl, rfl, rfl, rfl, ⟨by unfold keysD; exact List.nodup_nil, fun k m => by unfold keysD at m; simp at m, hin, fun S s1 s2 => ⟨fun k m => by unfold keysD at m; simp at m, s1⟩⟩, rfl, by have := free_le h.r ([] : List (Int × Bool)); have := ok.2.1; omega⟩ ?_
  rintro m σ' H2 ⟨kv, wt, g2, r3, r4, s0, s2, s3, s4, sl, inv, hm, hm2⟩
  refine ⟨decide ((0 : Int) < wt.length), et_test (ev_gt (ev_lenL (ev_var s4 r4)) ev_int), fun hb H3 g3 => ?_, fun hb H3 g3 => ?_⟩
  · obtain ⟨wt', x, rfl⟩ : ∃ wt' x, wt = wt' ++ [x] := by
      have hne : wt ≠ [] := by rintro rfl; exact absurd hb (by decide)
      exact ⟨wt.dropLast, wt.getLast hne, (List.dropLast_concat_getLast hne).symm⟩
    refine ⟨_, fun σ2 H4 h4 => h4, ?_⟩
    have g13 := g2.trans g3
    refine q_popAsg (ds := wt') (d := x) (Py.mono g3 r4) s4 fun v5 H4 mu4 r5 r6 => ?_
    have g4 := mu4.gr g13 hq
    have rkv4 := mu4.dI (Ne.symm (Ne.symm hpq)) (Py.mono g3 r3)
    have t0 : (σ'.set 5 (some v5))[0]? = some (some v) := sne (by decide) s0
    have t2 : (σ'.set 5 (some v5))[2]? = some (some v'') := sne (by decide) s2
    have t3 : (σ'.set 5 (some v5))[3]? = some (some (.ref p)) := sne (by decide) s3
    have t4 : (σ'.set 5 (some v5))[4]? = some (some (.ref q)) := sne (by decide) s4
    have t5 : (σ'.set 5 (some v5))[5]? = some (some v5) := seq (by omega)
    have hxr : 0 ≤ x ∧ x < h.r := inv.wr x (by simp)
    refine s_when (b := (!decide (x ∈ keysD kv)) && (true ^^ decide (x ∈ barred.l))) (et_and (et_B (ev_notInDI (ev_var t5 r6) (ev_var t3 rkv4))) fun _ => et_test (ev_inIL (neg := true) (ev_var t5 r6) (ev_var t2 (Py.mono g4 rc)))) (fun hb2 H5 g5 => ?_) (fun hb2 H5 g5 => ?_)
    · simp at hb2
      obtain ⟨hn1, hn2⟩ := hb2
      obtain ⟨row, hat, hrow⟩ := atI_nat (l := nearsM h.r h.ds) hxr.1 (by rw [nearsM_length]; omega)
      have hrl := nearsM_row ok row (List.mem_of_getElem? hrow)
      have hgd : (nearsM h.r h.ds).getD x.toNat [] = row := by rw [List.getD_eq_getElem?_getD, hrow]; rfl
      have hfr := free_put (r := h.r) (kv := kv) (x := x) (v := true) hxr hn1
      have hkl := keys_len inv.nd inv.kr
      refine q_putDI (Pk := (· = x)) (Pv := (· = true)) (Py.mono g5 rkv4) t3 (ev_var t5 (Py.mono g5 r6)) ev_bl (by have := ok.2.1; unfold keysD at hkl; rw [List.length_map] at hkl; omega) fun k0 b0 H6 ek eb mu6 r7 => ?_
      subst ek eb
      have g6 := mu6.gr (g4.trans g5) hp
      have r8 := mu6.ls (Ne.symm hpq) (Py.mono g5 r5)
      rw [List.length_append] at hm
      simp at hm
      refine s_extT (es := row) r8 t4 (ev_ixT (ev_call1 (m := fun (h : Hs T.C_House) => nearsM h.r h.ds) (ev_var t0 (Py.mono g6 ra)) ok) (ev_var (d := k0) t5 (PyI.keep (g5.tup.trans mu6.tup) r6)) hat) (by omega) fun H7 mu7 r9 => ?_
      refine ⟨_, ?_, _, _, mu7.gr g6 hq, mu7.dI hpq r7, r9, t0, t2, t3, t4, by simp [sl], sinv_put ok inv hn1 hn2 hxr (fun z hz => (near_nearsM ok hxr.1 hxr.2).mp (by rw [hgd]; exact hz)), rfl, ?_⟩
      · rw [List.length_append]; omega
      · rw [List.length_append]; omega
    · rw [List.length_append] at hm
      simp at hm
      refine ⟨_, ?_, _, _, g4.trans g5, Py.mono g5 rkv4, Py.mono g5 r5, t0, t2, t3, t4, by simp [sl], sinv_skip inv (by simpa using hb2), rfl, ?_⟩
      · omega
      · omega
  · have hw : wt = [] := by
      cases wt with
      | nil => rfl
      | cons a b => exact absurd hb (by simp)
    subst hw
    exact s_retE (ev_var s3 (Py.mono g3 r3)) fun y H4 g4 r5 => k _ y H4 ⟨inv.nd, inv.kr, fun S s1 s2 => (inv.up S s1 s2).1⟩ ((g2.trans g3).trans g4) r5

end
end Cl
namespace Cl
open PySem L2 Zw RZ
section
variable {P : Program} {w : World} {K : PySem.W.Frag} {mg : Str → Option Value} {base : Heap}
def UInv (r : Int) (ds : List (Int × Int)) (sw : List (List Int)) (n : Nat) (fl : List (List Int)) : Prop := fl.length = n + 1 ∧ (∀ s, sw[0]? = some s → fl[0]? = some ((rngI 0 r.toNat).filter fun x => decide (x ∉ s))) ∧
  (∀ i one other, i + 1 ≤ n → sw[i]? = some one → sw[i + 1]? = some other → ∃ a b ks, fl[i]? = some a ∧ fl[i + 1]? = some b ∧ SprOk r ds a (one.filter fun x => decide (x ∈ other)) ks ∧ ∀ x, x ∈ b ↔ x ∈ ks ∧ x ∉ other) ∧ ∀ x ∈ fl, x.length ≤ 100 ∧ ∀ y ∈ x, 0 ≤ y ∧ y < r
def UnsOk (r : Int) (ds : List (Int × Int)) (sw d : List (List Int)) : Prop := ∃ n, n + 1 = sw.length ∧ UInv r ds sw n d
theorem nodup_len {r : Int} {l : List Int} (nd : l.Nodup) (kr : ∀ k ∈ l, 0 ≤ k ∧ k < r) : l.length ≤ r.toNat := by
  have e : keysD (l.map fun x => (x, true)) = l := by
    unfold keysD
    rw [List.map_map, show ((fun (x : Int × Bool) => x.1) ∘ fun x => (x, true)) = id from rfl, List.map_id]
  have h := keys_len (r := r) (kv := l.map fun x => (x, true)) (by rw [e]; exact nd) (by rw [e]; exact kr)
  rw [e] at h
  exact h
theorem spr_len {r : Int} {ds : List (Int × Int)} {a barred ks : List Int} (h : SprOk r ds a barred ks) : ks.length ≤ r.toNat := nodup_len h.1 h.2.1
theorem inv_len {r : Int} {ds : List (Int × Int)} {sw fl : List (List Int)} {n : Nat} (h : UInv r ds sw n fl) : ∀ a ∈ fl, a.length ≤ 100 := fun a m => (h.2.2.2 a m).1
theorem uinv_step {r : Int} {ds : List (Int × Int)} {sw fl : List (List Int)} {n : Nat} {one other a ks : List Int} (h : UInv r ds sw n fl) (h1 : sw[n]? = some one) (h2 : sw[n + 1]? = some other) (ha : fl[n]? = some a) (hs : SprOk r ds a (one.filter fun x => decide (x ∈ other)) ks) (h9 : r ≤ 9) :
    UInv r ds sw (n + 1) (fl ++ [(sortO ks).filter fun x => decide (x ∉ other)]) := by
  have hl := h.1
  refine ⟨by rw [List.length_append, hl]; rfl, fun s e => by rw [List.getElem?_append_left (by omega)]; exact h.2.1 s e, fun i o1 o2 hi e1 e2 => ?_, fun x hx => ?_⟩
  · by_cases e : i = n
    · subst e
      rw [h1] at e1
      rw [h2] at e2
      cases e1; cases e2
      refine ⟨a, (sortO ks).filter fun x => decide (x ∉ other), ks, by rw [List.getElem?_append_left (by omega)]; exact ha, by rw [List.getElem?_append_right (by omega), hl, Nat.sub_self]; rfl, hs, fun x => ?_⟩
      rw [List.mem_filter, mem_sortO]; simp
    · obtain ⟨a', b', ks', ea, eb, hs', hm⟩ := h.2.2.1 i o1 o2 (by omega) e1 e2
      exact ⟨a', b', ks', by rw [List.getElem?_append_left (by omega)]; exact ea, by rw [List.getElem?_append_left (by omega)]; exact eb, hs', hm⟩
  · rcases List.mem_append.mp hx with hx | hx
    · exact h.2.2.2 x hx
    · rw [List.mem_singleton.mp hx]
      refine ⟨?_, fun y hy => hs.2.1 y (mem_sortO.mp (List.mem_filter.mp hy).1)⟩
      refine Nat.le_trans (List.length_filter_le _ _) ?_
      rw [sortO_len]
      have := spr_len hs
      omega
theorem ok_unsure (T : Ctx K mg) : FnOk P w K mg base CX0 5 T.a_unsure T.fd_unsure ["house", "sweep"] (Sp2 (fun (h : Hs T.C_House) (sw : List (List Int)) => HOk h ∧ 1 ≤ sw.length ∧ sw.length ≤ 100 ∧ ∀ l ∈ sw, LotOk h.r l) (fun h sw (d : List (List Int)) => UnsOk h.r h.ds sw d)) := by
  have G_is_lot_of := ok_is_lot_of (P := P) (w := w) (base := base) T
  have G_spread := ok_spread (P := P) (w := w) (base := base) T
  refine T.F_unsure.ok sc_unsure (fun vs H Q E h => h.len) (fun cdv A outer s H vs Q E hr h => ?_)
  obtain ⟨v, v', h, sw, rfl, ra, rb, ⟨ok, n1, n2, hlot⟩, k⟩ := h
  have h9 := ok.2.1
  have h1 := ok.1
  obtain ⟨s0l, hs0⟩ : ∃ l, sw[0]? = some l := ⟨sw[0], by simp⟩
  have hs0at : L2.atI sw 0 = some s0l := by
    obtain ⟨d, hd, hd'⟩ := atI_nat (l := sw) (i := 0) (by decide) (by omega)
    rw [hd]; rw [← hd', ← hs0]; rfl
  refine ⟨_, (pss_cons (ps_if (PW.pt (pw_or (pt_not (pt_val (pe_callB (k_isi (K := K) rfl) (by rfl) T.n_isinstance (by decide +kernel) (pa_cons (pv 1) (pa_cons (pe_bltn (v := .ty "tuple") (u := .type "tuple") (by rfl) T.n_tuple (by decide +kernel) rfl) pa_nil))))) (pw_or1 (pt_cmpR op_eq (pe_callB (k_len (K := K) rfl) (by rfl) T.n_len (by decide +kernel) (pa_cons (pv 1) pa_nil)) pe_int (nomark _))))) (pss_one ps_never) pss_nil)
      (pss_cons (ps_for PassesOwn.never rfl (k_pi_enumT (K := K) rfl (by rfl) T.n_enumerate (pa_cons (pv 1) pa_nil)) (k_pg_tup (K := K) (n := 2) rfl rfl (pgs_cons (pg_name (i := 2) sc_unsure.nd rfl (Or.inl rfl) (Or.inr rfl)) (pgs_cons (pg_name (i := 3) sc_unsure.nd rfl (Or.inl rfl) (Or.inr rfl)) pgs_nil)) rfl)
      (pss_one (ps_if (pt_not (pt_val (pe_call (G_is_lot_of) (hr.mono (by first | decide | omega)) (by rfl) T.m_is_lot_of T.F_is_lot_of.kp T.b_is_lot_of .nil pass0 (pa_cons (pv 0) (pa_cons (pv 3) pa_nil))))) (pss_one ps_never) pss_nil)))
      (pss_cons (ps_set (i := 4) sc_unsure.nd rfl (Or.inl rfl) (pe_lst (pa_cons (pe_callTy (k_tuple_of (K := K) rfl) (by rfl) T.n_tuple (by decide +kernel) (pa_cons (pe_lc (own := [("room", 5)]) rfl sc_unsure.nd (pi_range1 (by rfl) T.n_range (pa_cons (k_fld (K := K) rfl (pv 0) rfl) pa_nil)) (blkOk_by (by kernel_rfl)) (fun _ _ _ _ _ => (pg_name (i := 5) sc_unsure.nd rfl (Or.inl rfl) (Or.inr rfl))) (fun _ _ _ _ _ => (pts_one (pt_cmpR (k_notIn_seq (K := K) rfl) (pv 5) (pe_ix (k_ix_tup (K := K) rfl) (pv 1) pe_int (fun _ _ => rfl)) (by rfl)))) (fun _ _ _ _ _ => (pv 5))) pa_nil)) pa_nil)))
      (pss_cons (ps_for PassesOwn.never rfl (k_pi_zip (K := K) rfl (by rfl) T.n_zip (pa_cons (pv 1) (pa_cons (pe_slice (k_sl_tup (K := K) rfl) (pv 1) (po_some pe_int) po_none) pa_nil))) (k_pg_tup (K := K) (n := 2) rfl rfl (pgs_cons (pg_name (i := 6) sc_unsure.nd rfl (Or.inl rfl) (Or.inr rfl)) (pgs_cons (pg_name (i := 7) sc_unsure.nd rfl (Or.inr rfl) (Or.inl rfl)) pgs_nil)) rfl)
      (pss_cons (ps_setLc (i := 8) (own := [("room", 5)]) rfl sc_unsure.nd rfl rfl (sw_true rfl rfl rfl (by decide +kernel)) (k_pi_tup (K := K) rfl (pv 6)) (blkOk_by (by kernel_rfl)) (fun _ _ _ _ _ => (pg_name (i := 5) sc_unsure.nd rfl (Or.inl rfl) (Or.inr rfl))) (fun _ _ _ _ _ => (pts_one (pt_cmpR (k_in_seq (K := K) rfl) (pv 5) (pv 7) (by rfl)))) (fun _ _ _ _ _ => (pv 5)))
      (pss_cons (ps_set (i := 9) sc_unsure.nd rfl (Or.inl rfl) (pe_call (G_spread) (hr.mono (by first | decide | omega)) (by rfl) T.m_spread T.F_spread.kp T.b_spread .nil pass0 (pa_cons (pv 0) (pa_cons (pe_ix (k_ix_list (K := K) rfl) (pv 4) (pe_un un_neg pe_int) (fun _ _ => rfl)) (pa_cons (pv 8) pa_nil)))))
      (pss_one (ps_expr (k_bm (K := K) rfl PySem.F.plainAttrs_list PySem.F.slot_list_append PySem.F.type_list_append mt_append (pv 4) (pa_cons (pe_callTy (k_tuple_of (K := K) rfl) (by rfl) T.n_tuple (by decide +kernel) (pa_cons (pe_lc (own := [("room", 5)]) rfl sc_unsure.nd (k_pi_list (K := K) rfl (pe_callB (cr_sortedG rfl hr.units) (by rfl) T.n_sorted (by decide +kernel) (pa_cons (pv 9) pa_nil))) (blkOk_by (by kernel_rfl)) (fun _ _ _ _ _ => (pg_name (i := 5) sc_unsure.nd rfl (Or.inl rfl) (Or.inr rfl))) (fun _ _ _ _ _ => (pts_one (pt_cmpR (k_notIn_seq (K := K) rfl) (pv 5) (pv 7) (by rfl)))) (fun _ _ _ _ _ => (pv 5))) pa_nil)) pa_nil)))))))
      (pss_one (ps_ret (pe_callTy (k_tuple_of (K := K) rfl) (by rfl) T.n_tuple (by decide +kernel) (pa_cons (pv 4) pa_nil)))))))), ?_⟩
  refine q_when (b := !true || false) (et_or (et_not (et_B (ev_isi (b := true) (ev_var rfl rb) (by decide +kernel)))) fun _ => et_test (ev_is (ev_eqI (ev_lenT (ev_var rfl rb)) ev_int) (decide_eq_false (by omega)))) (fun hb => absurd hb (by simp)) fun _ H1 g1 => ?_
  refine q_foldT (fun (_ : Unit) (_ : Int × List Int) => ()) () (fun _ σ' H' => Gr H1 H' ∧ σ'[0]? = some (some v) ∧ σ'[1]? = some (some v') ∧ σ'.length = 10) (src_enumT (ev_var rfl (Py.mono g1 rb))) (fun H2 g2 => ⟨g2, rfl, rfl, rfl⟩) (fun _ σ' H2 H3 g ⟨a, b⟩ => ⟨a.trans g, b⟩) ?_ ?_
  · rintro Hb i ⟨a, b⟩ x _ σ' H3 gb tb hd _ ⟨g3, s0, s1, sl⟩ rx
    obtain ⟨e1, hrow⟩ := numL_get hd
    simp only [] at e1 hrow
    refine gTup2 rx fun y z ry rz => ?_
    refine s_when (b := !true) (et_not (et_B (ed_call2 (ev_var (sne (by decide) (sne (by decide) s0)) (Py.mono (g1.trans g3) ra)) (ev_var (d := b) (seq (by rw [List.length_set]; omega)) rz) (fun _ _ ea eb => by subst ea eb; exact hlot _ (List.mem_of_getElem? hrow)) (fun _ _ _ _ _ p => p)))) (fun hb => absurd hb (by simp)) fun _ H4 g4 => ?_
    exact ⟨tb.trans g4.tup, g3.trans g4, sne (by decide) (sne (by decide) s0), sne (by decide) (sne (by decide) s1), by simp [sl]⟩
  rintro σ' H2 tk ⟨g2', s0, s1, sl⟩
  have g2 := g1.trans g2'
  refine q_asgF (edF_lst1 (P := (· = (rngI 0 h.r.toNat).filter fun x => decide (x ∉ s0l))) (ev_tupL (ev_is (el_lcN (f := fun x => decide (x ∉ s0l)) (v := fun z => z) (src_rng1 (ev_rooms T.cl_House T.na_House_rooms (ev_var s0 (Py.mono g2 ra))) (by omega)).src (by rw [rngI_length]; omega) (fun z => by simp [wipe]) (fun d x H' m g rx => et_test (ev_is (ev_inIT (neg := true) (ev_var (d := d) (by simp [wipe, sl]) rx) (ev_ixT (ds := sw) (ev_var (by simp [wipe]; exact s1) (Py.mono (g2.trans g) rb)) ev_int hs0at)) (by simp)))
    (fun d x H' m g rx _ => ev_var (by simp [wipe, sl]) rx)) (by rw [List.map_id'])))) fun l0 p H3 el g3 hp r3 => ?_
  obtain ⟨d0, el, ed0⟩ := el
  have hp0 := g2.back hp
  have hl0 : l0 = Ls.mk [d0] := by cases l0; simp only at el; rw [el]
  subst hl0
  refine q_foldT (fun (n : Nat) (_ : List Int × List Int) => n + 1) 0 (fun n σ' H' => ∃ fl : List (List Int), Gr H H' ∧ Py.rep (Ls.mk fl) (.ref p) H' ∧ UInv h.r h.ds sw n fl ∧ σ'[0]? = some (some v) ∧ σ'[1]? = some (some v') ∧ σ'[4]? = some (some (.ref p)) ∧ σ'.length = 10)
    (src_zipT (ev_var (d := sw) (sne (by decide) s1) (Py.mono (g2.trans g3) rb)) (ev_is (ev_slT (ds := sw) (ev_var (sne (by decide) s1) (Py.mono (g2.trans g3) rb)) (eo_some ev_int) eo_none) (cutL_tail sw)))
    (fun H4 g4 => ⟨_, (g2.trans g3).trans g4, Py.mono g4 r3, ⟨rfl, fun s hs => (by rw [hs0] at hs; cases hs; rw [ed0]; rfl), (fun i one other h1 => absurd h1 (by omega)), fun x hx => (by rw [List.mem_singleton.mp hx, ed0]; exact ⟨Nat.le_trans (List.length_filter_le _ _) (by rw [rngI_length]; omega), fun y hy => (by have := mem_rngI.mp (List.mem_filter.mp hy).1; omega)⟩)⟩, sne (by decide) s0, sne (by decide) s1, seq (by omega), by simp [sl]⟩)
    (fun n σ' H3 H4 g ⟨fl, a1, a2, a3⟩ => ⟨fl, a1.trans g, Py.mono g a2, a3⟩) ?_ ?_
  · rintro Hb i ⟨one, other⟩ x n σ3 H4 gb tb hd en ⟨fl, g4, rf, inv, s0, s1, s4, sl⟩ rx
    obtain ⟨hone, hoth⟩ := List.getElem?_zip_eq_some.mp hd
    simp only [] at hone hoth
    rw [List.getElem?_drop] at hoth
    have hi := (List.getElem?_eq_some_iff.mp hd).1
    have en' : n = i := by rw [en, foldl_count, List.length_take]; omega
    subst en'
    have ho1 := hlot one (List.mem_of_getElem? hone)
    have ho2 := hlot other (List.mem_of_getElem? hoth)
    refine gTup2 rx fun y z ry rz => ?_
    have u0 : ((σ3.set 6 (some y)).set 7 (some z))[0]? = some (some v) := sne (by decide) (sne (by decide) s0)
    have u1 : ((σ3.set 6 (some y)).set 7 (some z))[1]? = some (some v') := sne (by decide) (sne (by decide) s1)
    have u4 : ((σ3.set 6 (some y)).set 7 (some z))[4]? = some (some (.ref p)) := sne (by decide) (sne (by decide) s4)
    have u6 : ((σ3.set 6 (some y)).set 7 (some z))[6]? = some (some y) := sne (by decide) (seq (by omega))
    have u7 : ((σ3.set 6 (some y)).set 7 (some z))[7]? = some (some z) := seq (by rw [List.length_set]; omega)
    have hl4 : ((σ3.set 6 (some y)).set 7 (some z)).length = 10 := by simp [sl]
    generalize ((σ3.set 6 (some y)).set 7 (some z)) = σ4 at u0 u1 u4 u6 u7 hl4 ⊢
    refine q_asgE (d := Ls.mk (one.filter fun x => decide (x ∈ other))) (ev_is (el_lcN (f := fun x => decide (x ∈ other)) (v := fun z => z) (src_tup (ev_var u6 ry)).src (by have := ho1.2.2; show one.length ≤ _; omega) (fun z => by simp [wipe]) (fun d x H' m g rx => et_test (ev_is (ev_inIT (neg := false) (ev_var (d := d) (by simp [wipe, hl4]) rx) (ev_var (d := other) (by simp [wipe]; exact u7) (Py.mono g rz))) (by simp)))
      (fun d x H' m g rx _ => ev_var (by simp [wipe, hl4]) rx)) (by rw [List.map_id'])) fun v8 H5 g5 r8 => ?_
    have hfl : fl.length = n + 1 := inv.1
    obtain ⟨a, ha⟩ : ∃ a, fl[n]? = some a := ⟨fl[n], by simp⟩
    have hlast : L2.atI fl (-1) = some a := by
      unfold L2.atI ixN
      rw [if_neg (by decide), if_pos (by omega)]
      show fl[(-1 + (fl.length : Int)).toNat]? = _
      rw [show (-1 + (fl.length : Int)).toNat = n by omega]
      exact ha
    have har := (inv.2.2.2 a (List.mem_of_getElem? ha)).2
    have hal := inv_len inv a (List.mem_of_getElem? ha)
    refine q_asg (P := fun (d : DI Bool) => SprOk h.r h.ds a (one.filter fun x => decide (x ∈ other)) (keysD d.kv)) (ed_call3 (ev_var (sne (by decide) u0) (Py.mono (g4.trans g5) ra)) (ev_ixL (ds := fl) (ev_var (sne (by decide) u4) (Py.mono g5 rf)) (ev_neg ev_int) hlast) (ev_var (seq (by omega)) r8) (fun _ _ _ ea eb ec => by subst ea eb ec; exact ⟨ok, har, hal⟩) (fun _ _ _ _ ea eb ec p => by subst ea eb ec; exact p)) fun d9 v9 H6 p9 g6 r9 => ?_
    have hkl := spr_len p9
    refine s_app (P := fun b => b = (sortO (keysD d9.kv)).filter fun x => decide (x ∉ other)) (Py.mono (g5.trans g6) rf) (sne (by decide) (sne (by decide) u4)) (ev_tupL (ev_is (el_lcN (f := fun x => decide (x ∉ other)) (v := fun z => z) (src_lst (ev_sortedDI (ev_var (seq (by rw [List.length_set]; omega)) r9))).src (by rw [sortO_len]; omega) (fun z => by simp [wipe]) (fun d x H' m g rx => et_test (ev_is (ev_inIT (neg := true) (ev_var (d := d) (by simp [wipe, hl4]) rx) (ev_var (d := other) (by simp [wipe]; exact u7) (Py.mono ((g5.trans g6).trans g) rz))) (by simp)))
      (fun d x H' m g rx _ => ev_var (by simp [wipe, hl4]) rx)) (by rw [List.map_id']))) (by have := (List.getElem?_eq_some_iff.mp hone).1; omega) fun b H7 eb mu r10 => ?_
    subst eb
    exact ⟨(tb.trans (g5.trans g6).tup).trans mu.tup, _, mu.gr ((g4.trans g5).trans g6) hp0, r10, uinv_step inv hone (by rw [Nat.add_comm]; exact hoth) ha p9 h9, sne (by decide) (sne (by decide) u0), sne (by decide) (sne (by decide) u1), sne (by decide) (sne (by decide) u4), by simp [hl4]⟩
  · rintro σ3 H4 tk ⟨fl, g4, rf, inv, s0, s1, s4, sl⟩
    refine s_retE (ev_tupL (a := fl) (ev_var s4 rf)) fun w H5 g5 r5 => k _ w H5 ⟨_, ?_, inv⟩ (g4.trans g5) r5
    rw [foldl_count, List.length_zip, List.length_drop]; omega

def sweepM (r : Int) (ds : List (Int × Int)) (row : List Int) : List (List Int) := (numL row).map fun d => sortO (openM r ds (sortO (row.take d.1.toNat)) ++ [d.2])
theorem ok_sweep_of (T : Ctx K mg) : FnOk P w K mg base CX0 5 T.a_sweep_of T.fd_sweep_of ["house", "row"] (Sp2 (fun (h : Hs T.C_House) (l : List Int) => HOk h ∧ RowOk h.r l) (fun h l (d : List (List Int)) => d = sweepM h.r h.ds l)) := by
  have G_begun := ok_begun (P := P) (w := w) (base := base) T
  have G_check_row := ok_check_row (P := P) (w := w) (base := base) T
  have G_open_of := ok_open_of (P := P) (w := w) (base := base) T
  refine T.F_sweep_of.ok sc_sweep_of (fun vs H Q E h => h.len) (fun cdv A outer s H vs Q E hr h => ?_)
  obtain ⟨v, v', h, row, rfl, ra, rb, ⟨ok, rok⟩, k⟩ := h
  have hl : row.length = h.r.toNat := by rw [rok.2.2.length_eq, rngI_length]
  have h9 := ok.2.1
  refine ⟨_, (pss_cons (ps_expr (pe_call (G_check_row) (hr.mono (by first | decide | omega)) (by rfl) T.m_check_row T.F_check_row.kp T.b_check_row .nil pass0 (pa_cons (pv 0) (pa_cons (pv 1) pa_nil))))
      (pss_cons (ps_set (i := 2) sc_sweep_of.nd rfl (Or.inl rfl) (pe_lst pa_nil))
      (pss_cons (ps_for PassesOwn.never rfl (k_pi_enumT (K := K) rfl (by rfl) T.n_enumerate (pa_cons (pv 1) pa_nil)) (k_pg_tup (K := K) (n := 2) rfl rfl (pgs_cons (pg_name (i := 3) sc_sweep_of.nd rfl (Or.inl rfl) (Or.inr rfl)) (pgs_cons (pg_name (i := 4) sc_sweep_of.nd rfl (Or.inl rfl) (Or.inr rfl)) pgs_nil)) rfl)
      (pss_one (ps_expr (k_bm (K := K) rfl PySem.F.plainAttrs_list PySem.F.slot_list_append PySem.F.type_list_append mt_append (pv 2) (pa_cons (pe_callTy (k_tuple_of (K := K) rfl) (by rfl) T.n_tuple (by decide +kernel) (pa_cons (pe_callB (cr_sortedG rfl hr.units) (by rfl) T.n_sorted (by decide +kernel) (pa_cons (pe_op (k_catT (K := K) rfl) (pe_call (G_open_of) (hr.mono (by first | decide | omega)) (by rfl) T.m_open_of T.F_open_of.kp T.b_open_of .nil pass0 (pa_cons (pv 0) (pa_cons (pe_call (G_begun) (hr.mono (by first | decide | omega)) (by rfl) T.m_begun T.F_begun.kp T.b_begun .nil pass0 (pa_cons (pv 1) (pa_cons (pv 3) pa_nil))) pa_nil))) (pe_tup (pa_cons (pv 4) pa_nil))) pa_nil)) pa_nil)) pa_nil)))))
      (pss_one (ps_ret (pe_callTy (k_tuple_of (K := K) rfl) (by rfl) T.n_tuple (by decide +kernel) (pa_cons (pv 2) pa_nil))))))), ?_⟩
  refine q_drop (P := fun (_ : Unit) => True) (ed_call2 (ev_var rfl ra) (ev_var rfl rb) (fun _ _ ea eb => by subst ea eb; exact rok) (fun _ _ _ _ _ _ => trivial)) fun H1 g1 => ?_
  refine q_newL fun p hp => ?_
  have gA : Gr H (upd H1 p (.lst [])) := g1.trans (Gr.new hp)
  have hp0 := g1.back hp
  refine q_foldT (fun (acc : List (List Int)) (d : Int × Int) => acc ++ [sortO (openM h.r h.ds (sortO (row.take d.1.toNat)) ++ [d.2])]) [] (fun acc σ' H' => Gr H H' ∧ Py.rep (Ls.mk acc) (.ref p) H' ∧ σ'[0]? = some (some v) ∧ σ'[1]? = some (some v') ∧ σ'[2]? = some (some (.ref p)) ∧ σ'.length = 5)
    (src_enumT (ev_var rfl (Py.mono gA rb))) (fun H3 g3 => ⟨gA.trans g3, Py.mono g3 rep_newL, rfl, rfl, rfl, rfl⟩) (fun n σ' H3 H4 g ⟨a1, a2, a3⟩ => ⟨a1.trans g, Py.mono g a2, a3⟩) ?_ ?_
  · rintro Hb i ⟨a, b⟩ x acc σ' H3 gb tb hd ea ⟨g3, rf, s0, s1, s2, sl⟩ rx
    obtain ⟨e1, hrow⟩ := numL_get hd
    simp only [] at e1 hrow
    subst e1
    have hi := (List.getElem?_eq_some_iff.mp hrow).1
    refine gTup2 rx fun y z ry rz => ?_
    have t0 : ((σ'.set 3 (some y)).set 4 (some z))[0]? = some (some v) := sne (by decide) (sne (by decide) s0)
    have t1 : ((σ'.set 3 (some y)).set 4 (some z))[1]? = some (some v') := sne (by decide) (sne (by decide) s1)
    have t2 : ((σ'.set 3 (some y)).set 4 (some z))[2]? = some (some (.ref p)) := sne (by decide) (sne (by decide) s2)
    have t3 : ((σ'.set 3 (some y)).set 4 (some z))[3]? = some (some y) := sne (by decide) (seq (by omega))
    have t4 : ((σ'.set 3 (some y)).set 4 (some z))[4]? = some (some z) := seq (by rw [List.length_set]; omega)
    have hal : acc.length ≤ i := by
      rw [ea, foldl_snoc]; simp; omega
    have hos : (openM h.r h.ds (sortO (row.take (i : Int).toNat))).length ≤ 9 := by
      unfold openM
      refine Nat.le_trans (List.length_filter_le _ _) ?_
      rw [sortO_len, List.length_take]; omega
    refine s_app (P := fun d => d = sortO (openM h.r h.ds (sortO (row.take (i : Int).toNat)) ++ [b])) rf t2 (ev_tupL (ev_sortedT (ev_catT (ev_is (ev_call2 (m := fun (h : Hs T.C_House) l => openM h.r h.ds l) (a := h) (b := sortO (row.take (i : Int).toNat)) (ev_var t0 (Py.mono g3 ra)) (ed_call2 (ev_var t1 (Py.mono g3 rb)) (ev_var (d := (i : Int)) t3 ry) (fun _ _ ea eb => by subst ea eb; exact ⟨by omega, by omega⟩) (fun _ _ _ ea eb p => by subst ea eb; exact p)) ⟨ok, fun x m => ?_, ?_⟩) rfl) (ev_tup (eal_cons (ev_var t4 rz) eal_nil) (by show 1 ≤ _; decide)) (by show _ + 1 ≤ _; omega)) (fun _ _ => trivial))) (by omega) fun d H4 ed mu r4 => ?_
    · have := mem_rngI.mp (rok.2.2.mem_iff.mp (List.mem_of_mem_take (mem_sortO.mp m))); omega
    · rw [sortO_len, List.length_take]; omega
    · subst ed
      exact ⟨tb.trans mu.tup, mu.gr g3 hp0, r4, t0, t1, t2, by simp [sl]⟩
  · rintro σ' H3 tk ⟨g3, rf, s0, s1, s2, sl⟩
    rw [foldl_snoc] at rf
    exact s_retE (ev_tupL (a := sweepM h.r h.ds row) (ev_var s2 rf)) fun w H4 g4 r4 => k _ w H4 rfl (g3.trans g4) r4

end
end Cl
namespace Cl
open PySem L2 Zw RZ
section
variable {P : Program} {w : World} {K : PySem.W.Frag} {mg : Str → Option Value} {base : Heap}
def spHand (K : PySem.W.Frag) : Sp := fun vs H Q _ => ∃ (v : V) (d : Scr K), vs = [v] ∧ Py.rep d v H ∧ d.l.length ≤ 63 ∧ ∀ t c (ns : List Int) m H2, Gr H H2 → H2 t = none → H2 c = some (.lst (ns.map V.int)) → Q (.ref t) (upd H2 t (.lst [.ref c, .int 0, .int 0, .int m, .int 0]))
theorem spHand_len {K : PySem.W.Frag} {vs : List V} {H : Hp} {Q : VK} {E : XK} (h : spHand K vs H Q E) : vs.length = 1 := by obtain ⟨_, _, rfl, _⟩ := h; rfl
theorem ok0_law_hand (T : Ctx K mg) : FnOk P w K mg base CX0 1 T.a_law_hand T.fd_law_hand ["script"] (spHand K) := by
  refine T.F_law_hand.ok sc_law_hand (fun vs H Q E h => spHand_len h) (fun cdv A outer s H vs Q E hr h => ?_)
  obtain ⟨v, d, rfl, ra, hl, k⟩ := h
  refine ⟨_, (pss_cons (ps_setLc (i := 1) (own := [("cell", 2)]) rfl sc_law_hand.nd rfl rfl (sw_true rfl rfl rfl (by decide +kernel)) (k_pi_list (K := K) rfl (pe_slice (k_sl_list (K := K) rfl) (pv 0) po_none (po_some pe_int))) (blkOk_by (by kernel_rfl)) (fun _ _ _ _ _ => (pg_name (i := 2) sc_law_hand.nd rfl (Or.inl rfl) (Or.inr rfl))) (fun _ _ _ _ _ => pts_nil) (fun _ _ _ _ _ => (pe_callB call_abs (by rfl) T.n_abs (by decide +kernel) (pa_cons (pe_callTy call_int1 (by rfl) T.n_int (by decide +kernel) (pa_cons (pv 2) pa_nil)) pa_nil))))
      (pss_one (ps_ret (pe_lst (pa_cons (pv 1) (pa_cons pe_int (pa_cons pe_int (pa_cons (pe_op op_add pe_int (pe_callB (k_len (K := K) rfl) (by rfl) T.n_len (by decide +kernel) (pa_cons (pv 1) pa_nil))) (pa_cons pe_int pa_nil))))))))), ?_⟩
  refine q_asg (P := fun (l : Ls Int) => l.l.length ≤ 63) ((el_mapN (v := fun (z : Int) => if z < 0 then -z else z) (src_lst (ev_slScr (ev_var rfl ra) eo_none (eo_some ev_int))).src (Nat.le_trans (cutL_length _ _ _) (by omega)) (fun _ => rfl) fun d x H' m g rx => ev_abs (ed_int1 (ev_var rfl rx))).imp fun l e => by rw [e]; show (List.map _ _).length ≤ 63; rw [List.length_map]; exact Nat.le_trans (cutL_length _ _ _) hl) fun cs v1 H1 p1 g1 r1 => ?_
  refine s_retLst (ea_c (P := (· = cs)) (ev_var rfl r1) (ea_c ev_int (ea_c ev_int (ea_c (ev_add ev_int (ev_lenL (ev_var rfl r1))) (ea_c ev_int ea_n))))) fun vs H2 z g2 => ?_
  obtain ⟨_, a1, _, rfl, e1, q1, _, a2, _, rfl, e2, q2, _, a3, _, rfl, e3, q3, _, a4, _, rfl, e4, q4, _, a5, _, rfl, e5, q5, rfl⟩ := z
  subst e1 e2 e3 e4 e5
  have f2 : a2 = .int _ := q2
  have f3 : a3 = .int _ := q3
  have f4 : a4 = .int _ := q4
  have f5 : a5 = .int _ := q5
  subst f2 f3 f4 f5
  refine ⟨by show 5 ≤ sizeLine; decide, fun p hp => ?_⟩
  obtain ⟨c, xs, rfl, hc, rl⟩ := q1
  have ex := RL.eq_map (f := V.int) rl
  subst ex
  exact k p c _ _ H2 (g1.trans g2) hp hc
theorem ok_law_hand (T : Ctx K mg) : FnOk P w K mg base CX0 1 T.a_law_hand T.fd_law_hand ["script"] (Sp1 (fun (_ : Scr K) => True) (fun _ (_ : Hand) => True)) :=
  fn_hide (ok0_law_hand T) (fun vs H Q E h => h.len) fun vs H Q E ⟨v, d, e, r, _, k⟩ => ⟨v, d, e, r, by obtain ⟨_, _, _, l⟩ := r; exact l, fun t c ns m H2 g ht hc => ⟨t, _, Phand c, upd_same, ⟨0, 0, m, 0, rfl, by decide⟩, by
    rw [upd_upd]
    have tc : c ≠ t := fun z => by rw [z, ht] at hc; cases hc
    exact k ⟨⟩ _ _ trivial (g.trans (Gr.new ht)) ⟨t, c, ns, rfl, upd_same, by rw [upd_ne tc]; exact hc⟩⟩⟩

def spDraw : Sp := fun vs H Q _ => ∃ (t c : Addr) (ns : List Int) (i l m n many : Int), vs = [.ref t, .int many] ∧ H t = some (.lst [.ref c, .int i, .int l, .int m, .int n]) ∧ H c = some (.lst (ns.map V.int)) ∧ 0 ≤ i ∧ 1 ≤ many ∧ many < 1073741824 ∧
  ∀ (d i' l' m' n' : Int) (H' : Hp), 0 ≤ d → d < many → 0 ≤ i' → Ms t H H' → H' t = some (.lst [.ref c, .int i', .int l', .int m', .int n']) → Q (.int d) H'
theorem spDraw_len {vs : List V} {H : Hp} {Q : VK} {E : XK} (h : spDraw vs H Q E) : vs.length = 2 := by obtain ⟨_, _, _, _, _, _, _, _, rfl, _⟩ := h; rfl
theorem ok0_law_draw (T : Ctx K mg) : FnOk P w K mg base CX0 1 T.a_law_draw T.fd_law_draw ["hand", "many"] (spDraw) := by
  refine T.F_law_draw.ok sc_law_draw (fun vs H Q E h => spDraw_len h) (fun cdv A outer s H vs Q E hr h => ?_)
  obtain ⟨t, c, ns, i, l, m, n, many, rfl, ht, hc, hi, hm1, hm2, k⟩ := h
  have tc : c ≠ t := fun z => by rw [z, ht] at hc; cases ns <;> cases hc
  refine ⟨_, (pss_cons (ps_if (PW.pt (pw_and (pt_cmpR op_eq (pe_ix (k_ix_list (K := K) rfl) (pv 0) pe_int (fun _ _ => rfl)) pe_int (nomark _)) (pw_and1 (pt_cmpR op_lt (pe_ix (k_ix_list (K := K) rfl) (pv 0) pe_int (fun _ _ => rfl)) (pe_callB (k_len (K := K) rfl) (by rfl) T.n_len (by decide +kernel) (pa_cons (pe_ix (k_ix_list (K := K) rfl) (pv 0) pe_int (fun _ _ => rfl)) pa_nil)) (nomark _))))) (pss_cons (ps_set (i := 2) sc_law_draw.nd rfl (Or.inl rfl) (pe_ix (k_ix_list (K := K) rfl) (pe_ix (k_ix_list (K := K) rfl) (pv 0) pe_int (fun _ _ => rfl)) (pe_ix (k_ix_list (K := K) rfl) (pv 0) pe_int (fun _ _ => rfl)) (fun _ _ => rfl)))
      (pss_cons (ps_asg (pe_op op_add (pe_ix (k_ix_list (K := K) rfl) (pv 0) pe_int (fun _ _ => rfl)) pe_int) (pg_sub (pv 0) pe_int set_list))
      (pss_cons (ps_asg (pe_op op_modN (pe_callTy call_int1 (by rfl) T.n_int (by decide +kernel) (pa_cons (pe_op op_add (pe_op op_add (pe_op op_mul (pe_ix (k_ix_list (K := K) rfl) (pv 0) pe_int (fun _ _ => rfl)) pe_int) (pe_op op_mul (pv 2) pe_int)) pe_int) pa_nil)) pe_int) (pg_sub (pv 0) pe_int set_list))
      (pss_one (ps_if (pt_cmpR op_ge (pv 2) (pe_op op_pow pe_int pe_int) (nomark _)) (pss_one (ps_asg (pv 2) (pg_sub (pv 0) pe_int set_list))) pss_nil))))) pss_nil)
      (pss_cons (ps_if (pt_cmpR op_gt (pe_ix (k_ix_list (K := K) rfl) (pv 0) pe_int (fun _ _ => rfl)) pe_int (nomark _)) (pss_cons (ps_set (i := 3) sc_law_draw.nd rfl (Or.inl rfl) (pe_op op_modN (pe_callTy call_int1 (by rfl) T.n_int (by decide +kernel) (pa_cons (pe_ix (k_ix_list (K := K) rfl) (pv 0) pe_int (fun _ _ => rfl)) pa_nil)) (pv 1)))
      (pss_cons (ps_asg (pe_op op_fdivN (pe_ix (k_ix_list (K := K) rfl) (pv 0) pe_int (fun _ _ => rfl)) (pv 1)) (pg_sub (pv 0) pe_int set_list))
      (pss_one (ps_ret (pv 3))))) pss_nil)
      (pss_cons (ps_asg (pe_op op_add (pe_ix (k_ix_list (K := K) rfl) (pv 0) pe_int (fun _ _ => rfl)) pe_int) (pg_sub (pv 0) pe_int set_list))
      (pss_cons (ps_set (i := 4) sc_law_draw.nd rfl (Or.inl rfl) (pe_op op_modN (pe_callTy call_int1 (by rfl) T.n_int (by decide +kernel) (pa_cons (pe_op op_mul (pe_callTy call_int1 (by rfl) T.n_int (by decide +kernel) (pa_cons (pe_op op_add (pe_ix (k_ix_list (K := K) rfl) (pv 0) pe_int (fun _ _ => rfl)) (pe_op op_mul pe_int (pe_ix (k_ix_list (K := K) rfl) (pv 0) pe_int (fun _ _ => rfl)))) pa_nil)) pe_int) pa_nil)) pe_int))
      (pss_cons (ps_set (i := 4) sc_law_draw.nd rfl (Or.inl rfl) (pe_op op_modN (pe_callTy call_int1 (by rfl) T.n_int (by decide +kernel) (pa_cons (pe_op op_mul (pv 4) (pe_op op_add (pe_op op_fdivN (pv 4) pe_int) pe_int)) pa_nil)) pe_int))
      (pss_cons (ps_set (i := 4) sc_law_draw.nd rfl (Or.inl rfl) (pe_op op_modN (pe_callTy call_int1 (by rfl) T.n_int (by decide +kernel) (pa_cons (pe_op op_mul (pv 4) (pe_op op_add (pe_op op_fdivN (pv 4) pe_int) pe_int)) pa_nil)) pe_int))
      (pss_one (ps_ret (pe_op op_modN (pe_callTy call_int1 (by rfl) T.n_int (by decide +kernel) (pa_cons (pe_op op_fdivN (pv 4) pe_int) pa_nil)) (pv 1)))))))))), ?_⟩
  refine q_join (fun σ' H' => ∃ i l m n : Int, 0 ≤ i ∧ Ms t H H' ∧ H' t = some (.lst [.ref c, .int i, .int l, .int m, .int n]) ∧ H' c = some (.lst (ns.map V.int)) ∧ σ'[0]? = some (some (.ref t)) ∧ σ'[1]? = some (some (.int many)) ∧ σ'.length = 5) (fun tz hz => ?_) ?_
  · have rns : Py.rep (Ls.mk ns) (.ref c) H := ⟨c, _, rfl, hc, RL.map fun _ _ => rfl⟩
    refine s_when (b := decide (l = 0) && decide (i < (ns.length : Int))) (et_and (et_test (ev_eqI (ev_raw ht rfl rfl rfl) ev_int)) fun _ => et_test (ev_lt (ev_raw ht rfl rfl rfl) (ev_lenL (ev_raw ht rfl rfl rns)))) (fun hb H1 g1 => ?_) (fun hb H1 g1 => hz _ _ ⟨i, l, m, n, hi, Ms.gr g1 ht, g1.lst ht, g1.lst hc, rfl, rfl, rfl⟩)
    have hin : i < ns.length := by simp at hb; exact hb.2
    obtain ⟨cell, hat, _⟩ := atI_nat hi hin
    refine q_asgE (d := cell) (ev_ixL (ev_raw (g1.lst ht) rfl rfl (Py.mono g1 rns)) (ev_raw (g1.lst ht) rfl rfl rfl) hat) fun v2 H2 g2 r2 => ?_
    have g12 := g1.trans g2
    refine q_rawSet (P := (· = i + 1)) (k := 1) (g12.lst ht) rfl (ev_add (ev_raw (g12.lst ht) rfl rfl rfl) ev_int) rfl fun d v3 H3 ed g3 r3 ht3 => ?_
    subst ed
    have e3 : v3 = .int (i + 1) := r3
    subst e3
    have g13 := g12.trans g3
    have m3 := (Ms.gr g13 ht).trans (Ms.put (o' := .lst [.ref c, .int (i + 1), .int l, .int m, .int n]))
    have e2 : v2 = .int cell := r2
    subst e2
    refine q_rawSet (P := fun (_ : Int) => True) (k := 3) (xs := [.ref c, .int (i + 1), .int l, .int m, .int n]) upd_same rfl (ed_mod (ed_int1 (ed_add (P := fun _ => True) (ed_add (P := fun _ => True) (ed_mulL (ev_raw upd_same rfl rfl rfl) ev_int (fun a b _ e => .inr (by rw [e]; decide))) (ed_mulL (ev_var (d := cell) rfl rfl) ev_int (fun a b _ e => .inr (by rw [e]; decide))) (fun _ _ _ _ => trivial)) ev_int (fun _ _ _ _ => trivial))) ev_int (fun _ b _ e => ⟨by rw [e]; decide, trivial⟩)) rfl fun d v4 H4 _ g4 r4 ht4 => ?_
    have e4 : v4 = .int d := r4
    subst e4
    have m4 := (m3.trans (Ms.gr g4 upd_same)).trans (Ms.put (o' := .lst [.ref c, .int (i + 1), .int l, .int d, .int n]))
    have hc4 := g4.lst (show upd H3 t _ c = _ by rw [upd_ne tc]; exact g13.lst hc)
    refine s_when (b := decide ((10 : Int) ^ (18 : Int).toNat ≤ cell)) (et_test (ev_ge (ev_var (d := cell) rfl rfl) (ev_pow ev_int ev_int ⟨by decide, by decide, by decide⟩))) (fun _ H5 g5 => ?_) (fun _ H5 g5 => hz _ _ ⟨i + 1, l, d, n, by omega, m4.trans (Ms.gr g5 upd_same), g5.lst upd_same, g5.lst (by rw [upd_ne tc]; exact hc4), rfl, rfl, rfl⟩)
    refine s_rawSet (P := (· = cell)) (k := 2) (g5.lst upd_same) rfl (ev_var rfl rfl) rfl fun d' v6 H6 e6 g6 r6 ht6 => ?_
    subst e6
    have e6 : v6 = .int d' := r6
    subst e6
    exact hz _ _ ⟨i + 1, d', d, n, by omega, (m4.trans (Ms.gr (g5.trans g6) upd_same)).trans Ms.put, upd_same, by rw [upd_ne tc]; exact (g5.trans g6).lst (by rw [upd_ne tc]; exact hc4), rfl, rfl, rfl⟩
  · rintro σ1 H1 ⟨i, l, m, n, hi, m1, ht, hc, s0, s1, sl⟩
    refine q_when (b := decide (0 < l)) (et_test (ev_gt (ev_raw ht s0 rfl rfl) ev_int)) (fun _ H2 g2 => ?_) (fun _ H2 g2 => ?_)
    · refine q_asg (P := fun (d : Int) => 0 ≤ d ∧ d < many) (ed_mod (ed_int1 (ev_raw (d := l) (g2.lst ht) s0 rfl rfl)) (ev_var (d := many) s1 rfl) (fun a b _ eb => ⟨by omega, by rw [eb]; exact fmod_rng (by omega)⟩)) fun d v3 H3 p3 g3 r3 => ?_
      have g13 := g2.trans g3
      refine q_rawSet (P := fun (_ : Int) => True) (k := 2) (g13.lst ht) (sne (by decide) s0) (ed_fdiv (ev_raw (d := l) (g13.lst ht) (sne (by decide) s0) rfl rfl) (ev_var (d := many) (sne (by decide) s1) rfl) (fun a b _ eb => ⟨⟨by omega, by omega⟩, trivial⟩)) rfl fun d4 v4 H4 _ g4 r4 ht4 => ?_
      have e4 : v4 = .int d4 := r4
      subst e4
      refine s_retE (d := d) (ev_var (seq (by omega)) (show v3 = .int d from r3)) fun v5 H5 g5 r5 => ?_
      have e5 : v5 = .int d := r5
      subst e5
      exact k d i d4 m n H5 p3.1 p3.2 hi (((m1.trans (Ms.gr (g13.trans g4) ht)).trans Ms.put).trans (Ms.gr g5 upd_same)) (g5.lst upd_same)
    · refine q_rawSet (P := fun (_ : Int) => True) (k := 4) (g2.lst ht) s0 (ed_add (ev_raw (d := n) (g2.lst ht) s0 rfl rfl) ev_int (fun _ _ _ _ => trivial)) rfl fun d3 v3 H3 _ g3 r3 ht3 => ?_
      have e3 : v3 = .int d3 := r3
      subst e3
      have m3 := (m1.trans (Ms.gr (g2.trans g3) ht)).trans (Ms.put (o' := .lst [.ref c, .int i, .int l, .int m, .int d3]))
      refine q_asg (P := fun (d : Int) => 0 ≤ d ∧ d < 2147483647) (ed_mod (ed_int1 (ed_mulL (ed_int1 (ed_add (P := fun _ => True) (ev_raw (d := m) upd_same s0 rfl rfl) (ed_mulL ev_int (ev_raw (d := d3) upd_same s0 rfl rfl) (fun a b e _ => .inl (by rw [e]; decide))) (fun _ _ _ _ => trivial))) ev_int (fun a b _ e => .inr (by rw [e]; decide)))) ev_int (fun a b _ eb => ⟨by rw [eb]; decide, by rw [eb]; exact fmod_rng (by decide)⟩)) fun d4 v4 H4 p4 g4 r4 => ?_
      refine q_asg (P := fun (d : Int) => 0 ≤ d ∧ d < 2147483647) (ed_mod (ed_int1 (ed_mulL (ev_var (d := d4) (seq (by omega)) r4) (ed_add (ed_fdiv (ev_var (d := d4) (seq (by omega)) r4) ev_int (P := fun _ => True) (fun a b _ eb => ⟨by rw [eb]; exact ⟨by decide, by decide⟩, trivial⟩)) ev_int (P := fun _ => True) (fun _ _ _ _ => trivial)) (fun a b ea _ => .inl (by rw [ea]; exact ⟨by omega, by omega⟩)))) ev_int (fun a b _ eb => ⟨by rw [eb]; decide, by rw [eb]; exact fmod_rng (by decide)⟩)) fun d5 v5 H5 p5 g5 r5 => ?_
      refine q_asg (P := fun (d : Int) => True) (ed_mod (ed_int1 (ed_mulL (ev_var (d := d5) (seq (by rw [List.length_set]; omega)) r5) (ed_add (ed_fdiv (ev_var (d := d5) (seq (by rw [List.length_set]; omega)) r5) ev_int (P := fun _ => True) (fun a b _ eb => ⟨by rw [eb]; exact ⟨by decide, by decide⟩, trivial⟩)) ev_int (P := fun _ => True) (fun _ _ _ _ => trivial)) (fun a b ea _ => .inl (by rw [ea]; exact ⟨by omega, by omega⟩)))) ev_int (fun a b _ eb => ⟨by rw [eb]; decide, trivial⟩)) fun d6 v6 H6 _ g6 r6 => ?_
      refine s_ret (P := fun (d : Int) => 0 ≤ d ∧ d < many) (ed_mod (ed_int1 (ed_fdiv (ev_var (d := d6) (seq (by rw [List.length_set, List.length_set]; omega)) r6) ev_int (P := fun _ => True) (fun a b _ eb => ⟨by rw [eb]; exact ⟨by decide, by decide⟩, trivial⟩))) (ev_var (d := many) (sne (by decide) (sne (by decide) (sne (by decide) s1))) rfl) (fun a b _ eb => ⟨by omega, by rw [eb]; exact fmod_rng (by omega)⟩)) fun d7 v7 H7 p7 g7 r7 => ?_
      have e7 : v7 = .int d7 := r7
      subst e7
      have g47 := ((g4.trans g5).trans g6).trans g7
      exact k d7 i l m d3 H7 p7.1 p7.2 hi (m3.trans (Ms.gr g47 upd_same)) (g47.lst upd_same)
theorem ok_law_draw (T : Ctx K mg) : FnOk P w K mg base CX0 1 T.a_law_draw T.fd_law_draw ["hand", "many"] (Sp2 (fun (_ : Hand) (many : Int) => 1 ≤ many ∧ many < 1073741824) (fun _ many (d : Int) => 0 ≤ d ∧ d < many)) :=
  fn_hid (ok0_law_draw T) (fun vs H Q E h => h.len) fun vs H Q E ⟨v, v', hd, many, e, r, r', ⟨b1, b2⟩, k⟩ => by
    obtain ⟨t, c, ns, rfl, ht, hc⟩ := r
    have e' : v' = .int many := r'
    subst e'
    refine ⟨t, Phand c, ht, fun xs px => ?_⟩
    obtain ⟨i, l, m, n, rfl, hi⟩ := px
    have tc : c ≠ t := fun z => by rw [z, ht] at hc; cases hc
    refine ⟨t, c, ns, i, l, m, n, many, e, upd_same, by rw [upd_ne tc]; exact hc, hi, b1, b2, fun d i' l' m' n' H' d1 d2 hi' ms ht' => ⟨_, ht', ⟨i', l', m', n', rfl, hi'⟩, ?_⟩⟩
    have g := ms (hidL t (Phand c)) (by intro _ _ _ _ _ z; cases z) (by intro _ z; cases z)
    rw [upd_upd, upd_back ht] at g
    exact k d _ _ ⟨d1, d2⟩ g rfl

theorem ok_law_any (T : Ctx K mg) : FnOk P w K mg base CX0 2 T.a_law_any T.fd_law_any ["hand", "things"] (Sp2 (fun (_ : Hand) (ts : Ls Int) => 1 ≤ ts.l.length ∧ ts.l.length ≤ 100000) (fun _ ts (d : Int) => d ∈ ts.l)) := by
  have G_law_draw := ok_law_draw (P := P) (w := w) (base := base) T
  refine T.F_law_any.ok sc_law_any (fun vs H Q E h => h.len) (fun cdv A outer s H vs Q E hr h => ?_)
  obtain ⟨v, v', hd, ts, rfl, ra, rb, ⟨b1, b2⟩, k⟩ := h
  refine ⟨_, (pss_one (ps_ret (pe_ix (k_ix_list (K := K) rfl) (pv 1) (pe_call (G_law_draw) (hr.mono (by first | decide | omega)) (by rfl) T.m_law_draw T.F_law_draw.kp T.b_law_draw .nil pass0 (pa_cons (pv 0) (pa_cons (pe_callB (k_len (K := K) rfl) (by rfl) T.n_len (by decide +kernel) (pa_cons (pv 1) pa_nil)) pa_nil))) (fun _ _ => rfl)))), ?_⟩
  refine s_ret (ed_ixL (ds := ts.l) (Pi := fun i => 0 ≤ i ∧ i < ts.l.length) (ev_var rfl rb) (ed_call2 (ev_var rfl ra) (ev_lenL (ev_var rfl rb)) (fun a b _ eb => by rw [eb]; omega) (fun a b d _ eb p => by rw [eb] at p; exact p)) (fun i p => by
    obtain ⟨d, h1, h2⟩ := atI_nat p.1 p.2
    exact ⟨d, h1, List.mem_of_getElem? h2⟩)) fun d v H1 p g r => k d v H1 p g r

theorem ok_law_mixed (T : Ctx K mg) : FnOk P w K mg base CX0 2 T.a_law_mixed T.fd_law_mixed ["hand", "many"] (Sp2 (fun (_ : Hand) (many : Int) => 0 ≤ many ∧ many ≤ 1000) (fun _ many (d : Ls Int) => d.l.Perm (rngI 0 many.toNat))) := by
  have G_law_draw := ok_law_draw (P := P) (w := w) (base := base) T
  refine T.F_law_mixed.ok sc_law_mixed (fun vs H Q E h => h.len) (fun cdv A outer s H vs Q E hr h => ?_)
  obtain ⟨v, v', hd, many, rfl, ra, rb, ⟨m0, m1⟩, k⟩ := h
  refine ⟨_, (pss_cons (ps_par (i := 2) (j := 3) rfl sc_law_mixed.nd rfl rfl (by decide) rfl rfl (pa_cons (pe_lst pa_nil) (pa_cons (pe_listRg rfl (by rfl) T.n_list (prg_1 (by rfl) T.n_range (pv 1))) pa_nil)) (by rfl))
      (pss_cons (ps_while PassesOwn.never (pt_cmpR op_gt (pe_callB (k_len (K := K) rfl) (by rfl) T.n_len (by decide +kernel) (pa_cons (pv 3) pa_nil)) pe_int (nomark _)) (pss_one (ps_expr (k_bm (K := K) rfl PySem.F.plainAttrs_list PySem.F.slot_list_append PySem.F.type_list_append mt_append (pv 2) (pa_cons (k_bm (K := K) rfl PySem.F.plainAttrs_list PySem.F.slot_list_pop PySem.F.type_list_pop mt_popAt (pv 3) (pa_cons (pe_call (G_law_draw) (hr.mono (by first | decide | omega)) (by rfl) T.m_law_draw T.F_law_draw.kp T.b_law_draw .nil pass0 (pa_cons (pv 0) (pa_cons (pe_callB (k_len (K := K) rfl) (by rfl) T.n_len (by decide +kernel) (pa_cons (pv 3) pa_nil)) pa_nil))) pa_nil)) pa_nil)))))
      (pss_one (ps_ret (pv 2))))), ?_⟩
  refine q_parFF (edF_newL (α := Int)) (edF_rg1 (ev_var rfl rb) (by omega)) fun d0 p l0 q H1 e1 e2 g1 hp hq hpq r1 r2 => ?_
  subst e1 e2
  refine q_while (fun m σ' H' => ∃ (fl lt : List Int), Gr H H' ∧ Py.rep (Ls.mk fl) (.ref p) H' ∧ Py.rep (Ls.mk lt) (.ref q) H' ∧ σ'[0]? = some (some v) ∧ σ'[2]? = some (some (.ref p)) ∧ σ'[3]? = some (some (.ref q)) ∧ (fl ++ lt).Perm (rngI 0 many.toNat) ∧ m = lt.length) many.toNat
    ⟨[], _, g1, r1, r2, rfl, rfl, rfl, List.Perm.refl _, (rngI_length _ _).symm⟩ ?_
  rintro m σ' H2 ⟨fl, lt, g2, r3, r4, s0, s2, s3, pm, hm⟩
  have hlen := pm.length_eq
  rw [List.length_append, rngI_length] at hlen
  refine ⟨decide ((0 : Int) < lt.length), et_test (ev_gt (ev_lenL (ev_var s3 r4)) ev_int), fun hb H3 g3 => ?_, fun hb H3 g3 => ?_⟩
  · have hpos : 0 < lt.length := by have := of_decide_eq_true hb; omega
    refine ⟨_, fun σ2 H4 h4 => h4, ?_⟩
    have g13 := g2.trans g3
    refine s_appPop (P := fun c => 0 ≤ c ∧ c < lt.length) (Py.mono g3 r3) (Py.mono g3 r4) hpq s2 s3 (ed_call2 (ev_var s0 (Py.mono g13 ra)) (ev_lenL (l := lt) (ev_var s3 (Py.mono g3 r4))) (fun _ b _ eb => by rw [eb]; omega) (fun _ b d _ eb p => by rw [eb] at p; exact p)) (fun c h => h) (by omega) (by omega) fun n d H4 hn gg tk r5 r6 => ?_
    have hnl := (List.getElem?_eq_some_iff.mp hn).1
    refine ⟨lt.length - 1, by omega, fl ++ [d], lt.eraseIdx n, gg _ g13 hp hq, r5, r6, s0, s2, s3, ?_, ?_⟩
    · rw [List.append_assoc]
      exact ((perm_pop hn).append_left fl).trans pm
    · rw [List.length_eraseIdx, if_pos hnl]
  · have hw : lt = [] := by
      cases lt with
      | nil => rfl
      | cons a b => exact absurd hb (by simp)
    subst hw
    rw [List.append_nil] at pm
    exact s_retE (ev_var s2 (Py.mono g3 r3)) fun y H4 g4 r5 => k _ y H4 pm ((g2.trans g3).trans g4) r5

def besL (r : Int) (ds : List (Int × Int)) : Ls (Ls Int) := Ls.mk ((besM r ds).map Ls.mk)
theorem ok_law_besides (T : Ctx K mg) : FnOk P w K mg base CX0 1 T.a_law_besides T.fd_law_besides ["rooms", "doors"] (Sp2 (fun (rooms : Int) (ds : List (Int × Int)) => HOk' rooms ds) (fun r ds (d : Ls (Ls Int)) => d = besL r ds)) := by
  refine T.F_law_besides.ok sc_law_besides (fun vs H Q E h => h.len) (fun cdv A outer s H vs Q E hr h => ?_)
  obtain ⟨v, v', r, ds, rfl, ra, rb, ⟨h1, h2, h3, h4, h5⟩, k⟩ := h
  refine ⟨_, (pss_cons (ps_setLc (i := 2) (own := [("room", 3)]) rfl sc_law_besides.nd rfl rfl (sw_true rfl rfl rfl (by decide +kernel)) (pi_range1 (by rfl) T.n_range (pa_cons (pv 0) pa_nil)) (blkOk_by (by kernel_rfl)) (fun _ _ _ _ _ => (pg_name (i := 3) sc_law_besides.nd rfl (Or.inl rfl) (Or.inr rfl))) (fun _ _ _ _ _ => pts_nil) (fun _ _ _ _ _ => (pe_lst pa_nil)))
      (pss_cons (ps_for PassesOwn.never rfl (k_pi_tup (K := K) rfl (pv 1)) (k_pg_tup (K := K) (n := 2) rfl rfl (pgs_cons (pg_name (i := 4) sc_law_besides.nd rfl (Or.inl rfl) (Or.inr rfl)) (pgs_cons (pg_name (i := 5) sc_law_besides.nd rfl (Or.inl rfl) (Or.inr rfl)) pgs_nil)) rfl)
      (pss_cons (ps_expr (k_bm (K := K) rfl PySem.F.plainAttrs_list PySem.F.slot_list_append PySem.F.type_list_append mt_append (pe_ix (k_ix_list (K := K) rfl) (pv 2) (pv 4) (fun _ _ => rfl)) (pa_cons (pv 5) pa_nil)))
      (pss_one (ps_expr (k_bm (K := K) rfl PySem.F.plainAttrs_list PySem.F.slot_list_append PySem.F.type_list_append mt_append (pe_ix (k_ix_list (K := K) rfl) (pv 2) (pv 5) (fun _ _ => rfl)) (pa_cons (pv 4) pa_nil))))))
      (pss_one (ps_ret (pe_lc (own := [("row", 6)]) rfl sc_law_besides.nd (k_pi_list (K := K) rfl (pv 2)) (blkOk_by (by kernel_rfl)) (fun _ _ _ _ _ => (pg_name (i := 6) sc_law_besides.nd rfl (Or.inl rfl) (Or.inr rfl))) (fun _ _ _ _ _ => pts_nil) (fun _ _ _ _ _ => (pe_callB (cr_sortedG rfl hr.units) (by rfl) T.n_sorted (by decide +kernel) (pa_cons (pv 6) pa_nil)))))))), ?_⟩
  refine q_nest (α := Int) (src_rng1 (ev_var rfl ra) (by omega)).src (by rw [rngI_length]; omega) (fun _ => rfl) fun A as H2 g2 N => ?_
  rw [rngI_length, ← nbAll_nil] at N
  refine q_forT (src_tup (ev_var rfl (Py.mono g2 rb))) fun H3 g3 => ?_
  refine ⟨fun i σ' H' => Gr H H' ∧ TupK H3 H' ∧ Nest H H' A as (nbAll r (ds.take i)) ∧ σ'[2]? = some (some (.ref A)) ∧ σ'.length = 7, ⟨g2.trans g3, TupK.refl _, by simpa using N.gr g3, rfl, rfl⟩, fun i σ' H' p => p.2.1, ?_, ?_⟩
  · rintro i ⟨a, b⟩ x σ' H' H'' hd ⟨g4, tk, N4, s1, sl⟩ g5 rx
    refine gTup2 rx fun y z ry rz => ?_
    have hm := List.mem_of_getElem? hd
    obtain ⟨o1, o2, o3⟩ := h3 _ hm
    have hi := (List.getElem?_eq_some_iff.mp hd).1
    have htk : ds.take (i + 1) = ds.take i ++ [(a, b)] := by rw [List.take_add_one, hd]; rfl
    have hle : (ds.take i).length ≤ 40000 := by rw [List.length_take]; omega
    simp only [] at o1 o2 o3
    have v1 := nbAll_get (r := r) (l := ds.take i) (a := a) o1 (by omega)
    have l1 := nbrs_length a (ds.take i)
    have l2 := nbrs_length b (ds.take i)
    have e3 : ((σ'.set 4 (some y)).set 5 (some z))[4]? = some (some y) := by simp [sl]
    have e4 : ((σ'.set 4 (some y)).set 5 (some z))[5]? = some (some z) := by simp [sl]
    have e1 : ((σ'.set 4 (some y)).set 5 (some z))[2]? = some (some (.ref A)) := sne (by decide) (sne (by decide) s1)
    refine q_nestApp (d := b) (N4.gr g5) (g4.trans g5) e1 (ev_var e3 ry) (ev_var e4 rz) o1 v1 (by omega) fun H5 g6 tk6 N5 => ?_
    have v2 : ((nbAll r (ds.take i)).set a.toNat (nbrs a (ds.take i) ++ [b]))[b.toNat]? = some (nbrs b (ds.take i)) := by
      rw [List.getElem?_set_ne (by omega)]; exact nbAll_get (by omega) (by omega)
    refine s_nestApp (d := a) N5 g6 e1 (ev_var e4 (PyI.keep tk6 rz)) (ev_var e3 (PyI.keep tk6 ry)) (by omega) v2 (by omega) fun H6 g7 tk7 N6 => ?_
    rw [nbAll_snoc o1 (by omega) (by omega) o3 (by omega)] at N6
    exact ⟨g7, ((tk.trans g5.tup).trans tk6).trans tk7, by rw [htk]; exact N6, e1, by simp [sl]⟩
  · rintro σ' H' ⟨g4, tk, N4, s1, sl⟩
    rw [List.take_length] at N4
    refine s_retE ((el_nestF (v := fun (l : Ls Int) => sortO l.l) (src_lstG (ev_var s1 N4.rep)) (by simp [nbAll]; omega) (fun x => by simp [wipe]) fun d x H5 m g5 rx => edF_sortedL (ds := d.l) (ev_var (by simp [wipe, sl]) rx) (fun _ _ => trivial)).ed.imp (P' := (· = besL r ds)) fun l e => ?_) fun w H5 g5 r5 => k _ w H5 rfl (g4.trans g5) r5
    rw [e]
    unfold besL
    rw [List.map_map, ← besM_nb, List.map_map]; rfl

def openL (r : Int) (ds : List (Int × Int)) (lot : List Int) : List Int := (sortO lot).filter fun room => (((besM r ds).getD room.toNat []).map (fun z => decide (z ∉ lot))).any id
def OpOk (bv : Ls (Ls Int)) (lot : List Int) : Prop := ∃ r ds, HOk' r ds ∧ bv = besL r ds ∧ (∀ x ∈ lot, 0 ≤ x ∧ x < r) ∧ lot.length ≤ 100
theorem besL_inj {r r2 : Int} {ds ds2 : List (Int × Int)} (e : besL r ds = besL r2 ds2) : besM r ds = besM r2 ds2 := by
  unfold besL at e
  injection e with e
  have := congrArg (List.map Ls.l) e
  rw [List.map_map, List.map_map] at this
  have h : ∀ l : List (List Int), l.map (Ls.l ∘ Ls.mk) = l := fun l => by
    rw [show (Ls.l ∘ Ls.mk : List Int → List Int) = id from rfl, List.map_id]
  rw [h, h] at this
  exact this
theorem besM_row {r : Int} {ds : List (Int × Int)} (ok : HOk' r ds) : ∀ z ∈ besM r ds, z.length ≤ 36 := fun z hz => by
  unfold besM at hz
  obtain ⟨a, _, rfl⟩ := List.mem_map.mp hz
  unfold isortI
  rw [List.length_mergeSort]
  exact Nat.le_trans (nbrs_len1 (a : Int) ds fun d m => (ok.2.2.1 d m).2.1) ok.2.2.2.2
theorem ok_law_open (T : Ctx K mg) : FnOk P w K mg base CX0 1 T.a_law_open T.fd_law_open ["besides_v", "lot"] (Sp2 (fun (bv : Ls (Ls Int)) (lot : List Int) => OpOk bv lot) (fun bv lot (d : List Int) => ∀ r ds, HOk' r ds → bv = besL r ds → d = openL r ds lot)) := by
  refine T.F_law_open.ok sc_law_open (fun vs H Q E h => h.len) (fun cdv A outer s H vs Q E hr h => ?_)
  obtain ⟨v, v', bv, lot, rfl, ra, rb, ⟨r, ds, ok, eb, hin, hl⟩, k⟩ := h
  subst eb
  have h9 := ok.2.1
  have bl : (besM r ds).length = r.toNat := by unfold besM; simp
  refine ⟨_, (pss_one (ps_ret (pe_callTy (k_tuple_of (K := K) rfl) (by rfl) T.n_tuple (by decide +kernel) (pa_cons (pe_lc (own := [("room", 2)]) rfl sc_law_open.nd (k_pi_list (K := K) rfl (pe_callB (cr_sortedG rfl hr.units) (by rfl) T.n_sorted (by decide +kernel) (pa_cons (pv 1) pa_nil))) (blkOk_by (by kernel_rfl)) (fun _ _ _ _ _ => (pg_name (i := 2) sc_law_open.nd rfl (Or.inl rfl) (Or.inr rfl))) (fun _ _ _ _ _ => (pts_one (pt_val (pe_callB (k_any (K := K) rfl rfl) (by rfl) T.n_any (by decide +kernel) (pa_cons (pe_lc (own := [("other", 3)]) rfl sc_law_open.nd (k_pi_list (K := K) rfl (pe_ix (k_ix_list (K := K) rfl) (pv 0) (pv 2) (fun _ _ => rfl))) (blkOk_by (by kernel_rfl)) (fun _ _ _ _ _ => (pg_name (i := 3) sc_law_open.nd rfl (Or.inl rfl) (Or.inr rfl))) (fun _ _ _ _ _ => pts_nil) (fun _ _ _ _ _ => (pe_cmpR (k_notIn_seq (K := K) rfl) (pv 3) (pv 1) (by rfl)))) pa_nil))))) (fun _ _ _ _ _ => (pv 2))) pa_nil)))), ?_⟩
  refine s_retE (ev_tupL (ev_is (el_lcN (f := fun room => (((besM r ds).getD room.toNat []).map (fun z => decide (z ∉ lot))).any id) (v := fun z => z) (src_lst (ev_sortedT (ev_var rfl rb) (fun _ _ => trivial))).src (by rw [sortO_len]; omega) (fun _ => rfl) (fun d x H' m g rx => by
    obtain ⟨w0, w1⟩ := hin d (mem_sortO.mp m)
    obtain ⟨row, hat, hrow⟩ := atI_nat (l := besM r ds) w0 (by rw [bl]; omega)
    have hgd : (besM r ds).getD d.toNat [] = row := by rw [List.getD_eq_getElem?_getD, hrow]; rfl
    have hrl := besM_row ok row (List.mem_of_getElem? hrow)
    have hat2 : L2.atI ((besM r ds).map Ls.mk) d = some (Ls.mk row) := by
      unfold L2.atI at hat ⊢
      rw [List.length_map]
      cases q : ixN (besM r ds).length d with
      | none => rw [q] at hat; cases hat
      | some j =>
        rw [q] at hat
        show ((besM r ds).map Ls.mk)[j]? = _
        rw [List.getElem?_map, show (besM r ds)[j]? = some row from hat]; rfl
    rw [hgd]
    exact et_B (ev_any (el_mapN (src_lst (ev_ixL (ds := (besM r ds).map Ls.mk) (ev_var rfl (Py.mono g ra)) (ev_var rfl rx) hat2)).src (by omega) (fun _ => rfl) fun d' x' H2 m' g' rx' => ev_is (ev_inIT (neg := true) (ev_var rfl rx') (ev_var rfl (Py.mono (g.trans g') rb))) (by simp))))
    (fun d x H' m g rx _ => ev_var rfl rx)) (by rw [List.map_id']))) fun w H1 g r' => k _ w H1 (fun r2 ds2 ok2 e2 => ?_) g r'
  have e3 : besM r ds = besM r2 ds2 := besL_inj e2
  unfold openL
  rw [e3]

end
end Cl
namespace Cl
open PySem L2 Zw RZ
section
variable {P : Program} {w : World} {K : PySem.W.Frag} {mg : Str → Option Value} {base : Heap}
theorem bes_nears {r : Int} {ds : List (Int × Int)} (ok : HOk' r ds) {x : Int} (hx : 0 ≤ x ∧ x < r) {row : List Int} (h : (besM r ds)[x.toNat]? = some row) {z : Int} (hz : z ∈ row) : z ∈ (nearsM r ds).getD x.toNat [] := by
  have hm : (nearsM r ds)[x.toNat]? = some (sortO (row ++ [((x.toNat : Nat) : Int)])) := by
    unfold nearsM
    rw [List.getElem?_map, numL_at h]; rfl
  rw [List.getD_eq_getElem?_getD, hm]
  show z ∈ sortO _
  rw [mem_sortO]
  exact List.mem_append_left _ hz
theorem bes_near {r r' : Int} {ds ds' : List (Int × Int)} (ok : HOk' r ds) (ok' : HOk' r' ds') (e : besM r ds = besM r' ds') : r = r' ∧ ∀ y z, Near r ds y z → Near r' ds' y z := by
  have el := congrArg List.length e
  unfold besM at el
  simp at el
  have h1 := ok.1
  have h2 := ok'.1
  have er : r = r' := by omega
  subst er
  refine ⟨rfl, fun y z h => ?_⟩
  have en : nearsM r ds = nearsM r ds' := by unfold nearsM; rw [e]
  have := (near_nearsM ok h.1.1 h.1.2).mpr h
  rw [en] at this
  exact (near_nearsM ok' h.1.1 h.1.2).mp this
theorem ok_law_reached (T : Ctx K mg) : FnOk P w K mg base CX0 1 T.a_law_reached T.fd_law_reached ["besides_v", "firsts", "barred"] (Sp3 (fun (bv : Nd (Ls (Ls Int))) (firsts barred : Ls Int) => ∃ r ds, HOk' r ds ∧ bv.v = besL r ds ∧ (∀ x ∈ firsts.l, 0 ≤ x ∧ x < r) ∧ firsts.l.length ≤ 100) (fun bv firsts barred (d : DI Bool) => ∀ r ds, HOk' r ds → bv.v = besL r ds → (∀ x ∈ firsts.l, 0 ≤ x ∧ x < r) → SprOk r ds firsts.l barred.l (keysD d.kv))) := by
  refine T.F_law_reached.ok sc_law_reached (fun vs H Q E h => h.len) (fun cdv A outer s H vs Q E hr h => ?_)
  obtain ⟨v, v', v'', bv, firsts, barred, rfl, ⟨ra, hneat⟩, rb, rc, ⟨r, ds, ok, eb, hin, hl⟩, k⟩ := h
  obtain ⟨bvv⟩ := bv
  simp only at ra eb
  subst eb
  have h9 := ok.2.1
  have bl : (besM r ds).length = r.toNat := by unfold besM; simp
  refine ⟨_, (pss_cons (ps_par (i := 3) (j := 4) rfl sc_law_reached.nd rfl rfl (by decide) rfl rfl (pa_cons pe_dnewK (pa_cons (pe_lc (own := [("room", 5)]) rfl sc_law_reached.nd (k_pi_list (K := K) rfl (pv 1)) (blkOk_by (by kernel_rfl)) (fun _ _ _ _ _ => (pg_name (i := 5) sc_law_reached.nd rfl (Or.inl rfl) (Or.inr rfl))) (fun _ _ _ _ _ => (pts_one (pt_cmpR (k_notIn_seq (K := K) rfl) (pv 5) (pv 2) (by rfl)))) (fun _ _ _ _ _ => (pv 5))) pa_nil)) (by rfl))
      (pss_cons (ps_while PassesOwn.never (pt_cmpR op_gt (pe_callB (k_len (K := K) rfl) (by rfl) T.n_len (by decide +kernel) (pa_cons (pv 4) pa_nil)) pe_int (nomark _)) (pss_cons (ps_set (i := 5) sc_law_reached.nd rfl (Or.inl rfl) (k_bm0 (K := K) rfl PySem.F.plainAttrs_list PySem.F.slot_list_pop PySem.F.type_list_pop mt_pop (pv 4)))
      (pss_one (ps_if (pt_cmp (pc_dnotin (hu_of hr) (pv 5) (pv 3)) (by rfl)) (pss_cons (ps_dput (hu_of hr) (pv 3) (pv 5) pe_bl rfl)
      (pss_one (ps_expr (k_bm (K := K) rfl PySem.F.plainAttrs_list PySem.F.slot_list_extend PySem.F.type_list_extend mt_extend (pv 4) (pa_cons (pe_lc (own := [("other", 6)]) rfl sc_law_reached.nd (k_pi_list (K := K) rfl (pe_ix (k_ix_list (K := K) rfl) (pv 0) (pv 5) (fun _ _ => rfl))) (blkOk_by (by kernel_rfl)) (fun _ _ _ _ _ => (pg_name (i := 6) sc_law_reached.nd rfl (Or.inl rfl) (Or.inr rfl))) (fun _ _ _ _ _ => (pts_one (pt_cmpR (k_notIn_seq (K := K) rfl) (pv 6) (pv 2) (by rfl)))) (fun _ _ _ _ _ => (pv 6))) pa_nil))))) pss_nil))))
      (pss_one (ps_ret (pv 3))))), ?_⟩
  refine q_parFF (edF_newDI (β := Bool) hneat) (elF_lcN (f := fun x => decide (x ∉ barred.l)) (v := fun z => z) (src_lst (ev_var rfl rb)).src (by omega) (fun _ => rfl) (fun d x H' m g rx => et_test (ev_is (ev_inIL (neg := true) (ev_var rfl rx) (ev_var rfl (Py.mono g rc))) (by simp))) (fun d x H' m g rx _ => ev_var rfl rx)) fun d0 p l0 q H1 e1 e2 g1 hp hq hpq r1 r2 => ?_
  subst e1 e2
  rw [List.map_id'] at r2
  have hfl : (firsts.l.filter fun x => decide (x ∉ barred.l)).length ≤ 100 := Nat.le_trans (List.length_filter_le _ _) hl
  refine q_while (fun m σ' H' => ∃ (kv : List (Int × Bool)) (wt : List Int), Gr H H' ∧ Py.rep (DI.mk kv) (.ref p) H' ∧ Py.rep (Ls.mk wt) (.ref q) H' ∧ σ'[0]? = some (some v) ∧ σ'[2]? = some (some v'') ∧ σ'[3]? = some (some (.ref p)) ∧ σ'[4]? = some (some (.ref q)) ∧ σ'.length = 7 ∧ SInv r ds firsts.l barred.l kv wt ∧ (∀ w ∈ wt, w ∉ barred.l) ∧ m = wt.length + 40 * free r kv ∧ m ≤ 1000) ((firsts.l.filter fun x => decide (x ∉ barred.l)).length + 40 * free r ([] : List (Int × Bool)))
    ⟨[], _, g1, r1, r2, rfl, rfl, rfl, rfl, rfl, ⟨by unfold keysD; exact List.nodup_nil, fun k m => by unfold keysD at m; simp at m, fun w m => hin w (List.mem_filter.mp m).1, fun S s1 s2 => ⟨fun k m => by unfold keysD at m; simp at m, fun w m hb => s1 w (List.mem_filter.mp m).1 hb⟩⟩, fun w m => by have := (List.mem_filter.mp m).2; simpa using this, rfl, by have := free_le r ([] : List (Int × Bool)); omega⟩ ?_
  rintro m σ' H2 ⟨kv, wt, g2, r3, r4, s0, s2, s3, s4, sl, inv, hnb, hm, hm2⟩
  refine ⟨decide ((0 : Int) < wt.length), et_test (ev_gt (ev_lenL (ev_var s4 r4)) ev_int), fun hb H3 g3 => ?_, fun hb H3 g3 => ?_⟩
  · obtain ⟨wt', x, rfl⟩ : ∃ wt' x, wt = wt' ++ [x] := by
      have hne : wt ≠ [] := by rintro rfl; exact absurd hb (by decide)
      exact ⟨wt.dropLast, wt.getLast hne, (List.dropLast_concat_getLast hne).symm⟩
    refine ⟨_, fun σ2 H4 h4 => h4, ?_⟩
    have g13 := g2.trans g3
    refine q_popAsg (ds := wt') (d := x) (Py.mono g3 r4) s4 fun v5 H4 mu4 r5 r6 => ?_
    have g4 := mu4.gr g13 hq
    have rkv4 := mu4.dI hpq (Py.mono g3 r3)
    have t0 : (σ'.set 5 (some v5))[0]? = some (some v) := sne (by decide) s0
    have t2 : (σ'.set 5 (some v5))[2]? = some (some v'') := sne (by decide) s2
    have t3 : (σ'.set 5 (some v5))[3]? = some (some (.ref p)) := sne (by decide) s3
    have t4 : (σ'.set 5 (some v5))[4]? = some (some (.ref q)) := sne (by decide) s4
    have t5 : (σ'.set 5 (some v5))[5]? = some (some v5) := seq (by omega)
    have tl : (σ'.set 5 (some v5)).length = 7 := by simp [sl]
    have hxr : 0 ≤ x ∧ x < r := inv.wr x (by simp)
    have hxb : x ∉ barred.l := hnb x (by simp)
    generalize σ'.set 5 (some v5) = σ4 at t0 t2 t3 t4 t5 tl ⊢
    refine s_when (b := !decide (x ∈ keysD kv)) (et_B (ev_notInDI (ev_var t5 r6) (ev_var t3 rkv4))) (fun hb2 H5 g5 => ?_) (fun hb2 H5 g5 => ?_)
    · have hn1 : x ∉ keysD kv := by simpa using hb2
      obtain ⟨row, hat, hrow⟩ := atI_nat (l := besM r ds) hxr.1 (by rw [bl]; omega)
      have hrl := besM_row ok row (List.mem_of_getElem? hrow)
      have hat2 : L2.atI ((besM r ds).map Ls.mk) x = some (Ls.mk row) := by
        unfold L2.atI at hat ⊢
        rw [List.length_map]
        cases q : ixN (besM r ds).length x with
        | none => rw [q] at hat; cases hat
        | some j =>
          rw [q] at hat
          show ((besM r ds).map Ls.mk)[j]? = _
          rw [List.getElem?_map, show (besM r ds)[j]? = some row from hat]; rfl
      have hnear : ∀ z ∈ row, Near r ds x z := fun z hz => (near_nearsM ok hxr.1 hxr.2).mp (bes_nears ok hxr hrow hz)
      have hfr := free_put (r := r) (kv := kv) (x := x) (v := true) hxr hn1
      have hkl := keys_len inv.nd inv.kr
      refine q_putDI (Pk := (· = x)) (Pv := (· = true)) (Py.mono g5 rkv4) t3 (ev_var t5 (Py.mono g5 r6)) ev_bl (by unfold keysD at hkl; rw [List.length_map] at hkl; omega) fun k0 b0 H6 ek eb mu6 r7 => ?_
      subst ek eb
      have g6 := mu6.gr (g4.trans g5) hp
      have r8 := mu6.ls (Ne.symm hpq) (Py.mono g5 r5)
      rw [List.length_append] at hm
      simp at hm
      have hrf : (row.filter fun x => decide (x ∉ barred.l)).length ≤ 36 := Nat.le_trans (List.length_filter_le _ _) hrl
      refine s_ext (P := fun (l : Ls Int) => l = Ls.mk (row.filter fun x => decide (x ∉ barred.l))) r8 t4 (ev_is (el_lcN (f := fun x => decide (x ∉ barred.l)) (v := fun z => z) (src_lst (ev_ixL (ds := (besM r ds).map Ls.mk) (ev_var t0 (Py.mono g6 ra)) (ev_var (d := k0) t5 (PyI.keep (g5.tup.trans mu6.tup) r6)) hat2)).src (by omega) (fun z => by simp [wipe]) (fun d x H' m g rx => et_test (ev_is (ev_inIL (neg := true) (ev_var (d := d) (by simp [wipe, tl]) rx) (ev_var (d := barred) (by simp [wipe]; exact t2) (Py.mono (g6.trans g) rc))) (by simp)))
        (fun d x H' m g rx _ => ev_var (by simp [wipe, tl]) rx)) (by rw [List.map_id'])) (fun es e => by rw [e]; show wt'.length + (row.filter fun x => decide (x ∉ barred.l)).length ≤ _; omega) fun es H7 ee mu7 r9 => ?_
      cases ee
      refine ⟨_, ?_, _, _, mu7.gr g6 hq, mu7.dI hpq r7, r9, t0, t2, t3, t4, tl, sinv_put ok inv hn1 hxb hxr (fun z hz => hnear z (List.mem_filter.mp hz).1), fun w hw => ?_, rfl, ?_⟩
      · rw [List.length_append]; omega
      · rcases List.mem_append.mp hw with hw | hw
        · exact hnb w (List.mem_append_left _ hw)
        · have := (List.mem_filter.mp hw).2; simpa using this
      · rw [List.length_append]; omega
    · rw [List.length_append] at hm
      simp at hm
      refine ⟨_, ?_, _, _, g4.trans g5, Py.mono g5 rkv4, Py.mono g5 r5, t0, t2, t3, t4, tl, sinv_skip inv (fun h => absurd h (by simpa using hb2)), fun w hw => hnb w (List.mem_append_left _ hw), rfl, ?_⟩
      · omega
      · omega
  · have hw : wt = [] := by
      cases wt with
      | nil => rfl
      | cons a b => exact absurd hb (by simp)
    subst hw
    refine s_retE (ev_var s3 (Py.mono g3 r3)) fun y H4 g4 r5 => k _ y H4 (fun r' ds' ok' e' hin' => ?_) ((g2.trans g3).trans g4) r5
    obtain ⟨er, en⟩ := bes_near ok ok' (besL_inj e')
    subst er
    exact ⟨inv.nd, inv.kr, fun S s1 s2 => (inv.up S s1 fun y hy z hz hb => s2 y hy z (en y z hz) hb).1⟩

def sweepL (r : Int) (ds : List (Int × Int)) (row : List Int) : List (List Int) := (numL row).map fun d => sortO (openL r ds (row.take d.1.toNat) ++ [d.2])
theorem ok_law_sweep (T : Ctx K mg) : FnOk P w K mg base CX0 2 T.a_law_sweep T.fd_law_sweep ["besides_v", "row"] (Sp2 (fun (bv : Ls (Ls Int)) (row : List Int) => ∃ r ds, HOk' r ds ∧ bv = besL r ds ∧ RowOk r row) (fun bv row (d : List (List Int)) => ∀ r ds, HOk' r ds → bv = besL r ds → d = sweepL r ds row)) := by
  have G_law_open := ok_law_open (P := P) (w := w) (base := base) T
  refine T.F_law_sweep.ok sc_law_sweep (fun vs H Q E h => h.len) (fun cdv A outer s H vs Q E hr h => ?_)
  obtain ⟨v, v', bv, row, rfl, ra, rb, ⟨r, ds, ok, eb, rok⟩, k⟩ := h
  have hl : row.length = r.toNat := by rw [rok.2.2.length_eq, rngI_length]
  have h9 := ok.2.1
  refine ⟨_, (pss_cons (ps_set (i := 2) sc_law_sweep.nd rfl (Or.inl rfl) (pe_lst pa_nil))
      (pss_cons (ps_for PassesOwn.never rfl (k_pi_enumT (K := K) rfl (by rfl) T.n_enumerate (pa_cons (pv 1) pa_nil)) (k_pg_tup (K := K) (n := 2) rfl rfl (pgs_cons (pg_name (i := 3) sc_law_sweep.nd rfl (Or.inl rfl) (Or.inr rfl)) (pgs_cons (pg_name (i := 4) sc_law_sweep.nd rfl (Or.inl rfl) (Or.inr rfl)) pgs_nil)) rfl)
      (pss_one (ps_expr (k_bm (K := K) rfl PySem.F.plainAttrs_list PySem.F.slot_list_append PySem.F.type_list_append mt_append (pv 2) (pa_cons (pe_callTy (k_tuple_of (K := K) rfl) (by rfl) T.n_tuple (by decide +kernel) (pa_cons (pe_callB (cr_sortedG rfl hr.units) (by rfl) T.n_sorted (by decide +kernel) (pa_cons (pe_op (k_catT (K := K) rfl) (pe_call (G_law_open) (hr.mono (by first | decide | omega)) (by rfl) T.m_law_open T.F_law_open.kp T.b_law_open .nil pass0 (pa_cons (pv 0) (pa_cons (pe_slice (k_sl_tup (K := K) rfl) (pv 1) po_none (po_some (pv 3))) pa_nil))) (pe_tup (pa_cons (pv 4) pa_nil))) pa_nil)) pa_nil)) pa_nil)))))
      (pss_one (ps_ret (pe_callTy (k_tuple_of (K := K) rfl) (by rfl) T.n_tuple (by decide +kernel) (pa_cons (pv 2) pa_nil)))))), ?_⟩
  refine q_newL fun p hp => ?_
  have gA : Gr H (upd H p (.lst [])) := Gr.new hp
  refine q_foldT (fun (acc : List (List Int)) (d : Int × Int) => acc ++ [sortO (openL r ds (row.take d.1.toNat) ++ [d.2])]) [] (fun acc σ' H' => Gr H H' ∧ Py.rep (Ls.mk acc) (.ref p) H' ∧ σ'[0]? = some (some v) ∧ σ'[1]? = some (some v') ∧ σ'[2]? = some (some (.ref p)) ∧ σ'.length = 5)
    (src_enumT (ev_var rfl (Py.mono gA rb))) (fun H3 g3 => ⟨gA.trans g3, Py.mono g3 rep_newL, rfl, rfl, rfl, rfl⟩) (fun n σ' H3 H4 g ⟨a1, a2, a3⟩ => ⟨a1.trans g, Py.mono g a2, a3⟩) ?_ ?_
  · rintro Hb i ⟨a, b⟩ x acc σ' H3 gb tb hd ea ⟨g3, rf, s0, s1, s2, sl⟩ rx
    obtain ⟨e1, hrow⟩ := numL_get hd
    simp only [] at e1 hrow
    subst e1
    have hi := (List.getElem?_eq_some_iff.mp hrow).1
    refine gTup2 rx fun y z ry rz => ?_
    have t0 : ((σ'.set 3 (some y)).set 4 (some z))[0]? = some (some v) := sne (by decide) (sne (by decide) s0)
    have t1 : ((σ'.set 3 (some y)).set 4 (some z))[1]? = some (some v') := sne (by decide) (sne (by decide) s1)
    have t2 : ((σ'.set 3 (some y)).set 4 (some z))[2]? = some (some (.ref p)) := sne (by decide) (sne (by decide) s2)
    have t3 : ((σ'.set 3 (some y)).set 4 (some z))[3]? = some (some y) := sne (by decide) (seq (by omega))
    have t4 : ((σ'.set 3 (some y)).set 4 (some z))[4]? = some (some z) := seq (by rw [List.length_set]; omega)
    have hal : acc.length ≤ i := by
      rw [ea, foldl_snoc]; simp; omega
    have hos : (openL r ds (row.take (i : Int).toNat)).length ≤ 9 := by
      unfold openL
      refine Nat.le_trans (List.length_filter_le _ _) ?_
      rw [sortO_len, List.length_take]; omega
    refine s_app (P := fun d => d = sortO (openL r ds (row.take (i : Int).toNat) ++ [b])) rf t2 (ev_tupL (ev_sortedT (ev_catT (ed_call2 (P' := (· = openL r ds (row.take (i : Int).toNat))) (ev_var t0 (Py.mono g3 ra)) (ev_is (ev_slT (ds := row) (ev_var t1 (Py.mono g3 rb)) eo_none (eo_some (ev_var (d := (i : Int)) t3 ry))) (cutL_head row (by omega))) (fun _ _ ea eb2 => by subst ea eb2; exact ⟨r, ds, ok, eb, fun x m => (by have := mem_rngI.mp (rok.2.2.mem_iff.mp (List.mem_of_mem_take m)); omega), by rw [List.length_take]; omega⟩) (fun _ _ d ea eb2 p => by subst ea eb2; exact p r ds ok eb)) (ev_tup (eal_cons (ev_var t4 rz) eal_nil) (by show 1 ≤ _; decide)) (by show _ + 1 ≤ _; omega)) (fun _ _ => trivial))) (by omega) fun d H4 ed mu r4 => ?_
    subst ed
    exact ⟨tb.trans mu.tup, mu.gr g3 hp, r4, t0, t1, t2, by simp [sl]⟩
  · rintro σ' H3 tk ⟨g3, rf, s0, s1, s2, sl⟩
    rw [foldl_snoc] at rf
    refine s_retE (ev_tupL (a := sweepL r ds row) (ev_var s2 rf)) fun w H4 g4 r4 => k _ w H4 (fun r2 ds2 ok2 e2 => ?_) (g3.trans g4) r4
    have e3 : besM r ds = besM r2 ds2 := besL_inj (eb.symm.trans e2)
    unfold sweepL openL
    rw [e3]

end
end Cl
namespace Cl
open PySem L2 Zw RZ
section
variable {P : Program} {w : World} {K : PySem.W.Frag} {mg : Str → Option Value} {base : Heap}
def KOk (r : Int) (kv : KVs) : Prop := (keysD kv).Nodup ∧ ∀ k ∈ keysD kv, ∃ x y, k = [x, y] ∧ 0 ≤ x ∧ x < y ∧ y < r
def allP : List (List Int) := (rngI 0 9).flatMap fun y => ((rngI 0 9).filter fun x => decide (x < y)).map fun x => [x, y]
theorem allP_len : allP.length = 36 := by decide +kernel
theorem allP_nd : allP.Nodup := by decide +kernel
theorem kok_len {r : Int} {kv : KVs} (h : KOk r kv) (h9 : r ≤ 9) : (keysD kv).length ≤ 36 := by
  have p : (keysD kv).Perm (allP.filter fun x => decide (x ∈ keysD kv)) := (List.perm_ext_iff_of_nodup h.1 (List.Nodup.sublist List.filter_sublist allP_nd)).mpr fun a => by
    rw [List.mem_filter]
    constructor
    · intro m
      obtain ⟨x, y, rfl, hx, hxy, hy⟩ := h.2 a m
      refine ⟨?_, by simpa using m⟩
      unfold allP
      refine List.mem_flatMap.mpr ⟨y, mem_rngI.mpr (by omega), List.mem_map.mpr ⟨x, List.mem_filter.mpr ⟨mem_rngI.mpr (by omega), by simpa using hxy⟩, rfl⟩⟩
    · intro m; simpa using m.2
  rw [p.length_eq]
  have := List.length_filter_le (fun x => decide (x ∈ keysD kv)) allP
  rw [allP_len] at this
  exact this
theorem kok_put {r : Int} {kv : KVs} {k : List Int} (h : KOk r kv) (hk : ∃ x y, k = [x, y] ∧ 0 ≤ x ∧ x < y ∧ y < r) : KOk r (putD kv k true) :=
  ⟨nodup_putD h.1, fun k' m => by
    rcases mem_putD.mp m with e | m
    · subst e; exact hk
    · exact h.2 k' m⟩
def mkD (ord : List Int) : List Int → Int × Int
  | [a, b] => (min (ord.getD a.toNat 0) (ord.getD b.toNat 0), max (ord.getD a.toNat 0) (ord.getD b.toNat 0))
  | _ => (0, 0)
theorem mu_put {H : Hp} {p : Addr} {od : Obj} {kvs : List (List Key × V)} (h : H p = some (.dT kvs)) : Mu p H (upd H p (.frz od (.dT kvs))) := ⟨H, _, _, Gr.refl _, h, (fun _ z => nomatch z), (by intro _ _ _ _ _ z; cases z), rfl⟩
theorem house_doors {r : Int} {kv : KVs} {ord : List Int} (h : KOk r kv) (po : ord.Perm (rngI 0 r.toNat)) (h9 : 0 ≤ r ∧ r ≤ 9) : DoorsOk r (sortO ((keysD kv).map (mkD ord))) := by
  have ol : ord.length = r.toNat := by rw [po.length_eq, rngI_length]
  have ond : ord.Nodup := po.nodup_iff.mpr (rngI_nodup _ _)
  have get : ∀ i : Int, 0 ≤ i → i < r → 0 ≤ ord.getD i.toNat 0 ∧ ord.getD i.toNat 0 < r := fun i h0 h1 => by
    have hi : i.toNat < ord.length := by omega
    rw [List.getD_eq_getElem?_getD, List.getElem?_eq_getElem hi]
    have := mem_rngI.mp (po.mem_iff.mp (List.getElem_mem hi))
    show 0 ≤ ord[i.toNat] ∧ _
    exact ⟨this.1, by have := this.2; show ord[i.toNat] < r; omega⟩
  have inj : ∀ i j : Int, 0 ≤ i → i < r → 0 ≤ j → j < r → ord.getD i.toNat 0 = ord.getD j.toNat 0 → i = j := fun i j h0 h1 h2 h3 e => by
    have hi : i.toNat < ord.length := by omega
    have hj : j.toNat < ord.length := by omega
    rw [List.getD_eq_getElem?_getD, List.getD_eq_getElem?_getD, List.getElem?_eq_getElem hi, List.getElem?_eq_getElem hj] at e
    have hh : ord[i.toNat]? = ord[j.toNat]? := by
      rw [List.getElem?_eq_getElem hi, List.getElem?_eq_getElem hj]
      exact congrArg some e
    have := (List.getElem?_inj hi ond).mp hh
    omega
  have key : ∀ k ∈ keysD kv, DoorOk r (mkD ord k) := fun k m => by
    obtain ⟨x, y, rfl, hx, hxy, hy⟩ := h.2 k m
    have gx := get x hx (by omega)
    have gy := get y (by omega) hy
    have ne : ord.getD x.toNat 0 ≠ ord.getD y.toNat 0 := fun e => by have := inj x y hx (by omega) (by omega) hy e; omega
    unfold mkD DoorOk
    simp only []
    omega
  have nd : ((keysD kv).map (mkD ord)).Nodup := by
    refine List.pairwise_map.mpr (List.Pairwise.imp_of_mem (fun {k k'} m m' hne e => ?_) h.1)
    obtain ⟨x, y, rfl, hx, hxy, hy⟩ := h.2 k m
    obtain ⟨x', y', rfl, hx', hxy', hy'⟩ := h.2 k' m'
    unfold mkD at e
    injection e with e1 e2
    have c : (ord.getD x.toNat 0 = ord.getD x'.toNat 0 ∧ ord.getD y.toNat 0 = ord.getD y'.toNat 0) ∨ (ord.getD x.toNat 0 = ord.getD y'.toNat 0 ∧ ord.getD y.toNat 0 = ord.getD x'.toNat 0) := by omega
    rcases c with ⟨c1, c2⟩ | ⟨c1, c2⟩
    · have a1 := inj x x' hx (by omega) hx' (by omega) c1
      have a2 := inj y y' (by omega) hy (by omega) hy' c2
      exact hne (by rw [a1, a2])
    · have a1 := inj x y' hx (by omega) (by omega) hy' c1
      have a2 := inj y x' (by omega) hy hx' (by omega) c2
      omega
  refine ⟨fun d hd => ?_, sortO_strict nd, ?_⟩
  · obtain ⟨k, m, rfl⟩ := List.mem_map.mp (mem_sortO.mp hd)
    exact key k m
  · rw [sortO_len, List.length_map]
    exact kok_len h h9.2
theorem ok_law_house (T : Ctx K mg) : FnOk P w K mg base CX0 3 T.a_law_house T.fd_law_house ["hand", "most"] (Sp2 (fun (_ : Hand) (most : Int) => 1 ≤ most ∧ most ≤ 9) (fun _ most (d : Int × List (Int × Int)) => 1 ≤ d.1 ∧ d.1 ≤ most ∧ DoorsOk d.1 d.2)) := by
  have G_law_any := ok_law_any (P := P) (w := w) (base := base) T
  have G_law_draw := ok_law_draw (P := P) (w := w) (base := base) T
  have G_law_mixed := ok_law_mixed (P := P) (w := w) (base := base) T
  refine T.F_law_house.ok sc_law_house (fun vs H Q E h => h.len) (fun cdv A outer s H vs Q E hr h => ?_)
  obtain ⟨v, v', hd, most, rfl, ra, rb, ⟨m1, m2⟩, k⟩ := h
  have dr : ∀ {te te2 : TE} {σ : L2.St} {H1 : Hp} {n : Int}, Ev te σ H1 hd → Ev te2 σ H1 n → 1 ≤ n → n < 1073741824 → Ed (tCall (Sp2 (fun (_ : Hand) (many : Int) => 1 ≤ many ∧ many < 1073741824) (fun _ many (d : Int) => 0 ≤ d ∧ d < many)) [] E0 (tCons te (tCons te2 tNil))) σ H1 (fun (d : Int) => 0 ≤ d ∧ d < n) := fun h1 h2 b1 b2 =>
    ed_call2 h1 h2 (fun _ b _ eb => by rw [eb]; exact ⟨b1, b2⟩) (fun _ b d _ eb p => by rw [eb] at p; exact p)
  refine ⟨_, (pss_cons (ps_set (i := 2) sc_law_house.nd rfl (Or.inl rfl) (pe_op op_add pe_int (pe_call (G_law_draw) (hr.mono (by first | decide | omega)) (by rfl) T.m_law_draw T.F_law_draw.kp T.b_law_draw .nil pass0 (pa_cons (pv 0) (pa_cons (pv 1) pa_nil)))))
      (pss_cons (ps_par (i := 3) (j := 4) rfl sc_law_house.nd rfl rfl (by decide) rfl rfl (pa_cons (pe_call (G_law_any) (hr.mono (by first | decide | omega)) (by rfl) T.m_law_any T.F_law_any.kp T.b_law_any .nil pass0 (pa_cons (pv 0) (pa_cons (pe_lst (pa_cons pe_int (pa_cons pe_int (pa_cons pe_int (pa_cons pe_int pa_nil))))) pa_nil))) (pa_cons pe_dnewT pa_nil)) (by rfl))
      (pss_cons (ps_for PassesOwn.never rfl (pi_range2 (by rfl) T.n_range (pa_cons pe_int (pa_cons (pv 2) pa_nil))) (pg_name (i := 5) sc_law_house.nd rfl (Or.inl rfl) (Or.inr rfl))
      (pss_one (ps_if (pt_cmpR op_gt (pe_call (G_law_draw) (hr.mono (by first | decide | omega)) (by rfl) T.m_law_draw T.F_law_draw.kp T.b_law_draw .nil pass0 (pa_cons (pv 0) (pa_cons pe_int pa_nil))) pe_int (nomark _)) (pss_one (ps_dput (hu_of hr) (pv 4) (pe_tup (pa_cons (pe_call (G_law_draw) (hr.mono (by first | decide | omega)) (by rfl) T.m_law_draw T.F_law_draw.kp T.b_law_draw .nil pass0 (pa_cons (pv 0) (pa_cons (pv 5) pa_nil))) (pa_cons (pv 5) pa_nil))) pe_bl rfl)) pss_nil)))
      (pss_cons (ps_for PassesOwn.never rfl (pi_range1 (by rfl) T.n_range (pa_cons (pe_call (G_law_draw) (hr.mono (by first | decide | omega)) (by rfl) T.m_law_draw T.F_law_draw.kp T.b_law_draw .nil pass0 (pa_cons (pv 0) (pa_cons (pe_op op_add pe_int (pe_op op_fdivN (pe_op op_mul (pv 3) (pv 2)) pe_int)) pa_nil))) pa_nil)) (pg_name (i := 6) sc_law_house.nd rfl (Or.inl rfl) (Or.inr rfl))
      (pss_cons (ps_par (i := 7) (j := 8) rfl sc_law_house.nd rfl rfl (by decide) rfl rfl (pa_cons (pe_call (G_law_draw) (hr.mono (by first | decide | omega)) (by rfl) T.m_law_draw T.F_law_draw.kp T.b_law_draw .nil pass0 (pa_cons (pv 0) (pa_cons (pv 2) pa_nil))) (pa_cons (pe_call (G_law_draw) (hr.mono (by first | decide | omega)) (by rfl) T.m_law_draw T.F_law_draw.kp T.b_law_draw .nil pass0 (pa_cons (pv 0) (pa_cons (pv 2) pa_nil))) pa_nil)) (by rfl))
      (pss_one (ps_if (pt_cmpR op_ne (pv 7) (pv 8) (nomark _)) (pss_one (ps_dput (hu_of hr) (pv 4) (pe_tup (pa_cons (pe_callB (call_min2 rfl) (by rfl) T.n_min (by decide +kernel) (pa_cons (pv 7) (pa_cons (pv 8) pa_nil))) (pa_cons (pe_callB (call_max2 rfl) (by rfl) T.n_max (by decide +kernel) (pa_cons (pv 7) (pa_cons (pv 8) pa_nil))) pa_nil))) pe_bl rfl)) pss_nil))))
      (pss_cons (ps_par (i := 9) (j := 10) rfl sc_law_house.nd rfl rfl (by decide) rfl rfl (pa_cons (pe_call (G_law_mixed) (hr.mono (by first | decide | omega)) (by rfl) T.m_law_mixed T.F_law_mixed.kp T.b_law_mixed .nil pass0 (pa_cons (pv 0) (pa_cons (pv 2) pa_nil))) (pa_cons (pe_lst pa_nil) pa_nil)) (by rfl))
      (pss_cons (ps_lock (ps_for PassesOwn.never rfl (pi_keys (pv 4)) (k_pg_tup (K := K) (n := 2) rfl rfl (pgs_cons (pg_name (i := 7) sc_law_house.nd rfl (Or.inl rfl) (Or.inr rfl)) (pgs_cons (pg_name (i := 8) sc_law_house.nd rfl (Or.inl rfl) (Or.inr rfl)) pgs_nil)) rfl)
      (pss_one (ps_expr (k_bm (K := K) rfl PySem.F.plainAttrs_list PySem.F.slot_list_append PySem.F.type_list_append mt_append (pv 10) (pa_cons (pe_tup (pa_cons (pe_callB (call_min2 rfl) (by rfl) T.n_min (by decide +kernel) (pa_cons (pe_ix (k_ix_list (K := K) rfl) (pv 9) (pv 7) (fun _ _ => rfl)) (pa_cons (pe_ix (k_ix_list (K := K) rfl) (pv 9) (pv 8) (fun _ _ => rfl)) pa_nil))) (pa_cons (pe_callB (call_max2 rfl) (by rfl) T.n_max (by decide +kernel) (pa_cons (pe_ix (k_ix_list (K := K) rfl) (pv 9) (pv 7) (fun _ _ => rfl)) (pa_cons (pe_ix (k_ix_list (K := K) rfl) (pv 9) (pv 8) (fun _ _ => rfl)) pa_nil))) pa_nil))) pa_nil))))))
      (pss_one (ps_ret (pe_tup (pa_cons (pv 2) (pa_cons (pe_callTy (k_tuple_of (K := K) rfl) (by rfl) T.n_tuple (by decide +kernel) (pa_cons (pe_callB (cr_sortedG rfl hr.units) (by rfl) T.n_sorted (by decide +kernel) (pa_cons (pv 10) pa_nil)) pa_nil)) pa_nil))))))))))), ?_⟩
  refine q_asg (P := fun (r : Int) => 1 ≤ r ∧ r ≤ most) (ed_add ev_int (dr (ev_var rfl ra) (ev_var rfl rb) m1 (by omega)) (fun i j ei pj => by rw [ei]; omega)) fun rooms v2 H1 pr g1 r2 => ?_
  refine q_parEF (P := fun (t : Int) => t = 0 ∨ t = 1 ∨ t = 3 ∨ t = 6) (ed_call2 (Pb := (· = Ls.mk [(0 : Int), 1, 3, 6])) (ev_var rfl (Py.mono g1 ra)) (ev_lst (eal_cons ev_int (eal_cons ev_int (eal_cons ev_int (eal_cons ev_int eal_nil)))) (by decide)) (fun _ b _ eb => by rw [eb]; exact ⟨by decide, by decide⟩) (fun _ b d _ eb p => by rw [eb] at p; simpa using p)) (edF_newDT (β := Bool)) fun thick v3 d0 p H2 pt ed g2 r3 hp r4 => ?_
  subst ed
  have hp0 := g1.back hp
  have g12 := g1.trans g2
  refine q_foldT (fun (_ : Unit) (_ : Int) => ()) () (fun _ σ' H' => ∃ kv : KVs, Gr H H' ∧ Py.rep (DT.mk kv) (.ref p) H' ∧ KOk rooms kv ∧ σ'[0]? = some (some v) ∧ σ'[2]? = some (some v2) ∧ σ'[3]? = some (some v3) ∧ σ'[4]? = some (some (.ref p)) ∧ σ'.length = 11)
    (src_rng2 ev_int (ev_var rfl (Py.mono g2 r2)) (by omega)) (fun H3 g3 => ⟨[], g12.trans g3, Py.mono g3 r4, ⟨by unfold keysD; exact List.nodup_nil, fun k m => by unfold keysD at m; simp at m⟩, rfl, rfl, rfl, rfl, rfl⟩) (fun _ σ' H3 H4 g ⟨kv, a1, a2, a3⟩ => ⟨kv, a1.trans g, Py.mono g a2, a3⟩) ?_ ?_
  · rintro Hb i b x _ σ' H3 gb tb hdx _ ⟨kv, g3, rk, kok, s0, s2, s3, s4, sl⟩ rx
    have hb := mem_rngI.mp (List.mem_of_getElem? hdx)
    have t0 := sne (i := 5) (v := some x) (by decide) s0
    have t4 := sne (i := 5) (v := some x) (by decide) s4
    have t5 : (σ'.set 5 (some x))[5]? = some (some x) := seq (by omega)
    refine s_ifP (P := fun _ => True) (edt_test (ed_gt (dr (ev_var t0 (Py.mono g3 ra)) ev_int (by decide) (by decide)) ev_int (fun _ _ _ _ => trivial))) (fun _ H4 g4 => ?_) (fun _ H4 g4 => ⟨tb.trans g4.tup, kv, g3.trans g4, Py.mono g4 rk, kok, t0, sne (by decide) s2, sne (by decide) s3, t4, by simp [sl]⟩)
    refine s_putDT (Pv := (· = true)) (Py.mono g4 rk) t4 (ed_tup2 (Pb := (· = b)) (dr (ev_var t0 (Py.mono (g3.trans g4) ra)) (ev_var t5 (Py.mono g4 rx)) (by omega) (by omega)) (ev_var t5 (Py.mono g4 rx))) ev_bl (by have := kok_len kok (by omega); unfold keysD at this; rw [List.length_map] at this; omega) fun kk bb H5 ek eb mu r5 => ?_
    obtain ⟨a, b', rfl, ha, rfl⟩ := ek
    subst eb
    exact ⟨(tb.trans g4.tup).trans mu.tup, _, mu.gr (g3.trans g4) hp0, r5, kok_put kok ⟨a, b', rfl, ha.1, ha.2, by omega⟩, t0, sne (by decide) s2, sne (by decide) s3, t4, by simp [sl]⟩
  rintro σ1 H3 tk3 ⟨kv, g3, rk, kok, s0, s2, s3, s4, sl⟩
  have r2' := PyI.keep (d := rooms) (g2.tup.trans tk3) r2
  have r3' := PyI.keep (d := thick) tk3 r3
  have hth : 0 ≤ (thick * rooms).fdiv 2 ∧ (thick * rooms).fdiv 2 < 1000 := by
    have : 0 ≤ thick * rooms ∧ thick * rooms ≤ 54 := by rcases pt with rfl | rfl | rfl | rfl <;> omega
    rw [Int.fdiv_eq_ediv_of_nonneg _ (by decide)]
    omega
  refine q_forRng (P := fun n => 0 ≤ n ∧ n ≤ 1000) ((dr (ev_var s0 (Py.mono g3 ra)) (ev_add ev_int (ev_fdiv (ev_mul (ev_var s3 r3') (ev_var s2 r2') (.inl (by rcases pt with rfl | rfl | rfl | rfl <;> decide))) ev_int ⟨by decide, by decide⟩)) (by omega) (by omega)).imp fun n pn => by omega) fun n H4 pn g4 => ?_
  refine q_foldT (fun (_ : Unit) (_ : Int) => ()) () (fun _ σ' H' => ∃ kv : KVs, Gr H H' ∧ Py.rep (DT.mk kv) (.ref p) H' ∧ KOk rooms kv ∧ σ'[0]? = some (some v) ∧ σ'[2]? = some (some v2) ∧ σ'[4]? = some (some (.ref p)) ∧ σ'.length = 11)
    (src_rng1 ev_int (by omega)) (fun H5 g5 => ⟨kv, (g3.trans g4).trans g5, Py.mono (g4.trans g5) rk, kok, s0, s2, s4, sl⟩) (fun _ σ' H3 H4 g ⟨kv, a1, a2, a3⟩ => ⟨kv, a1.trans g, Py.mono g a2, a3⟩) ?_ ?_
  · rintro Hb i b x _ σ' H5 gb tb hdx _ ⟨kv, g5, rk, kok, s0, s2, s4, sl⟩ rx
    have t0 := sne (i := 6) (v := some x) (by decide) s0
    have t2 := sne (i := 6) (v := some x) (by decide) s2
    have t4 := sne (i := 6) (v := some x) (by decide) s4
    have tl : (σ'.set 6 (some x)).length = 11 := by simp [sl]
    have r2b : Py.rep rooms v2 H5 := by
      have e : v2 = .int rooms := r2'
      rw [e]; rfl
    show tSeq _ _ _ (σ'.set 6 (some x)) _
    generalize σ'.set 6 (some x) = σ4 at t0 t2 t4 tl ⊢
    refine q_par (P := fun a => 0 ≤ a ∧ a < rooms) (P' := fun a => 0 ≤ a ∧ a < rooms) (dr (ev_var t0 (Py.mono g5 ra)) (ev_var t2 r2b) (by omega) (by omega)) (dr (ev_var t0 (Py.mono g5 ra)) (ev_var t2 r2b) (by omega) (by omega)) fun a b' y z H6 pa pb g6 ry rz => ?_
    have u4 : ((σ4.set 7 (some y)).set 8 (some z))[4]? = some (some (.ref p)) := sne (by decide) (sne (by decide) t4)
    have u7 : ((σ4.set 7 (some y)).set 8 (some z))[7]? = some (some y) := sne (by decide) (seq (by omega))
    have u8 : ((σ4.set 7 (some y)).set 8 (some z))[8]? = some (some z) := seq (by rw [List.length_set]; omega)
    have u0 : ((σ4.set 7 (some y)).set 8 (some z))[0]? = some (some v) := sne (by decide) (sne (by decide) t0)
    have u2 : ((σ4.set 7 (some y)).set 8 (some z))[2]? = some (some v2) := sne (by decide) (sne (by decide) t2)
    have ul : ((σ4.set 7 (some y)).set 8 (some z)).length = 11 := by simp [tl]
    refine s_when (b := !decide (a = b')) (et_test (ev_neI (ev_var u7 ry) (ev_var u8 rz))) (fun hne H7 g7 => ?_) (fun _ H7 g7 => ⟨tb.trans (g6.trans g7).tup, kv, (g5.trans g6).trans g7, Py.mono (g6.trans g7) rk, kok, u0, u2, u4, ul⟩)
    have hab : a ≠ b' := by simpa using hne
    refine s_putDT (Pv := (· = true)) (Py.mono (g6.trans g7) rk) u4 (ed_tup2 (Pa := (· = min a b')) (Pb := (· = max a b')) (ev_min2 (ev_var u7 (Py.mono g7 ry)) (ev_var u8 (Py.mono g7 rz))) (ev_max2 (ev_var u7 (Py.mono g7 ry)) (ev_var u8 (Py.mono g7 rz)))) ev_bl (by have := kok_len kok (by omega); unfold keysD at this; rw [List.length_map] at this; omega) fun kk bb H8 ek eb mu r5 => ?_
    obtain ⟨c, d, rfl, rfl, rfl⟩ := ek
    subst eb
    exact ⟨(tb.trans (g6.trans g7).tup).trans mu.tup, _, mu.gr ((g5.trans g6).trans g7) hp0, r5, kok_put kok ⟨_, _, rfl, by omega, by omega, by omega⟩, u0, u2, u4, ul⟩
  rintro σ2 H5 tk5 ⟨kv, g5, rk, kok, s0, s2, s4, sl⟩
  have r2b : Py.rep rooms v2 H5 := by
    have e : v2 = .int rooms := r2'
    rw [e]; rfl
  refine q_parEN (P := fun (o : Ls Int) => o.l.Perm (rngI 0 rooms.toNat)) (ed_call2 (ev_var s0 (Py.mono g5 ra)) (ev_var s2 r2b) (fun _ b _ eb => by rw [eb]; omega) (fun _ b d _ eb p => by rw [eb] at p; exact p)) (edF_newL (α := Int × Int)) fun ord v9 f0 q H5' H6 po ef g5' r9' hq g6' r10 => ?_
  subst ef
  obtain ⟨ord⟩ := ord
  simp only at po
  have g6 := g5'.trans g6'
  obtain ⟨o, eo, ho⟩ := ls_addr r9'
  subst eo
  have hoq : o ≠ q := fun z => ho (by rw [z]; exact hq)
  have r9 := Py.mono g6' r9'
  have rk6 := Py.mono g6 rk
  have hq0 := g5.back (g5'.back hq)
  obtain ⟨kvs0, hH6p⟩ : ∃ kvs, H6 p = some (.dT kvs) := by obtain ⟨_, kvs, e, h', _⟩ := rk6; cases e; exact ⟨kvs, h'⟩
  have hop : o ≠ p := fun z => by obtain ⟨_, _, e, h', _⟩ := r9; cases e; rw [z, hH6p] at h'; cases h'
  have hqp : q ≠ p := fun z => by obtain ⟨_, _, e, h', _⟩ := r10; cases e; rw [z, hH6p] at h'; cases h'
  have ol : ord.length = rooms.toNat := by rw [po.length_eq, rngI_length]
  have w2 : ((σ2.set 9 (some (.ref o))).set 10 (some (.ref q)))[2]? = some (some v2) := sne (by decide) (sne (by decide) s2)
  have w4 : ((σ2.set 9 (some (.ref o))).set 10 (some (.ref q)))[4]? = some (some (.ref p)) := sne (by decide) (sne (by decide) s4)
  have w9 : ((σ2.set 9 (some (.ref o))).set 10 (some (.ref q)))[9]? = some (some (.ref o)) := sne (by decide) (seq (by omega))
  have w10 : ((σ2.set 9 (some (.ref o))).set 10 (some (.ref q)))[10]? = some (some (.ref q)) := seq (by rw [List.length_set]; omega)
  have wl : ((σ2.set 9 (some (.ref o))).set 10 (some (.ref q))).length = 11 := by simp [sl]
  have g06 := g5.trans g6
  refine q_foldD (fun (acc : List (Int × Int)) k => acc ++ [mkD ord k]) [] (fun acc σ'' H'' => Gr H H'' ∧ Py.rep (Ls.mk acc) (.ref q) H'' ∧ Py.rep (Ls.mk ord) (.ref o) H'' ∧ σ''[2]? = some (some v2) ∧ σ''[9]? = some (some (.ref o)) ∧ σ''[10]? = some (some (.ref q)) ∧ σ''.length = 11) rk6 w4
    (fun od kvs h' => ⟨g06.mut hp0 h' (fun _ z => nomatch z), (mu_put h').ls hqp r10, (mu_put h').ls hop r9, w2, w9, w10, wl⟩) ?_ ?_
  · rintro od kvs j s y acc σ'' H7 hq4 hfz tk7 hds eacc ⟨g7, racc, ro, t2, t9, t10, tl⟩ ry
    obtain ⟨a, b, rfl, ha, hab, hbr⟩ := kok.2 s (List.mem_of_getElem? hds)
    have hjl := (List.getElem?_eq_some_iff.mp hds).1
    have hkl := kok_len kok (by omega)
    have hal : acc.length ≤ j := by
      rw [eacc, foldl_snoc]; simp; omega
    refine gTup2 (list2_pair ry) fun y z r7 r8 => ?_
    have u2 : ((σ''.set 7 (some y)).set 8 (some z))[2]? = some (some v2) := sne (by decide) (sne (by decide) t2)
    have u9 : ((σ''.set 7 (some y)).set 8 (some z))[9]? = some (some (.ref o)) := sne (by decide) (sne (by decide) t9)
    have u10 : ((σ''.set 7 (some y)).set 8 (some z))[10]? = some (some (.ref q)) := sne (by decide) (sne (by decide) t10)
    have u7 : ((σ''.set 7 (some y)).set 8 (some z))[7]? = some (some y) := sne (by decide) (seq (by omega))
    have u8 : ((σ''.set 7 (some y)).set 8 (some z))[8]? = some (some z) := seq (by rw [List.length_set]; omega)
    obtain ⟨oa, hoa, hoa'⟩ := atI_nat (l := ord) ha (by omega)
    obtain ⟨ob, hob, hob'⟩ := atI_nat (l := ord) (i := b) (by omega) (by omega)
    have ea : ord.getD a.toNat 0 = oa := by rw [List.getD_eq_getElem?_getD, hoa']; rfl
    have eb : ord.getD b.toNat 0 = ob := by rw [List.getD_eq_getElem?_getD, hob']; rfl
    refine s_app (P := fun d => d = mkD ord [a, b]) racc u10 (ev_is (ev_pair (ev_min2 (ev_ixL (ds := ord) (ev_var u9 ro) (ev_var (d := a) u7 r7) hoa) (ev_ixL (ds := ord) (ev_var u9 ro) (ev_var (d := b) u8 r8) hob)) (ev_max2 (ev_ixL (ds := ord) (ev_var u9 ro) (ev_var (d := a) u7 r7) hoa) (ev_ixL (ds := ord) (ev_var u9 ro) (ev_var (d := b) u8 r8) hob))) (by show (min oa ob, max oa ob) = (min (ord.getD a.toNat 0) (ord.getD b.toNat 0), max (ord.getD a.toNat 0) (ord.getD b.toNat 0)); rw [ea, eb])) (by omega) fun d H8 ed mu r11 => ?_
    subst ed
    exact ⟨mu.at hfz (fun z => nomatch z) (Ne.symm hqp), tk7.trans mu.tup, mu.gr g7 hq0, r11, mu.ls hoq ro, u2, u9, u10, by simp [tl]⟩
  · rintro od kvs σ'' H7 hq4 hfz tk7 ⟨g7, racc, ro, t2, t9, t10, tl⟩
    rw [foldl_snoc, List.nil_append] at racc
    have mu := mu_frz (o := .dT kvs) hfz
    have gg := mu.gr g7 hp0
    refine s_retE (ev_pair (ev_var (d := rooms) t2 (by have e : v2 = .int rooms := r2'; rw [e]; rfl)) (ev_tupL (ev_sortedL (ds := (keysD kv).map (mkD ord)) (ev_var t10 (mu.ls hqp racc)) (fun _ _ => by show PyO.dep Int ≤ 60; decide)))) fun w H8 g8 r12 => k _ w H8 ⟨pr.1, pr.2, house_doors kok po (by omega)⟩ (gg.trans g8) r12

end
end Cl
namespace Cl
open PySem L2 Zw RZ
section
variable {P : Program} {w : World} {K : PySem.W.Frag} {mg : Str → Option Value} {base : Heap}
theorem ed_make {C : Addr} {σ : L2.St} {H : Hp} {ta tb : TE} {E : XK} {r : Int} {ds : List (Int × Int)} (hn : Neat H) (h1 : Ev ta σ H r) (h2 : Ev tb σ H ds) (ok : 1 ≤ r ∧ r ≤ 9 ∧ DoorsOk r ds) :
    Ev (tMake C (spInit C) [] E (tCons ta (tCons tb tNil))) σ H (Hs.mk (C := C) r ds) := fun H1 g Q q => ea_2 h1 h2 H1 g _ fun vs H2 g2 ⟨v, w, d, d', ev, pd, pd', r1, r2⟩ x dx hx hd ne => by
  subst ev pd pd'
  have gm := gr_make (C := C) hx hd ne
  refine ⟨H2, x, dx, v, w, d, d', rfl, hx, hd, (g.trans g2).neat hn, gm, upd_same, Py.mono gm r1, Py.mono gm r2, ok.1, ok.2.1, ok.2.2, fun H' g' r' => ⟨rfl, q _ _ H' rfl (g2.trans g') r'⟩⟩
theorem nearsM_at {r : Int} {ds : List (Int × Int)} {x : Int} (hx : 0 ≤ x ∧ x < r) : (nearsM r ds).getD x.toNat [] = sortO ((besM r ds).getD x.toNat [] ++ [x]) := by
  have hl : (besM r ds).length = r.toNat := by unfold besM; simp
  obtain ⟨row, hrow⟩ : ∃ row, (besM r ds)[x.toNat]? = some row := ⟨_, List.getElem?_eq_getElem (by omega)⟩
  have hm : (nearsM r ds)[x.toNat]? = some (sortO (row ++ [x])) := by
    unfold nearsM
    rw [List.getElem?_map, numL_at hrow]
    show some (sortO (row ++ [((x.toNat : Nat) : Int)])) = _
    rw [Int.toNat_of_nonneg hx.1]
  rw [List.getD_eq_getElem?_getD, List.getD_eq_getElem?_getD, hm, hrow]; rfl
theorem mem_openM {r : Int} {ds : List (Int × Int)} (ok : HOk' r ds) {l : List Int} {x : Int} (hx : 0 ≤ x ∧ x < r) : x ∈ openM r ds l ↔ x ∈ l ∧ ∃ z, Near r ds x z ∧ z ∉ l := by
  unfold openM
  rw [List.mem_filter]
  have h : (!(((nearsM r ds).getD x.toNat []).map (fun z => decide (z ∈ l))).all id) = true ↔ ∃ z, Near r ds x z ∧ z ∉ l := by
    rw [Bool.not_eq_true', ← Bool.not_eq_true, List.all_eq_true]
    constructor
    · intro h
      apply Classical.byContradiction
      intro hc
      refine h fun b hb => ?_
      obtain ⟨z, hz, rfl⟩ := List.mem_map.mp hb
      refine decide_eq_true (Classical.byContradiction fun hzl => hc ⟨z, (near_nearsM ok hx.1 hx.2).mp hz, hzl⟩)
    · rintro ⟨z, hz, hzl⟩ h
      have := h _ (List.mem_map.mpr ⟨z, (near_nearsM ok hx.1 hx.2).mpr hz, rfl⟩)
      exact hzl (of_decide_eq_true this)
  rw [h]
theorem open_eq {r : Int} {ds : List (Int × Int)} {lot : List Int} (hin : ∀ x ∈ lot, 0 ≤ x ∧ x < r) : openM r ds (sortO lot) = openL r ds lot := by
  unfold openM openL
  refine List.filter_congr fun x hx => ?_
  have hxl := mem_sortO.mp hx
  rw [nearsM_at (hin x hxl), Bool.eq_iff_iff, Bool.not_eq_true', ← Bool.not_eq_true, List.all_eq_true, List.any_eq_true]
  constructor
  · intro h
    apply Classical.byContradiction
    intro hc
    refine h fun b hb => ?_
    obtain ⟨z, hz, rfl⟩ := List.mem_map.mp hb
    rcases List.mem_append.mp (mem_sortO.mp hz) with m | m
    · refine decide_eq_true (Classical.byContradiction fun hzl => hc ⟨_, List.mem_map.mpr ⟨z, m, rfl⟩, decide_eq_true fun m' => hzl (mem_sortO.mpr m')⟩)
    · rw [List.mem_singleton.mp m]; exact decide_eq_true hx
  · rintro ⟨b, hb, e⟩ h
    obtain ⟨z, hz, rfl⟩ := List.mem_map.mp hb
    have hzl : z ∉ lot := of_decide_eq_true e
    have := h _ (List.mem_map.mpr ⟨z, mem_sortO.mpr (List.mem_append_left _ hz), rfl⟩)
    exact hzl (mem_sortO.mp (of_decide_eq_true this))
theorem sweep_eq {r : Int} {ds : List (Int × Int)} {row : List Int} (hin : ∀ x ∈ row, 0 ≤ x ∧ x < r) : sweepM r ds row = sweepL r ds row := by
  unfold sweepM sweepL
  refine List.map_congr_left fun d _ => ?_
  rw [open_eq fun x m => hin x (List.mem_of_mem_take m)]
theorem open_all {r : Int} {ds : List (Int × Int)} (ok : HOk' r ds) : openM r ds (rngI 0 r.toNat) = [] := by
  refine List.eq_nil_iff_forall_not_mem.mpr fun x m => ?_
  have hx : 0 ≤ x ∧ x < r := by
    unfold openM at m
    have := mem_rngI.mp (List.mem_filter.mp m).1
    omega
  obtain ⟨_, z, hz, hzl⟩ := (mem_openM ok hx).mp m
  exact hzl (mem_rngI.mpr (by have := hz.2.1; omega))
theorem sweepM_at {r : Int} {ds : List (Int × Int)} {row : List Int} {i : Nat} {x : Int} (h : row[i]? = some x) : (sweepM r ds row)[i]? = some (sortO (openM r ds (sortO (row.take i)) ++ [x])) := by
  unfold sweepM
  rw [List.getElem?_map, numL_at h]; rfl
theorem mem_sweep {r : Int} {ds : List (Int × Int)} {row l : List Int} {i : Nat} {x : Int} (h : row[i]? = some x) (hl : (sweepM r ds row)[i]? = some l) {z : Int} : z ∈ l ↔ z ∈ openM r ds (sortO (row.take i)) ∨ z = x := by
  rw [sweepM_at h] at hl
  cases hl
  rw [mem_sortO, List.mem_append, List.mem_singleton]
/-- the rooms behind are never reached -/
theorem sweep_step {r : Int} {ds : List (Int × Int)} (ok : HOk' r ds) {row : List Int} (hin : ∀ x ∈ row, 0 ≤ x ∧ x < r) {i : Nat} {one other a ks : List Int} {x y : Int} (hx : row[i]? = some x) (hy : row[i + 1]? = some y) (h1 : (sweepM r ds row)[i]? = some one) (h2 : (sweepM r ds row)[i + 1]? = some other)
    (ha : ∀ z ∈ a, z ∉ row.take (i + 1)) (hs : SprOk r ds a (one.filter fun x => decide (x ∈ other)) ks) : ∀ z ∈ ks, z ∉ other → z ∉ row.take (i + 2) := by
  have htk : row.take (i + 1) = row.take i ++ [x] := by rw [List.take_add_one, hx]; rfl
  have htk2 : row.take (i + 2) = row.take (i + 1) ++ [y] := by rw [List.take_add_one, hy]; rfl
  have hS := hs.2.2 (fun z => z ∉ row.take (i + 1)) (fun f m _ => ha f m) fun u hu z hz hzb hzt => by
    have hz0 := hin z (List.mem_of_mem_take hzt)
    have nzu : Near r ds z u := hz.symm
    have m2 : z ∈ other := (mem_sweep hy h2).mpr (.inl ((mem_openM ok hz0).mpr ⟨mem_sortO.mpr hzt, u, nzu, fun m => hu (mem_sortO.mp m)⟩))
    have m1 : z ∈ one := (mem_sweep hx h1).mpr (by
      rw [htk] at hzt hu
      rcases List.mem_append.mp hzt with m | m
      · exact .inl ((mem_openM ok hz0).mpr ⟨mem_sortO.mpr m, u, nzu, fun m' => hu (List.mem_append_left _ (mem_sortO.mp m'))⟩)
      · exact .inr (List.mem_singleton.mp m))
    exact hzb (List.mem_filter.mpr ⟨m1, decide_eq_true m2⟩)
  intro z hz hzo hzt
  rw [htk2] at hzt
  rcases List.mem_append.mp hzt with m | m
  · exact hS z hz m
  · exact hzo ((mem_sweep hy h2).mpr (.inr (List.mem_singleton.mp m)))
theorem known_open : openM 3 [(0, 1), (1, 2)] [0, 1] = [1] := by
  unfold openM nearsM besM
  simp only [← isortI_eq, sortO_ins]
  decide +kernel
theorem known_sweep : sweepM 3 [(0, 1), (1, 2)] [0, 1, 2] = [[0], [0, 1], [1, 2]] := by
  unfold sweepM openM nearsM besM
  simp only [← isortI_eq, sortO_ins]
  decide +kernel
theorem rngI_lt (lo : Int) (n : Nat) : (rngI lo n).Pairwise (· < ·) := by
  unfold rngI
  exact List.Pairwise.map _ (fun a b h => by omega) List.pairwise_lt_range
theorem sweepM_length (r : Int) (ds : List (Int × Int)) (row : List Int) : (sweepM r ds row).length = row.length := by unfold sweepM; rw [List.length_map, numL_length]
theorem first_out {r : Int} {ds : List (Int × Int)} {row : List Int} {s : List Int} (hs : (sweepM r ds row)[0]? = some s) {z : Int} (hz : z ∉ s) : z ∉ row.take 1 := fun m => by
  cases row with
  | nil => simp at m
  | cons x l =>
    have : z = x := by simpa using m
    exact hz ((mem_sweep (i := 0) (x := x) rfl hs).mpr (.inr this))
theorem uns_out {r : Int} {ds : List (Int × Int)} (ok : HOk' r ds) {row : List Int} (hin : ∀ x ∈ row, 0 ≤ x ∧ x < r) {n : Nat} {fl : List (List Int)} (h : UInv r ds (sweepM r ds row) n fl) (hn : n + 1 ≤ row.length) : ∀ i a, i ≤ n → fl[i]? = some a → ∀ z ∈ a, z ∉ row.take (i + 1)
  | 0, a, _, ha, z, hz => by
    obtain ⟨s, hs⟩ : ∃ s, (sweepM r ds row)[0]? = some s := ⟨_, List.getElem?_eq_getElem (by rw [sweepM_length]; omega)⟩
    rw [h.2.1 s hs] at ha
    cases ha
    exact first_out hs (by have := (List.mem_filter.mp hz).2; simpa using this)
  | i + 1, a, hi, ha, z, hz => by
    obtain ⟨one, h1⟩ : ∃ s, (sweepM r ds row)[i]? = some s := ⟨_, List.getElem?_eq_getElem (by rw [sweepM_length]; omega)⟩
    obtain ⟨other, h2⟩ : ∃ s, (sweepM r ds row)[i + 1]? = some s := ⟨_, List.getElem?_eq_getElem (by rw [sweepM_length]; omega)⟩
    obtain ⟨x, hx⟩ : ∃ x, row[i]? = some x := ⟨_, List.getElem?_eq_getElem (by omega)⟩
    obtain ⟨y, hy⟩ : ∃ y, row[i + 1]? = some y := ⟨_, List.getElem?_eq_getElem (by omega)⟩
    obtain ⟨a0, b, ks, e0, e1, hs, hm⟩ := h.2.2.1 i one other hi h1 h2
    rw [ha] at e1
    cases e1
    exact sweep_step ok hin hx hy h1 h2 (uns_out ok hin h hn i a0 (by omega) e0) hs z ((hm z).mp hz).1 ((hm z).mp hz).2
theorem uns_last {r : Int} {ds : List (Int × Int)} (ok : HOk' r ds) {row : List Int} (rok : RowOk r row) (hin : ∀ x ∈ row, 0 ≤ x ∧ x < r) {d : List (List Int)} (h : UnsOk r ds (sweepM r ds row) d) : L2.atI d (-1) = some [] := by
  have hl : row.length = r.toNat := by rw [rok.2.2.length_eq, rngI_length]
  obtain ⟨n, hn, inv⟩ := h
  rw [sweepM_length] at hn
  have hdl := inv.1
  obtain ⟨a, ha⟩ : ∃ a, d[n]? = some a := ⟨_, List.getElem?_eq_getElem (by omega)⟩
  have he : a = [] := by
    refine List.eq_nil_iff_forall_not_mem.mpr fun z hz => ?_
    have h1 := uns_out ok hin inv (by omega) n a (Nat.le_refl _) ha z hz
    have h2 := (inv.2.2.2 a (List.mem_of_getElem? ha)).2 z hz
    rw [List.take_of_length_le (by omega)] at h1
    exact h1 (rok.2.2.mem_iff.mpr (mem_rngI.mpr (by omega)))
  subst he
  unfold L2.atI ixN
  rw [if_neg (by decide), if_pos (by omega)]
  show d[(-1 + (d.length : Int)).toNat]? = _
  rw [show (-1 + (d.length : Int)).toNat = n by omega]
  exact ha
theorem sweep_lots {r : Int} {ds : List (Int × Int)} {row : List Int} (nd : row.Nodup) (hin : ∀ x ∈ row, 0 ≤ x ∧ x < r) (h9 : r ≤ 9) : ∀ l ∈ sweepM r ds row, LotOk r l := fun l m => by
  obtain ⟨i, hi⟩ := List.mem_iff_getElem?.mp m
  have hil := (List.getElem?_eq_some_iff.mp hi).1
  rw [sweepM_length] at hil
  obtain ⟨x, hx⟩ : ∃ x, row[i]? = some x := ⟨_, List.getElem?_eq_getElem hil⟩
  rw [sweepM_at hx] at hi
  cases hi
  have hxm := List.mem_of_getElem? hx
  have nd2 : (openM r ds (sortO (row.take i)) ++ [x]).Nodup := by
    rw [List.nodup_append]
    refine ⟨?_, by simp, fun a ha b hb e => ?_⟩
    · unfold openM
      exact List.Nodup.sublist List.filter_sublist (sortO_nodup (List.Nodup.sublist (List.take_sublist _ _) nd))
    · rw [List.mem_singleton] at hb
      subst hb e
      unfold openM at ha
      have ha2 := mem_sortO.mp (List.mem_filter.mp ha).1
      obtain ⟨j, hj⟩ := List.mem_iff_getElem?.mp ha2
      rw [List.getElem?_take] at hj
      split at hj
      · rename_i hji
        have := (List.getElem?_inj (by omega) nd).mp (hj.trans hx.symm)
        omega
      · cases hj
  have hr : ∀ z ∈ sortO (openM r ds (sortO (row.take i)) ++ [x]), 0 ≤ z ∧ z < r := fun z hz => by
    rcases List.mem_append.mp (mem_sortO.mp hz) with h | h
    · unfold openM at h
      exact hin z (List.mem_of_mem_take (mem_sortO.mp (List.mem_filter.mp h).1))
    · rw [List.mem_singleton.mp h]; exact hin x hxm
  refine ⟨hr, ?_, ?_⟩
  · exact (sortO_strict nd2).imp fun h => of_decide_eq_true h
  · have := nodup_len (sortO_nodup nd2) hr
    omega
theorem ok_law (T : Ctx K mg) : FnOk P w K mg base CX0 7 T.a_law T.fd_law ["script"] (Sp1 (fun (_ : Nd (Scr K)) => True) (fun _ (b : Bool) => b = true)) := by
  have G_House___init__ := ok_House___init__ (P := P) (w := w) (base := base) T
  have G_law_besides := ok_law_besides (P := P) (w := w) (base := base) T
  have G_law_draw := ok_law_draw (P := P) (w := w) (base := base) T
  have G_law_hand := ok_law_hand (P := P) (w := w) (base := base) T
  have G_law_house := ok_law_house (P := P) (w := w) (base := base) T
  have G_law_mixed := ok_law_mixed (P := P) (w := w) (base := base) T
  have G_law_open := ok_law_open (P := P) (w := w) (base := base) T
  have G_law_reached := ok_law_reached (P := P) (w := w) (base := base) T
  have G_law_sweep := ok_law_sweep (P := P) (w := w) (base := base) T
  have G_open_rooms := ok_open_rooms (P := P) (w := w) (base := base) T
  have G_sweep_of := ok_sweep_of (P := P) (w := w) (base := base) T
  have G_unsure := ok_unsure (P := P) (w := w) (base := base) T
  refine T.F_law.ok sc_law (fun vs H Q E h => h.len) (fun cdv A outer s H vs Q E hr h => ?_)
  obtain ⟨v, d, rfl, ⟨ra, hn⟩, -, k⟩ := h
  refine ⟨_, (pss_cons (ps_set (i := 1) sc_law.nd rfl (Or.inr rfl) (pe_call (G_law_hand) (hr.mono (by first | decide | omega)) (by rfl) T.m_law_hand T.F_law_hand.kp T.b_law_hand .nil pass0 (pa_cons (pv 0) pa_nil)))
      (pss_cons (ps_set (i := 2) sc_law.nd rfl (Or.inl rfl) (pe_make T.mk_House (G_House___init__) (hr.mono (by first | decide | omega)) (by rfl) T.m_House T.b_House___init__ .nil pass0 (pa_cons pe_int (pa_cons (pe_tup (pa_cons (pe_tup (pa_cons pe_int (pa_cons pe_int pa_nil))) (pa_cons (pe_tup (pa_cons pe_int (pa_cons pe_int pa_nil))) pa_nil))) pa_nil))))
      (pss_cons (ps_if (PW.pt (pw_or (pt_cmpR (k_neD (K := K) rfl hr.units) (pe_call (G_open_rooms) (hr.mono (by first | decide | omega)) (by rfl) T.m_open_rooms T.F_open_rooms.kp T.b_open_rooms .nil pass0 (pa_cons (pv 2) (pa_cons (pe_tup (pa_cons pe_int (pa_cons pe_int pa_nil))) pa_nil))) (pe_tup (pa_cons pe_int pa_nil)) (nomark _)) (pw_or1 (pt_cmpR (k_neD (K := K) rfl hr.units) (pe_call (G_sweep_of) (hr.mono (by first | decide | omega)) (by rfl) T.m_sweep_of T.F_sweep_of.kp T.b_sweep_of .nil pass0 (pa_cons (pv 2) (pa_cons (pe_tup (pa_cons pe_int (pa_cons pe_int (pa_cons pe_int pa_nil)))) pa_nil))) (pe_tup (pa_cons (pe_tup (pa_cons pe_int pa_nil)) (pa_cons (pe_tup (pa_cons pe_int (pa_cons pe_int pa_nil))) (pa_cons (pe_tup (pa_cons pe_int (pa_cons pe_int pa_nil))) pa_nil)))) (nomark _))))) (pss_one (ps_ret pe_bl)) pss_nil)
      (pss_cons (ps_for PassesOwn.never rfl (pi_range1 (by rfl) T.n_range (pa_cons pe_int pa_nil)) (pg_name (i := 3) sc_law.nd rfl (Or.inl rfl) (Or.inr rfl))
      (pss_cons (ps_asg (pe_call (G_law_house) (hr.mono (by first | decide | omega)) (by rfl) T.m_law_house T.F_law_house.kp T.b_law_house .nil pass0 (pa_cons (pv 1) (pa_cons pe_int pa_nil))) (k_pg_tup (K := K) (n := 2) rfl rfl (pgs_cons (pg_name (i := 4) sc_law.nd rfl (Or.inl rfl) (Or.inr rfl)) (pgs_cons (pg_name (i := 5) sc_law.nd rfl (Or.inl rfl) (Or.inr rfl)) pgs_nil)) rfl))
      (pss_cons (ps_asg (pe_tup (pa_cons (pe_make T.mk_House (G_House___init__) (hr.mono (by first | decide | omega)) (by rfl) T.m_House T.b_House___init__ .nil pass0 (pa_cons (pv 4) (pa_cons (pv 5) pa_nil))) (pa_cons (pe_call (G_law_besides) (hr.mono (by first | decide | omega)) (by rfl) T.m_law_besides T.F_law_besides.kp T.b_law_besides .nil pass0 (pa_cons (pv 4) (pa_cons (pv 5) pa_nil))) pa_nil))) (k_pg_tup (K := K) (n := 2) rfl rfl (pgs_cons (pg_name (i := 6) sc_law.nd rfl (Or.inl rfl) (Or.inr rfl)) (pgs_cons (pg_name (i := 7) sc_law.nd rfl (Or.inr rfl) (Or.inl rfl)) pgs_nil)) rfl))
      (pss_cons (ps_set (i := 8) sc_law.nd rfl (Or.inl rfl) (pe_callTy (k_tuple_of (K := K) rfl) (by rfl) T.n_tuple (by decide +kernel) (pa_cons (pe_lc (own := [("room", 9)]) rfl sc_law.nd (pi_range1 (by rfl) T.n_range (pa_cons (pv 4) pa_nil)) (blkOk_by (by kernel_rfl)) (fun _ _ _ _ _ => (pg_name (i := 9) sc_law.nd rfl (Or.inl rfl) (Or.inr rfl))) (fun _ _ _ _ _ => (pts_one (pt_cmpR op_eq (pe_call (G_law_draw) (hr.mono (by first | decide | omega)) (by rfl) T.m_law_draw T.F_law_draw.kp T.b_law_draw .nil pass0 (pa_cons (pv 1) (pa_cons pe_int pa_nil))) pe_int (nomark _)))) (fun _ _ _ _ _ => (pv 9))) pa_nil)))
      (pss_cons (ps_if (PW.pt (pw_or (pt_cmpR (k_neD (K := K) rfl hr.units) (pe_call (G_open_rooms) (hr.mono (by first | decide | omega)) (by rfl) T.m_open_rooms T.F_open_rooms.kp T.b_open_rooms .nil pass0 (pa_cons (pv 6) (pa_cons (pv 8) pa_nil))) (pe_call (G_law_open) (hr.mono (by first | decide | omega)) (by rfl) T.m_law_open T.F_law_open.kp T.b_law_open .nil pass0 (pa_cons (pv 7) (pa_cons (pv 8) pa_nil))) (nomark _)) (pw_or1 (pt_cmpR (k_neD (K := K) rfl hr.units) (pe_call (G_open_rooms) (hr.mono (by first | decide | omega)) (by rfl) T.m_open_rooms T.F_open_rooms.kp T.b_open_rooms .nil pass0 (pa_cons (pv 6) (pa_cons (pe_tupRg rfl (by rfl) T.n_tuple (prg_1 (by rfl) T.n_range (pv 4))) pa_nil))) (pe_tup pa_nil) (nomark _))))) (pss_one (ps_ret pe_bl)) pss_nil)
      (pss_cons (ps_set (i := 10) sc_law.nd rfl (Or.inr rfl) (pe_callTy (k_tuple_of (K := K) rfl) (by rfl) T.n_tuple (by decide +kernel) (pa_cons (pe_call (G_law_mixed) (hr.mono (by first | decide | omega)) (by rfl) T.m_law_mixed T.F_law_mixed.kp T.b_law_mixed .nil pass0 (pa_cons (pv 1) (pa_cons (pv 4) pa_nil))) pa_nil)))
      (pss_cons (ps_asg (pe_tup (pa_cons (pe_call (G_sweep_of) (hr.mono (by first | decide | omega)) (by rfl) T.m_sweep_of T.F_sweep_of.kp T.b_sweep_of .nil pass0 (pa_cons (pv 6) (pa_cons (pv 10) pa_nil))) (pa_cons (pe_callB (k_max (K := K) rfl rfl) (by rfl) T.n_max (by decide +kernel) (pa_cons (pe_lc (own := [("at", 13)]) rfl sc_law.nd (pi_range1 (by rfl) T.n_range (pa_cons (pe_op op_add (pv 4) pe_int) pa_nil)) (blkOk_by (by kernel_rfl)) (fun _ _ _ _ _ => (pg_name (i := 13) sc_law.nd rfl (Or.inl rfl) (Or.inr rfl))) (fun _ _ _ _ _ => pts_nil) (fun _ _ _ _ _ => (pe_callB (k_len (K := K) rfl) (by rfl) T.n_len (by decide +kernel) (pa_cons (pe_call (G_law_open) (hr.mono (by first | decide | omega)) (by rfl) T.m_law_open T.F_law_open.kp T.b_law_open .nil pass0 (pa_cons (pv 7) (pa_cons (pe_slice (k_sl_tup (K := K) rfl) (pv 10) po_none (po_some (pv 13))) pa_nil))) pa_nil)))) pa_nil)) pa_nil))) (k_pg_tup (K := K) (n := 2) rfl rfl (pgs_cons (pg_name (i := 11) sc_law.nd rfl (Or.inr rfl) (Or.inl rfl)) (pgs_cons (pg_name (i := 12) sc_law.nd rfl (Or.inl rfl) (Or.inr rfl)) pgs_nil)) rfl))
      (pss_cons (ps_if (PW.pt (pw_or (pt_cmpR (k_neD (K := K) rfl hr.units) (pv 11) (pe_call (G_law_sweep) (hr.mono (by first | decide | omega)) (by rfl) T.m_law_sweep T.F_law_sweep.kp T.b_law_sweep .nil pass0 (pa_cons (pv 7) (pa_cons (pv 10) pa_nil))) (nomark _)) (pw_or1 (pt_cmpR op_gt (pe_callB (k_max (K := K) rfl rfl) (by rfl) T.n_max (by decide +kernel) (pa_cons (pe_lc (own := [("lot", 8)]) rfl sc_law.nd (k_pi_tup (K := K) rfl (pv 11)) (blkOk_by (by kernel_rfl)) (fun _ _ _ _ _ => (pg_name (i := 8) sc_law.nd rfl (Or.inl rfl) (Or.inr rfl))) (fun _ _ _ _ _ => pts_nil) (fun _ _ _ _ _ => (pe_callB (k_len (K := K) rfl) (by rfl) T.n_len (by decide +kernel) (pa_cons (pv 8) pa_nil)))) pa_nil)) (pe_op op_add (pv 12) pe_int) (nomark _))))) (pss_one (ps_ret pe_bl)) pss_nil)
      (pss_cons (ps_if (pt_cmpR (k_neD (K := K) rfl hr.units) (pe_ix (k_ix_tup (K := K) rfl) (pe_call (G_unsure) (hr.mono (by first | decide | omega)) (by rfl) T.m_unsure T.F_unsure.kp T.b_unsure .nil pass0 (pa_cons (pv 6) (pa_cons (pv 11) pa_nil))) (pe_un un_neg pe_int) (fun _ _ => rfl)) (pe_tup pa_nil) (nomark _)) (pss_one (ps_ret pe_bl)) pss_nil)
      (pss_cons (ps_setLc (i := 14) (own := [("room", 9)]) rfl sc_law.nd rfl rfl (sw_true rfl rfl rfl (by decide +kernel)) (pi_range1 (by rfl) T.n_range (pa_cons (pv 4) pa_nil)) (blkOk_by (by kernel_rfl)) (fun _ _ _ _ _ => (pg_name (i := 9) sc_law.nd rfl (Or.inl rfl) (Or.inr rfl))) (fun _ _ _ _ _ => (pts_one (pt_cmpR (k_notIn_seq (K := K) rfl) (pv 9) (pe_ix (k_ix_tup (K := K) rfl) (pv 11) pe_int (fun _ _ => rfl)) (by rfl)))) (fun _ _ _ _ _ => (pv 9)))
      (pss_cons (ps_for PassesOwn.never rfl (k_pi_zip (K := K) rfl (by rfl) T.n_zip (pa_cons (pv 11) (pa_cons (pe_slice (k_sl_tup (K := K) rfl) (pv 11) (po_some pe_int) po_none) pa_nil))) (k_pg_tup (K := K) (n := 2) rfl rfl (pgs_cons (pg_name (i := 15) sc_law.nd rfl (Or.inl rfl) (Or.inr rfl)) (pgs_cons (pg_name (i := 16) sc_law.nd rfl (Or.inr rfl) (Or.inl rfl)) pgs_nil)) rfl)
      (pss_cons (ps_set (i := 17) sc_law.nd rfl (Or.inl rfl) (pe_call (G_law_reached) (hr.mono (by first | decide | omega)) (by rfl) T.m_law_reached T.F_law_reached.kp T.b_law_reached .nil pass0 (pa_cons (pv 7) (pa_cons (pv 14) (pa_cons (pe_lc (own := [("room", 9)]) rfl sc_law.nd (k_pi_tup (K := K) rfl (pv 15)) (blkOk_by (by kernel_rfl)) (fun _ _ _ _ _ => (pg_name (i := 9) sc_law.nd rfl (Or.inl rfl) (Or.inr rfl))) (fun _ _ _ _ _ => (pts_one (pt_cmpR (k_in_seq (K := K) rfl) (pv 9) (pv 16) (by rfl)))) (fun _ _ _ _ _ => (pv 9))) pa_nil)))))
      (pss_one (ps_lock (ps_setLc (i := 14) (own := [("room", 9)]) rfl sc_law.nd rfl rfl (sw_true rfl rfl rfl (by decide +kernel)) (pi_keys (pv 17)) (blkOk_by (by kernel_rfl)) (fun _ _ _ _ _ => (pg_name (i := 9) sc_law.nd rfl (Or.inl rfl) (Or.inr rfl))) (fun _ _ _ _ _ => (pts_one (pt_cmpR (k_notIn_seq (K := K) rfl) (pv 9) (pv 16) (by rfl)))) (fun _ _ _ _ _ => (pv 9)))))))
      (pss_one (ps_if (pt_cmpR op_gt (pe_callB (k_len (K := K) rfl) (by rfl) T.n_len (by decide +kernel) (pa_cons (pv 14) pa_nil)) pe_int (nomark _)) (pss_one (ps_ret pe_bl)) pss_nil)))))))))))))
      (pss_one (ps_ret pe_bl)))))), ?_⟩
  have nrep : ∀ {H' : Hp}, Gr H H' → Neat H' := fun g => g.neat hn
  refine q_asg (P := fun (_ : Hand) => True) (ed_call1 (ev_var rfl ra) (fun _ _ => trivial) (fun _ _ _ _ => trivial)) fun hd v1 H1 _ g1 r1 => ?_
  have kk : HOk' 3 [(0, 1), (1, 2)] := ⟨by decide, by decide, fun d m => (by simp at m; rcases m with e | e <;> subst e <;> exact ⟨by decide, by decide, by decide⟩), by decide +kernel, by decide⟩
  refine q_asgE (d := Hs.mk (C := T.C_House) 3 [(0, 1), (1, 2)]) (ed_make (nrep g1) ev_int (ev_tup (eal_cons (ev_pair ev_int ev_int) (eal_cons (ev_pair ev_int ev_int) eal_nil)) (by decide)) ⟨by decide, by decide, kk.2.2⟩) fun v2 H2 g2 r2 => ?_
  have k12 : LotOk 3 [0, 1] := ⟨by decide, by decide, by decide⟩
  have k13 : RowOk 3 [0, 1, 2] := ⟨by decide, by decide, by decide +kernel⟩
  refine q_when (b := false || false) (et_or (et_test (ev_is (ev_neD (a := ([1] : List Int)) (b := [1]) (ev_is (ev_call2 (m := fun (h : Hs T.C_House) l => openM h.r h.ds l) (a := Hs.mk (C := T.C_House) 3 [(0, 1), (1, 2)]) (b := [0, 1]) (ev_var rfl r2) (ev_tup (eal_cons ev_int (eal_cons ev_int eal_nil)) (by decide)) ⟨kk, k12⟩) known_open) (ev_tup (eal_cons ev_int eal_nil) (by decide))) (by simp))) fun _ => et_test (ev_is (ev_neD (a := ([[0], [0, 1], [1, 2]] : List (List Int))) (b := [[0], [0, 1], [1, 2]]) (ev_is (ev_call2 (m := fun (h : Hs T.C_House) l => sweepM h.r h.ds l) (a := Hs.mk (C := T.C_House) 3 [(0, 1), (1, 2)]) (b := [0, 1, 2]) (ev_var rfl r2) (ev_tup (eal_cons ev_int (eal_cons ev_int (eal_cons ev_int eal_nil))) (by decide)) ⟨kk, k13⟩) known_sweep)
    (ev_tup (eal_cons (ev_tup (eal_cons ev_int eal_nil) (by decide)) (eal_cons (ev_tup (eal_cons ev_int (eal_cons ev_int eal_nil)) (by decide)) (eal_cons (ev_tup (eal_cons ev_int (eal_cons ev_int eal_nil)) (by decide)) eal_nil))) (by decide))) (by simp))) (fun z => nomatch z) fun _ H3 g3 => ?_
  have g13 := g2.trans g3
  refine q_foldT (fun (_ : Unit) (_ : Int) => ()) () (fun _ σ' H' => Gr H1 H' ∧ σ'[1]? = some (some v1) ∧ σ'.length = 18) (src_rng1 ev_int (by decide)) (fun H4 g4 => ⟨g13.trans g4, rfl, rfl⟩) (fun _ σ' H2 H3 g ⟨a, b⟩ => ⟨a.trans g, b⟩) ?_ ?_
  · rintro Hb i b x _ σ0 H4 gb tb hdx _ ⟨g4, s1', sl'⟩ rx
    have s1 := sne (i := 3) (v := some x) (by decide) s1'
    have sl : (σ0.set 3 (some x)).length = 18 := by simp [sl']
    show tSeq _ _ _ (σ0.set 3 (some x)) _
    generalize σ0.set 3 (some x) = σ1 at s1 sl ⊢
    refine q_asgP (P := fun (d : Int × List (Int × Int)) => HOk' d.1 d.2 ∧ d.1 ≤ 8) ((ed_call2 (P' := fun (d : Int × List (Int × Int)) => 1 ≤ d.1 ∧ d.1 ≤ 8 ∧ DoorsOk d.1 d.2) (ev_var s1 (Py.mono g4 r1)) ev_int (fun _ b _ eb => by rw [eb]; decide) (fun _ b d _ eb p => by rw [eb] at p; exact p)).imp fun d p => ⟨⟨p.1, by have := p.2.1; omega, p.2.2⟩, p.2.1⟩) fun rooms ds v4 v5 H5 pp g5 r4 r5 => ?_
    obtain ⟨hk, h8⟩ := pp
    simp only at hk h8
    have h9 := hk.2.1
    have h1r := hk.1
    have neat5 : Neat H5 := nrep ((g1.trans g4).trans g5)
    have a1 := sne (i := 5) (v := some v5) (by decide) (sne (i := 4) (v := some v4) (by decide) s1)
    have a4 : ((σ1.set 4 (some v4)).set 5 (some v5))[4]? = some (some v4) := sne (by decide) (seq (by omega))
    have a5 : ((σ1.set 4 (some v4)).set 5 (some v5))[5]? = some (some v5) := seq (by rw [List.length_set]; omega)
    have al : ((σ1.set 4 (some v4)).set 5 (some v5)).length = 18 := by simp [sl]
    generalize ((σ1.set 4 (some v4)).set 5 (some v5)) = σ2 at a1 a4 a5 al ⊢
    refine q_asgT2 (P := (· = Hs.mk (C := T.C_House) rooms ds)) (P' := (· = besL rooms ds)) (ed_make neat5 (ev_var a4 r4) (ev_var a5 r5) ⟨h1r, h9, hk.2.2⟩) (ev_call2 (m := fun r ds => besL r ds) (a := rooms) (b := ds) (ev_var a4 r4) (ev_var a5 r5) hk) fun hs bv v6 v7 H6 e6 e7 g6 r6 r7 => ?_
    subst e6 e7
    have b1 := sne (i := 7) (v := some v7) (by decide) (sne (i := 6) (v := some v6) (by decide) a1)
    have b4 := sne (i := 7) (v := some v7) (by decide) (sne (i := 6) (v := some v6) (by decide) a4)
    have b6 : ((σ2.set 6 (some v6)).set 7 (some v7))[6]? = some (some v6) := sne (by decide) (seq (by omega))
    have b7 : ((σ2.set 6 (some v6)).set 7 (some v7))[7]? = some (some v7) := seq (by rw [List.length_set]; omega)
    have bl : ((σ2.set 6 (some v6)).set 7 (some v7)).length = 18 := by simp [al]
    generalize ((σ2.set 6 (some v6)).set 7 (some v7)) = σ3 at b1 b4 b6 b7 bl ⊢
    have g46 := g5.trans g6
    have r4' := Py.mono g6 r4
    refine q_asg (P := fun (l : List Int) => LotOk rooms l) ((ed_tupL ((el_genN (fun _ _ => True) (fun (d : Int) (y : Int) => y = d) (src_rng1 (ev_var b4 r4') (by omega)).src (by rw [rngI_length]; omega) (fun z => by simp [wipe])
      (fun d y H' m g ry => edt_test (ed_eqI (ed_call2 (P' := fun (_ : Int) => True) (ev_var (by simp [wipe]; exact b1) (Py.mono ((g4.trans g46).trans g) r1)) ev_int (fun _ b _ eb => by rw [eb]; decide) (fun _ _ _ _ _ _ => trivial)) ev_int))
      (fun d y H' m g ry _ => ev_var (by simp [wipe, bl]) ry)).imp (P' := fun l => LotOk rooms l.l) fun l pk => by
        have hs := pk.sub (v := fun d => d)
        rw [List.map_id'] at hs
        refine ⟨fun z hz => ?_, List.Pairwise.sublist hs (rngI_lt _ _), ?_⟩
        · have := mem_rngI.mp (hs.subset hz); omega
        · have := hs.length_le; rw [rngI_length] at this; omega))) fun lot v8 H7 lok g7 r8 => ?_
    have c1 := sne (i := 8) (v := some v8) (by decide) b1
    have c4 := sne (i := 8) (v := some v8) (by decide) b4
    have c6 := sne (i := 8) (v := some v8) (by decide) b6
    have c7 := sne (i := 8) (v := some v8) (by decide) b7
    have c8 : (σ3.set 8 (some v8))[8]? = some (some v8) := seq (by omega)
    have cl : (σ3.set 8 (some v8)).length = 18 := by simp [bl]
    generalize σ3.set 8 (some v8) = σ4 at c1 c4 c6 c7 c8 cl ⊢
    have r4'' := Py.mono g7 r4'
    have lotin : ∀ x ∈ lot, 0 ≤ x ∧ x < rooms := lok.1
    have lotsort : sortO lot = lot := sortO_id (lok.2.1.imp fun z => by omega)
    have allok : LotOk rooms (rngI 0 rooms.toNat) := ⟨fun x m => by have := mem_rngI.mp m; omega, rngI_lt _ _, by rw [rngI_length]; omega⟩
    obtain ⟨om, hom⟩ : ∃ l, openM rooms ds lot = l := ⟨_, rfl⟩
    have hol : openL rooms ds lot = om := by rw [← open_eq lotin, lotsort]; exact hom
    refine q_when (b := false || false) (et_or (et_test (ev_is (ev_neD (a := om) (b := om) (ev_is (ev_call2 (m := fun (h : Hs T.C_House) l => openM h.r h.ds l) (a := Hs.mk (C := T.C_House) rooms ds) (b := lot) (ev_var c6 (Py.mono g7 r6)) (ev_var c8 r8) ⟨hk, lok⟩) hom)
        (ed_call2 (P' := (· = om)) (ev_var c7 (Py.mono g7 r7)) (ev_var c8 r8) (fun _ _ ea eb => by subst ea eb; exact ⟨rooms, ds, hk, rfl, lotin, lok.2.2⟩) (fun _ _ d ea eb p => by subst ea eb; rw [← hol]; exact p rooms ds hk rfl))) (by simp))) fun _ =>
      et_test (ev_is (ev_neD (a := ([] : List Int)) (b := []) (ev_is (ev_call2 (m := fun (h : Hs T.C_House) l => openM h.r h.ds l) (a := Hs.mk (C := T.C_House) rooms ds) (b := rngI 0 rooms.toNat) (ev_var c6 (Py.mono g7 r6)) (ev_tupRg1 (ev_var c4 r4'') (by omega)) ⟨hk, allok⟩) (open_all hk)) (ev_tup eal_nil (Nat.zero_le _))) (by simp))) (fun z => nomatch z) fun _ H8 g8 => ?_
    have g78 := g7.trans g8
    refine q_asg (P := fun (l : List Int) => RowOk rooms l) ((ed_tupL (P := fun (l : Ls Int) => RowOk rooms l.l) ((ed_call2 (P' := fun (l : Ls Int) => l.l.Perm (rngI 0 rooms.toNat)) (ev_var c1 (Py.mono ((g4.trans g46).trans g78) r1)) (ev_var c4 (Py.mono g8 r4'')) (fun _ b _ eb => by rw [eb]; omega) (fun _ b d _ eb p => by rw [eb] at p; exact p)).imp fun l p => ⟨by omega, h9, p⟩))) fun row v10 H9 rok g9 r10 => ?_
    have hrl : row.length = rooms.toNat := by rw [rok.2.2.length_eq, rngI_length]
    have rin : ∀ x ∈ row, 0 ≤ x ∧ x < rooms := fun x m => by have := mem_rngI.mp (rok.2.2.mem_iff.mp m); omega
    have d1 := sne (i := 10) (v := some v10) (by decide) c1
    have d4 := sne (i := 10) (v := some v10) (by decide) c4
    have d6 := sne (i := 10) (v := some v10) (by decide) c6
    have d7 := sne (i := 10) (v := some v10) (by decide) c7
    have d10 : (σ4.set 10 (some v10))[10]? = some (some v10) := seq (by omega)
    have dl : (σ4.set 10 (some v10)).length = 18 := by simp [cl]
    generalize σ4.set 10 (some v10) = σ5 at d1 d4 d6 d7 d10 dl ⊢
    have g79 := g78.trans g9
    have r4d := Py.mono (g8.trans g9) r4''
    have r6d := Py.mono g79 r6
    have r7d := Py.mono g79 r7
    obtain ⟨sw, hsw⟩ : ∃ l, sweepM rooms ds row = l := ⟨_, rfl⟩
    have hsl : sweepL rooms ds row = sw := by rw [← sweep_eq rin]; exact hsw
    refine q_asgT2 (P := (· = sw)) (P' := fun (m : Int) => ∀ i : Nat, i ≤ rooms.toNat → ((openL rooms ds (row.take i)).length : Int) ≤ m) (ev_is (ev_call2 (m := fun (h : Hs T.C_House) l => sweepM h.r h.ds l) (a := Hs.mk (C := T.C_House) rooms ds) (b := row) (ev_var d6 r6d) (ev_var d10 r10) ⟨hk, rok⟩) hsw)
      ((ed_maxL (l := (rngI 0 (rooms + 1).toNat).map fun (i : Int) => ((openL rooms ds (row.take i.toNat)).length : Int)) (el_mapN (v := fun (i : Int) => ((openL rooms ds (row.take i.toNat)).length : Int)) (src_rng1 (ev_add (ev_var d4 r4d) ev_int) (by omega)).src (by rw [rngI_length]; omega) (fun z => by simp [wipe]) fun i y H' m g ry => ev_lenT (l := openL rooms ds (row.take i.toNat))
        (ed_call2 (P' := (· = openL rooms ds (row.take i.toNat))) (ev_var (by simp [wipe]; exact d7) (Py.mono g r7d)) (ev_is (ev_slT (ds := row) (ev_var (by simp [wipe]; exact d10) (Py.mono g r10)) eo_none (eo_some (ev_var (d := i) (by simp [wipe, dl]) ry))) (cutL_head row (by have := mem_rngI.mp m; omega))) (fun _ _ ea eb => by subst ea eb; exact ⟨rooms, ds, hk, rfl, fun x m => rin x (List.mem_of_mem_take m), by rw [List.length_take]; omega⟩) (fun _ _ d ea eb p => by subst ea eb; exact p rooms ds hk rfl))) (by rw [List.length_map, rngI_length]; omega)).imp fun m pm i hi => pm.2 _ (List.mem_map.mpr ⟨(i : Int), mem_rngI.mpr (by omega), rfl⟩)) fun sw' most v11 v12 H10 esw pmost g10 r11 r12 => ?_
    subst esw
    have e1 := sne (i := 12) (v := some v12) (by decide) (sne (i := 11) (v := some v11) (by decide) d1)
    have e4 := sne (i := 12) (v := some v12) (by decide) (sne (i := 11) (v := some v11) (by decide) d4)
    have e6 := sne (i := 12) (v := some v12) (by decide) (sne (i := 11) (v := some v11) (by decide) d6)
    have e7 := sne (i := 12) (v := some v12) (by decide) (sne (i := 11) (v := some v11) (by decide) d7)
    have e10 := sne (i := 12) (v := some v12) (by decide) (sne (i := 11) (v := some v11) (by decide) d10)
    have e11 : ((σ5.set 11 (some v11)).set 12 (some v12))[11]? = some (some v11) := sne (by decide) (seq (by omega))
    have e12 : ((σ5.set 11 (some v11)).set 12 (some v12))[12]? = some (some v12) := seq (by rw [List.length_set]; omega)
    have el : ((σ5.set 11 (some v11)).set 12 (some v12)).length = 18 := by simp [dl]
    generalize ((σ5.set 11 (some v11)).set 12 (some v12)) = σ6 at e1 e4 e6 e7 e10 e11 e12 el ⊢
    have swl : sw'.length = row.length := by rw [← hsw, sweepM_length]
    have hlots : ∀ l ∈ sw', LotOk rooms l := hsw ▸ sweep_lots (rok.2.2.nodup_iff.mpr (rngI_nodup _ _)) rin h9
    have hlast : ∀ d, UnsOk rooms ds sw' d → L2.atI d (-1) = some [] := hsw ▸ fun d h => uns_last hk rok rin h
    have hmost : ∀ l ∈ sw', ((l.length : Nat) : Int) ≤ most + 1 := fun l m => by
      obtain ⟨i, hi⟩ := List.mem_iff_getElem?.mp m
      have hil := (List.getElem?_eq_some_iff.mp hi).1
      obtain ⟨x, hx⟩ : ∃ x, row[i]? = some x := ⟨_, List.getElem?_eq_getElem (by omega)⟩
      rw [← hsw, sweepM_at hx, open_eq fun x m => rin x (List.mem_of_mem_take m)] at hi
      cases hi
      rw [sortO_len, List.length_append]
      have := pmost i (by omega)
      simp
      omega
    refine q_when (b := false || false) (et_or (et_test (ev_is (ev_neD (a := sw') (b := sw') (ev_var e11 r11) (ed_call2 (P' := (· = sw')) (ev_var e7 (Py.mono g10 r7d)) (ev_var e10 (Py.mono g10 r10)) (fun _ _ ea eb => by subst ea eb; exact ⟨rooms, ds, hk, rfl, rok⟩) (fun _ _ d ea eb p => by subst ea eb; rw [← hsl]; exact p rooms ds hk rfl))) (by simp))) fun _ =>
      edt_test (ed_gt (Pa := fun m => m ∈ sw'.map fun (l : List Int) => ((l.length : Nat) : Int)) (Pb := (· = most + 1)) ((ed_maxL (l := sw'.map fun (l : List Int) => ((l.length : Nat) : Int)) (el_mapN (v := fun (l : List Int) => ((l.length : Nat) : Int)) (src_tup (ev_var e11 r11)).src (by omega) (fun z => by simp [wipe]) fun l y H' m g ry => ev_lenT (ev_var (by simp [wipe, el]) ry)) (by rw [List.length_map]; omega)).imp fun m p => p.1) (ev_add (ev_var e12 r12) ev_int) (fun i j hi hj => by
        obtain ⟨l, hl, rfl⟩ := List.mem_map.mp hi
        have := hmost l hl
        rw [hj]; exact decide_eq_false (by omega)))) (fun z => nomatch z) fun _ H11 g11 => ?_
    have r6e := Py.mono (g10.trans g11) r6d
    have r11' := Py.mono g11 r11
    refine q_when (b := false) (et_test (ev_is (ev_neD (a := ([] : List Int)) (b := []) (ed_ixTd (P := fun d => UnsOk rooms ds sw' d) (P' := (· = [])) (ed_call2 (ev_var e6 r6e) (ev_var e11 r11') (fun _ _ ea eb => by subst ea eb; exact ⟨hk, by omega, by omega, hlots⟩) (fun _ _ d ea eb p => by subst ea eb; exact p)) (ev_neg ev_int) (fun d p => ⟨[], hlast d p, rfl⟩)) (ev_tup eal_nil (Nat.zero_le _))) (by simp))) (fun z => nomatch z) fun _ H12 g12 => ?_
    have g1012 := g10.trans (g11.trans g12)
    obtain ⟨s0l, hs0⟩ : ∃ s, sw'[0]? = some s := ⟨_, List.getElem?_eq_getElem (by omega)⟩
    have hs0at : L2.atI sw' 0 = some s0l := by
      unfold L2.atI ixN
      rw [if_pos (by decide), if_pos (by omega)]; exact hs0
    refine q_asgE (d := Ls.mk ((rngI 0 rooms.toNat).filter fun x => decide (x ∉ s0l))) (ev_is (el_lcN (f := fun x => decide (x ∉ s0l)) (v := fun z => z) (src_rng1 (ev_var e4 (Py.mono g1012 r4d)) (by omega)).src (by rw [rngI_length]; omega) (fun z => by simp [wipe]) (fun d x H' m g rx => et_test (ev_is (ev_inIT (neg := true) (ev_var (d := d) (by simp [wipe, el]) rx) (ev_ixT (ds := sw') (ev_var (by simp [wipe]; exact e11) (Py.mono ((g11.trans g12).trans g) r11)) ev_int hs0at)) (by simp)))
      (fun d x H' m g rx _ => ev_var (by simp [wipe, el]) rx)) (by rw [List.map_id'])) fun v14 H13 g13 r14 => ?_
    have g913 := g1012.trans g13
    have f1 := sne (i := 14) (v := some v14) (by decide) e1
    have f7 := sne (i := 14) (v := some v14) (by decide) e7
    have f11 := sne (i := 14) (v := some v14) (by decide) e11
    have f14 : (σ6.set 14 (some v14))[14]? = some (some v14) := seq (by omega)
    have fl : (σ6.set 14 (some v14)).length = 18 := by simp [el]
    generalize σ6.set 14 (some v14) = σ7 at f1 f7 f11 f14 fl ⊢
    have r7f := Py.mono g913 r7d
    have r11f := Py.mono ((g11.trans g12).trans g13) r11
    have neat13 : Neat H13 := nrep ((((g1.trans g4).trans g46).trans g79).trans g913)
    have g113 : Gr H1 H13 := ((g4.trans g46).trans g79).trans g913
    refine q_foldT (fun (n : Nat) (_ : List Int × List Int) => n + 1) 0 (fun n σ' H' => ∃ (hl : List Int) (w : V), Gr H13 H' ∧ Py.rep (Ls.mk hl) w H' ∧ σ'[14]? = some (some w) ∧ (∀ z ∈ hl, (0 ≤ z ∧ z < rooms) ∧ z ∉ row.take (n + 1)) ∧ hl.length ≤ 100 ∧ σ'[1]? = some (some v1) ∧ σ'[7]? = some (some v7) ∧ σ'[11]? = some (some v11) ∧ σ'.length = 18)
      (src_zipT (ev_var f11 r11f) (ev_is (ev_slT (ds := sw') (ev_var f11 r11f) (eo_some ev_int) eo_none) (cutL_tail sw')))
      (fun H4 g4 => ⟨_, _, g4, Py.mono g4 r14, f14, fun z hz => by
        have h1 := mem_rngI.mp (List.mem_filter.mp hz).1
        have h2 := (List.mem_filter.mp hz).2
        simp at h2
        exact ⟨by omega, by rw [← hsw] at hs0; exact first_out hs0 h2⟩, Nat.le_trans (List.length_filter_le _ _) (by rw [rngI_length]; omega), f1, f7, f11, fl⟩)
      (fun n σ' H3 H4 g ⟨hl, w, a1, a2, a3⟩ => ⟨hl, w, a1.trans g, Py.mono g a2, a3⟩) ?_ ?_
    · rintro Hb2 n ⟨one, other⟩ x n' σ3 H14 gb2 tb2 hd2 en ⟨hl, w, g14, rh, s14, hin, hlen, s1, s7, s11, sl3⟩ rx2
      obtain ⟨hone, hoth⟩ := List.getElem?_zip_eq_some.mp hd2
      simp only [] at hone hoth
      rw [List.getElem?_drop] at hoth
      have hi := (List.getElem?_eq_some_iff.mp hd2).1
      have en' : n' = n := by rw [en, foldl_count, List.length_take]; omega
      subst en'
      have ho1 := hlots one (List.mem_of_getElem? hone)
      have ho2 := hlots other (List.mem_of_getElem? hoth)
      refine gTup2 rx2 fun y z ry rz => ?_
      have u1 : ((σ3.set 15 (some y)).set 16 (some z))[1]? = some (some v1) := sne (by decide) (sne (by decide) s1)
      have u7 : ((σ3.set 15 (some y)).set 16 (some z))[7]? = some (some v7) := sne (by decide) (sne (by decide) s7)
      have u11 : ((σ3.set 15 (some y)).set 16 (some z))[11]? = some (some v11) := sne (by decide) (sne (by decide) s11)
      have u14 : ((σ3.set 15 (some y)).set 16 (some z))[14]? = some (some w) := sne (by decide) (sne (by decide) s14)
      have u15 : ((σ3.set 15 (some y)).set 16 (some z))[15]? = some (some y) := sne (by decide) (seq (by omega))
      have u16 : ((σ3.set 15 (some y)).set 16 (some z))[16]? = some (some z) := seq (by rw [List.length_set]; omega)
      have ul : ((σ3.set 15 (some y)).set 16 (some z)).length = 18 := by simp [sl3]
      generalize ((σ3.set 15 (some y)).set 16 (some z)) = σ8 at u1 u7 u11 u14 u15 u16 ul ⊢
      refine q_asg (P := fun (d : DI Bool) => SprOk rooms ds hl (one.filter fun x => decide (x ∈ other)) (keysD d.kv)) (ed_call3 (ev_nd (ev_var u7 (Py.mono g14 r7f)) (g14.neat neat13)) (ev_var u14 rh)
        (ev_is (y := Ls.mk (one.filter fun x => decide (x ∈ other))) (el_lcN (f := fun x => decide (x ∈ other)) (v := fun z => z) (src_tup (ev_var u15 ry)).src (by have := ho1.2.2; show one.length ≤ _; omega) (fun z => by simp [wipe]) (fun d x H' m g rx => et_test (ev_is (ev_inIT (neg := false) (ev_var (d := d) (by simp [wipe, ul]) rx) (ev_var (d := other) (by simp [wipe]; exact u16) (Py.mono g rz))) (by simp)))
        (fun d x H' m g rx _ => ev_var (by simp [wipe, ul]) rx)) (by rw [List.map_id']))
        (fun _ _ _ ea eb ec => by subst ea eb ec; exact ⟨rooms, ds, hk, rfl, fun x m => (hin x m).1, hlen⟩) (fun _ _ _ _ ea eb ec p => by subst ea eb ec; exact p rooms ds hk rfl fun x m => (hin x m).1)) fun d17 v17 H15 p17 g15 r17 => ?_
      have hkl := spr_len p17
      have t1 := sne (i := 17) (v := some v17) (by decide) u1
      have t7 := sne (i := 17) (v := some v17) (by decide) u7
      have t11 := sne (i := 17) (v := some v17) (by decide) u11
      have t16 := sne (i := 17) (v := some v17) (by decide) u16
      have t17 : (σ8.set 17 (some v17))[17]? = some (some v17) := seq (by omega)
      have tl : (σ8.set 17 (some v17)).length = 18 := by simp [ul]
      generalize σ8.set 17 (some v17) = σ9 at t1 t7 t11 t16 t17 tl ⊢
      obtain ⟨p17a, e17⟩ : ∃ p, v17 = .ref p := by obtain ⟨p, _, e, _⟩ := r17; exact ⟨p, e⟩
      subst e17
      have rz15 : PyI.rep other z H15 := PyI.keep g15.tup rz
      refine s_lockAsg (P := (· = Ls.mk ((keysD d17.kv).filter fun x => decide (x ∉ other)))) (ev_is (el_lcD (β := Bool) (kv := d17.kv) (f := fun x => decide (x ∉ other)) (v := fun z => z) t17 r17 (by unfold keysD at hkl; rw [List.length_map] at hkl; omega) (fun z => by simp [wipe]) (fun d H' m tk => et_test (ev_is (ev_inIT (neg := true) (ev_var (d := d) (by simp [wipe, tl]) rfl) (ev_var (d := other) (by simp [wipe]; exact t16) (PyI.keep tk rz15))) (by simp)))
        (fun d H' m tk _ => ev_var (by simp [wipe, tl]) rfl)) (by rw [List.map_id'])) fun d18 v18 H16 e18 g16 r18 => ?_
      subst e18
      obtain ⟨xr, hxr⟩ : ∃ x, row[n']? = some x := ⟨_, List.getElem?_eq_getElem (by have := (List.getElem?_eq_some_iff.mp hone).1; omega)⟩
      obtain ⟨yr, hyr⟩ : ∃ x, row[n' + 1]? = some x := ⟨_, List.getElem?_eq_getElem (by have := (List.getElem?_eq_some_iff.mp hoth).1; omega)⟩
      refine ⟨tb2.trans (g15.trans g16).tup, _, v18, g14.trans (g15.trans g16), r18, seq (by omega), fun z hz => ?_, Nat.le_trans (List.length_filter_le _ _) (by omega), sne (by decide) t1, sne (by decide) t7, sne (by decide) t11, by simp [tl]⟩
      have hz1 := (List.mem_filter.mp hz).1
      have hz2 := (List.mem_filter.mp hz).2
      simp at hz2
      refine ⟨p17.2.1 z hz1, ?_⟩
      rw [← hsw] at hone hoth
      exact sweep_step hk rin hxr hyr hone (by rw [Nat.add_comm]; exact hoth) (fun z m => (hin z m).2) p17 z hz1 hz2
    · rintro σ3 H14 tk2 ⟨hl, w, g14, rh, s14, hin, hlen, s1, s7, s11, sl3⟩
      have hcount : (List.foldl (fun (n : Nat) (_ : List Int × List Int) => n + 1) 0 (sw'.zip (sw'.drop 1))) = row.length - 1 := by rw [foldl_count, List.length_zip, List.length_drop]; omega
      rw [hcount] at hin
      have hl0 : hl = [] := by
        refine List.eq_nil_iff_forall_not_mem.mpr fun z hz => ?_
        obtain ⟨h1, h2⟩ := hin z hz
        rw [show row.length - 1 + 1 = row.length by omega, List.take_length] at h2
        exact h2 (rok.2.2.mem_iff.mpr (mem_rngI.mpr (by omega)))
      subst hl0
      refine s_when (b := false) (et_test (ev_is (ev_gt (ev_lenL (ev_var s14 rh)) ev_int) (by decide))) (fun z => nomatch z) fun _ H15 g15 => ?_
      exact ⟨tb.trans (g5.tup.trans (g6.tup.trans (g79.tup.trans (g913.tup.trans (g14.tup.trans g15.tup))))), g113.trans (g14.trans g15), s1, sl3⟩
  · rintro σ' H4 tk ⟨g4, s1, sl⟩
    exact s_retE ev_bl fun w H5 g5 r5 => k _ w H5 rfl ((g1.trans g4).trans g5) r5

end
end Cl
namespace Cl
open PySem L2 Zw RZ
/-! ### the head -/
theorem all_mk {l : PySem.W.OpenLaw} {w : World} {K : PySem.W.Frag} {h : Heap} {mg : Str → Option Value} {fa : Addr} (X : K.In h) (G : h.Ns mainGlobals mg) (hfa : mg "law" = some (.ref fa))
    {C_House : Addr} {f_is_integer : Addr} {od_is_integer an_is_integer : Option Addr} {sl_is_integer : Array (Option Value)} {oc_is_integer kV_is_integer dc_is_integer pm_is_integer cd_is_integer ct_is_integer : Value} {f_is_within : Addr} {od_is_within an_is_within : Option Addr} {sl_is_within : Array (Option Value)} {oc_is_within kV_is_within dc_is_within pm_is_within cd_is_within ct_is_within : Value} {f_is_tuple : Addr} {od_is_tuple an_is_tuple : Option Addr} {sl_is_tuple : Array (Option Value)} {oc_is_tuple kV_is_tuple dc_is_tuple pm_is_tuple cd_is_tuple ct_is_tuple : Value} {f_is_lot : Addr} {od_is_lot an_is_lot : Option Addr} {sl_is_lot : Array (Option Value)} {oc_is_lot kV_is_lot dc_is_lot pm_is_lot cd_is_lot ct_is_lot : Value} {f_is_door : Addr} {od_is_door an_is_door : Option Addr} {sl_is_door : Array (Option Value)} {oc_is_door kV_is_door dc_is_door pm_is_door cd_is_door ct_is_door : Value} {f_are_doors : Addr} {od_are_doors an_are_doors : Option Addr} {sl_are_doors : Array (Option Value)} {oc_are_doors kV_are_doors dc_are_doors pm_are_doors cd_are_doors ct_are_doors : Value} {f_House___init__ : Addr} {od_House___init__ an_House___init__ : Option Addr} {sl_House___init__ : Array (Option Value)} {oc_House___init__ kV_House___init__ dc_House___init__ pm_House___init__ cd_House___init__ ct_House___init__ : Value} {f_besides : Addr} {od_besides an_besides : Option Addr} {sl_besides : Array (Option Value)} {oc_besides kV_besides dc_besides pm_besides cd_besides ct_besides : Value} {f_nears : Addr} {od_nears an_nears : Option Addr} {sl_nears : Array (Option Value)} {oc_nears kV_nears dc_nears pm_nears cd_nears ct_nears : Value} {f_is_lot_of : Addr} {od_is_lot_of an_is_lot_of : Option Addr} {sl_is_lot_of : Array (Option Value)} {oc_is_lot_of kV_is_lot_of dc_is_lot_of pm_is_lot_of cd_is_lot_of ct_is_lot_of : Value} {f_check_lot : Addr} {od_check_lot an_check_lot : Option Addr} {sl_check_lot : Array (Option Value)} {oc_check_lot kV_check_lot dc_check_lot pm_check_lot cd_check_lot ct_check_lot : Value} {f_is_row_of : Addr} {od_is_row_of an_is_row_of : Option Addr} {sl_is_row_of : Array (Option Value)} {oc_is_row_of kV_is_row_of dc_is_row_of pm_is_row_of cd_is_row_of ct_is_row_of : Value} {f_check_row : Addr} {od_check_row an_check_row : Option Addr} {sl_check_row : Array (Option Value)} {oc_check_row kV_check_row dc_check_row pm_check_row cd_check_row ct_check_row : Value} {f_spread : Addr} {od_spread an_spread : Option Addr} {sl_spread : Array (Option Value)} {oc_spread kV_spread dc_spread pm_spread cd_spread ct_spread : Value} {f_unsure : Addr} {od_unsure an_unsure : Option Addr} {sl_unsure : Array (Option Value)} {oc_unsure kV_unsure dc_unsure pm_unsure cd_unsure ct_unsure : Value} {f_open_of : Addr} {od_open_of an_open_of : Option Addr} {sl_open_of : Array (Option Value)} {oc_open_of kV_open_of dc_open_of pm_open_of cd_open_of ct_open_of : Value} {f_open_rooms : Addr} {od_open_rooms an_open_rooms : Option Addr} {sl_open_rooms : Array (Option Value)} {oc_open_rooms kV_open_rooms dc_open_rooms pm_open_rooms cd_open_rooms ct_open_rooms : Value} {f_begun : Addr} {od_begun an_begun : Option Addr} {sl_begun : Array (Option Value)} {oc_begun kV_begun dc_begun pm_begun cd_begun ct_begun : Value} {f_sweep_of : Addr} {od_sweep_of an_sweep_of : Option Addr} {sl_sweep_of : Array (Option Value)} {oc_sweep_of kV_sweep_of dc_sweep_of pm_sweep_of cd_sweep_of ct_sweep_of : Value} {f_law_hand : Addr} {od_law_hand an_law_hand : Option Addr} {sl_law_hand : Array (Option Value)} {oc_law_hand kV_law_hand dc_law_hand pm_law_hand cd_law_hand ct_law_hand : Value} {f_law_draw : Addr} {od_law_draw an_law_draw : Option Addr} {sl_law_draw : Array (Option Value)} {oc_law_draw kV_law_draw dc_law_draw pm_law_draw cd_law_draw ct_law_draw : Value} {f_law_any : Addr} {od_law_any an_law_any : Option Addr} {sl_law_any : Array (Option Value)} {oc_law_any kV_law_any dc_law_any pm_law_any cd_law_any ct_law_any : Value} {f_law_mixed : Addr} {od_law_mixed an_law_mixed : Option Addr} {sl_law_mixed : Array (Option Value)} {oc_law_mixed kV_law_mixed dc_law_mixed pm_law_mixed cd_law_mixed ct_law_mixed : Value} {f_law_house : Addr} {od_law_house an_law_house : Option Addr} {sl_law_house : Array (Option Value)} {oc_law_house kV_law_house dc_law_house pm_law_house cd_law_house ct_law_house : Value} {f_law_besides : Addr} {od_law_besides an_law_besides : Option Addr} {sl_law_besides : Array (Option Value)} {oc_law_besides kV_law_besides dc_law_besides pm_law_besides cd_law_besides ct_law_besides : Value} {f_law_reached : Addr} {od_law_reached an_law_reached : Option Addr} {sl_law_reached : Array (Option Value)} {oc_law_reached kV_law_reached dc_law_reached pm_law_reached cd_law_reached ct_law_reached : Value} {f_law_open : Addr} {od_law_open an_law_open : Option Addr} {sl_law_open : Array (Option Value)} {oc_law_open kV_law_open dc_law_open pm_law_open cd_law_open ct_law_open : Value} {f_law_sweep : Addr} {od_law_sweep an_law_sweep : Option Addr} {sl_law_sweep : Array (Option Value)} {oc_law_sweep kV_law_sweep dc_law_sweep pm_law_sweep cd_law_sweep ct_law_sweep : Value} {f_law : Addr} {od_law an_law : Option Addr} {sl_law : Array (Option Value)} {oc_law kV_law dc_law pm_law cd_law ct_law : Value} {t_MOST_ROOMS : Tok}
    (z_abs : PySem.W.nsIn K mainGlobals "abs" = some none)
    (z_all : PySem.W.nsIn K mainGlobals "all" = some none)
    (z_any : PySem.W.nsIn K mainGlobals "any" = some none)
    (z_bool : PySem.W.nsIn K mainGlobals "bool" = some none)
    (z_enumerate : PySem.W.nsIn K mainGlobals "enumerate" = some none)
    (z_int : PySem.W.nsIn K mainGlobals "int" = some none)
    (z_isinstance : PySem.W.nsIn K mainGlobals "isinstance" = some none)
    (z_len : PySem.W.nsIn K mainGlobals "len" = some none)
    (z_list : PySem.W.nsIn K mainGlobals "list" = some none)
    (z_max : PySem.W.nsIn K mainGlobals "max" = some none)
    (z_min : PySem.W.nsIn K mainGlobals "min" = some none)
    (z_range : PySem.W.nsIn K mainGlobals "range" = some none)
    (z_set : PySem.W.nsIn K mainGlobals "set" = some none)
    (z_sorted : PySem.W.nsIn K mainGlobals "sorted" = some none)
    (z_tuple : PySem.W.nsIn K mainGlobals "tuple" = some none)
    (z_zip : PySem.W.nsIn K mainGlobals "zip" = some none)
    (k_MOST_ROOMS : PySem.W.nsIn K mainGlobals "MOST_ROOMS" = some (some (.int 9 t_MOST_ROOMS)))
    (c1_House : PySem.W.nsIn K mainGlobals "House" = some (some (.ref C_House)))
    (c2_House : PySem.W.plainGet K C_House Str.empty = true)
    (c3_House : PySem.W.hasDictIn K C_House = true)
    (c4_House : PySem.W.plainOver K C_House = true)
    (c5_House : PySem.W.findIn K (.ref C_House) "__setattr__" = some (some (.builtin "object.__setattr__")))
    (c6_House : PySem.W.makesIn K C_House = true)
    (c7_House : PySem.W.keepIn K (.ref C_House) = true)
    (nf_House_rooms : PySem.W.findIn K (.ref C_House) "rooms" = some none)
    (nf_House_doors : PySem.W.findIn K (.ref C_House) "doors" = some none)
    (nf_House_looked : PySem.W.findIn K (.ref C_House) "looked" = some none)
    (a_is_integer : PySem.W.nsIn K mainGlobals "is_integer" = some (some (.ref f_is_integer)))
    (l_is_integer : K.lookup f_is_integer = some ⟨oc_is_integer, od_is_integer, .func (PySem.W.fnOf "is_integer" "is_integer" (defArgs st_is_integer) (defBody st_is_integer) (defScope st_is_integer) .none kV_is_integer dc_is_integer pm_is_integer an_is_integer cd_is_integer ct_is_integer), sl_is_integer⟩)
    (e_is_integer : PySem.W.codeIn K cd_is_integer "is_integer" = true)
    (k_is_integer : PySem.W.keepIn K (.ref f_is_integer) = true)
    (a_is_within : PySem.W.nsIn K mainGlobals "is_within" = some (some (.ref f_is_within)))
    (l_is_within : K.lookup f_is_within = some ⟨oc_is_within, od_is_within, .func (PySem.W.fnOf "is_within" "is_within" (defArgs st_is_within) (defBody st_is_within) (defScope st_is_within) .none kV_is_within dc_is_within pm_is_within an_is_within cd_is_within ct_is_within), sl_is_within⟩)
    (e_is_within : PySem.W.codeIn K cd_is_within "is_within" = true)
    (k_is_within : PySem.W.keepIn K (.ref f_is_within) = true)
    (a_is_tuple : PySem.W.nsIn K mainGlobals "is_tuple" = some (some (.ref f_is_tuple)))
    (l_is_tuple : K.lookup f_is_tuple = some ⟨oc_is_tuple, od_is_tuple, .func (PySem.W.fnOf "is_tuple" "is_tuple" (defArgs st_is_tuple) (defBody st_is_tuple) (defScope st_is_tuple) .none kV_is_tuple dc_is_tuple pm_is_tuple an_is_tuple cd_is_tuple ct_is_tuple), sl_is_tuple⟩)
    (e_is_tuple : PySem.W.codeIn K cd_is_tuple "is_tuple" = true)
    (k_is_tuple : PySem.W.keepIn K (.ref f_is_tuple) = true)
    (a_is_lot : PySem.W.nsIn K mainGlobals "is_lot" = some (some (.ref f_is_lot)))
    (l_is_lot : K.lookup f_is_lot = some ⟨oc_is_lot, od_is_lot, .func (PySem.W.fnOf "is_lot" "is_lot" (defArgs st_is_lot) (defBody st_is_lot) (defScope st_is_lot) .none kV_is_lot dc_is_lot pm_is_lot an_is_lot cd_is_lot ct_is_lot), sl_is_lot⟩)
    (e_is_lot : PySem.W.codeIn K cd_is_lot "is_lot" = true)
    (k_is_lot : PySem.W.keepIn K (.ref f_is_lot) = true)
    (a_is_door : PySem.W.nsIn K mainGlobals "is_door" = some (some (.ref f_is_door)))
    (l_is_door : K.lookup f_is_door = some ⟨oc_is_door, od_is_door, .func (PySem.W.fnOf "is_door" "is_door" (defArgs st_is_door) (defBody st_is_door) (defScope st_is_door) .none kV_is_door dc_is_door pm_is_door an_is_door cd_is_door ct_is_door), sl_is_door⟩)
    (e_is_door : PySem.W.codeIn K cd_is_door "is_door" = true)
    (k_is_door : PySem.W.keepIn K (.ref f_is_door) = true)
    (a_are_doors : PySem.W.nsIn K mainGlobals "are_doors" = some (some (.ref f_are_doors)))
    (l_are_doors : K.lookup f_are_doors = some ⟨oc_are_doors, od_are_doors, .func (PySem.W.fnOf "are_doors" "are_doors" (defArgs st_are_doors) (defBody st_are_doors) (defScope st_are_doors) .none kV_are_doors dc_are_doors pm_are_doors an_are_doors cd_are_doors ct_are_doors), sl_are_doors⟩)
    (e_are_doors : PySem.W.codeIn K cd_are_doors "are_doors" = true)
    (k_are_doors : PySem.W.keepIn K (.ref f_are_doors) = true)
    (a_House___init__ : PySem.W.findIn K (.ref C_House) "__init__" = some (some (.ref f_House___init__)))
    (i_House___init__ : PySem.W.isFn K (.ref f_House___init__) = true)
    (l_House___init__ : K.lookup f_House___init__ = some ⟨oc_House___init__, od_House___init__, .func (PySem.W.fnOf "__init__" "House.__init__" (defArgs st_House___init__) (defBody st_House___init__) (defScope st_House___init__) .none kV_House___init__ dc_House___init__ pm_House___init__ an_House___init__ cd_House___init__ ct_House___init__), sl_House___init__⟩)
    (e_House___init__ : PySem.W.codeIn K cd_House___init__ "House.__init__" = true)
    (k_House___init__ : PySem.W.keepIn K (.ref f_House___init__) = true)
    (a_besides : PySem.W.nsIn K mainGlobals "besides" = some (some (.ref f_besides)))
    (l_besides : K.lookup f_besides = some ⟨oc_besides, od_besides, .func (PySem.W.fnOf "besides" "besides" (defArgs st_besides) (defBody st_besides) (defScope st_besides) .none kV_besides dc_besides pm_besides an_besides cd_besides ct_besides), sl_besides⟩)
    (e_besides : PySem.W.codeIn K cd_besides "besides" = true)
    (k_besides : PySem.W.keepIn K (.ref f_besides) = true)
    (a_nears : PySem.W.nsIn K mainGlobals "nears" = some (some (.ref f_nears)))
    (l_nears : K.lookup f_nears = some ⟨oc_nears, od_nears, .func (PySem.W.fnOf "nears" "nears" (defArgs st_nears) (defBody st_nears) (defScope st_nears) .none kV_nears dc_nears pm_nears an_nears cd_nears ct_nears), sl_nears⟩)
    (e_nears : PySem.W.codeIn K cd_nears "nears" = true)
    (k_nears : PySem.W.keepIn K (.ref f_nears) = true)
    (a_is_lot_of : PySem.W.nsIn K mainGlobals "is_lot_of" = some (some (.ref f_is_lot_of)))
    (l_is_lot_of : K.lookup f_is_lot_of = some ⟨oc_is_lot_of, od_is_lot_of, .func (PySem.W.fnOf "is_lot_of" "is_lot_of" (defArgs st_is_lot_of) (defBody st_is_lot_of) (defScope st_is_lot_of) .none kV_is_lot_of dc_is_lot_of pm_is_lot_of an_is_lot_of cd_is_lot_of ct_is_lot_of), sl_is_lot_of⟩)
    (e_is_lot_of : PySem.W.codeIn K cd_is_lot_of "is_lot_of" = true)
    (k_is_lot_of : PySem.W.keepIn K (.ref f_is_lot_of) = true)
    (a_check_lot : PySem.W.nsIn K mainGlobals "check_lot" = some (some (.ref f_check_lot)))
    (l_check_lot : K.lookup f_check_lot = some ⟨oc_check_lot, od_check_lot, .func (PySem.W.fnOf "check_lot" "check_lot" (defArgs st_check_lot) (defBody st_check_lot) (defScope st_check_lot) .none kV_check_lot dc_check_lot pm_check_lot an_check_lot cd_check_lot ct_check_lot), sl_check_lot⟩)
    (e_check_lot : PySem.W.codeIn K cd_check_lot "check_lot" = true)
    (k_check_lot : PySem.W.keepIn K (.ref f_check_lot) = true)
    (a_is_row_of : PySem.W.nsIn K mainGlobals "is_row_of" = some (some (.ref f_is_row_of)))
    (l_is_row_of : K.lookup f_is_row_of = some ⟨oc_is_row_of, od_is_row_of, .func (PySem.W.fnOf "is_row_of" "is_row_of" (defArgs st_is_row_of) (defBody st_is_row_of) (defScope st_is_row_of) .none kV_is_row_of dc_is_row_of pm_is_row_of an_is_row_of cd_is_row_of ct_is_row_of), sl_is_row_of⟩)
    (e_is_row_of : PySem.W.codeIn K cd_is_row_of "is_row_of" = true)
    (k_is_row_of : PySem.W.keepIn K (.ref f_is_row_of) = true)
    (a_check_row : PySem.W.nsIn K mainGlobals "check_row" = some (some (.ref f_check_row)))
    (l_check_row : K.lookup f_check_row = some ⟨oc_check_row, od_check_row, .func (PySem.W.fnOf "check_row" "check_row" (defArgs st_check_row) (defBody st_check_row) (defScope st_check_row) .none kV_check_row dc_check_row pm_check_row an_check_row cd_check_row ct_check_row), sl_check_row⟩)
    (e_check_row : PySem.W.codeIn K cd_check_row "check_row" = true)
    (k_check_row : PySem.W.keepIn K (.ref f_check_row) = true)
    (a_spread : PySem.W.nsIn K mainGlobals "spread" = some (some (.ref f_spread)))
    (l_spread : K.lookup f_spread = some ⟨oc_spread, od_spread, .func (PySem.W.fnOf "spread" "spread" (defArgs st_spread) (defBody st_spread) (defScope st_spread) .none kV_spread dc_spread pm_spread an_spread cd_spread ct_spread), sl_spread⟩)
    (e_spread : PySem.W.codeIn K cd_spread "spread" = true)
    (k_spread : PySem.W.keepIn K (.ref f_spread) = true)
    (a_unsure : PySem.W.nsIn K mainGlobals "unsure" = some (some (.ref f_unsure)))
    (l_unsure : K.lookup f_unsure = some ⟨oc_unsure, od_unsure, .func (PySem.W.fnOf "unsure" "unsure" (defArgs st_unsure) (defBody st_unsure) (defScope st_unsure) .none kV_unsure dc_unsure pm_unsure an_unsure cd_unsure ct_unsure), sl_unsure⟩)
    (e_unsure : PySem.W.codeIn K cd_unsure "unsure" = true)
    (k_unsure : PySem.W.keepIn K (.ref f_unsure) = true)
    (a_open_of : PySem.W.nsIn K mainGlobals "open_of" = some (some (.ref f_open_of)))
    (l_open_of : K.lookup f_open_of = some ⟨oc_open_of, od_open_of, .func (PySem.W.fnOf "open_of" "open_of" (defArgs st_open_of) (defBody st_open_of) (defScope st_open_of) .none kV_open_of dc_open_of pm_open_of an_open_of cd_open_of ct_open_of), sl_open_of⟩)
    (e_open_of : PySem.W.codeIn K cd_open_of "open_of" = true)
    (k_open_of : PySem.W.keepIn K (.ref f_open_of) = true)
    (a_open_rooms : PySem.W.nsIn K mainGlobals "open_rooms" = some (some (.ref f_open_rooms)))
    (l_open_rooms : K.lookup f_open_rooms = some ⟨oc_open_rooms, od_open_rooms, .func (PySem.W.fnOf "open_rooms" "open_rooms" (defArgs st_open_rooms) (defBody st_open_rooms) (defScope st_open_rooms) .none kV_open_rooms dc_open_rooms pm_open_rooms an_open_rooms cd_open_rooms ct_open_rooms), sl_open_rooms⟩)
    (e_open_rooms : PySem.W.codeIn K cd_open_rooms "open_rooms" = true)
    (k_open_rooms : PySem.W.keepIn K (.ref f_open_rooms) = true)
    (a_begun : PySem.W.nsIn K mainGlobals "begun" = some (some (.ref f_begun)))
    (l_begun : K.lookup f_begun = some ⟨oc_begun, od_begun, .func (PySem.W.fnOf "begun" "begun" (defArgs st_begun) (defBody st_begun) (defScope st_begun) .none kV_begun dc_begun pm_begun an_begun cd_begun ct_begun), sl_begun⟩)
    (e_begun : PySem.W.codeIn K cd_begun "begun" = true)
    (k_begun : PySem.W.keepIn K (.ref f_begun) = true)
    (a_sweep_of : PySem.W.nsIn K mainGlobals "sweep_of" = some (some (.ref f_sweep_of)))
    (l_sweep_of : K.lookup f_sweep_of = some ⟨oc_sweep_of, od_sweep_of, .func (PySem.W.fnOf "sweep_of" "sweep_of" (defArgs st_sweep_of) (defBody st_sweep_of) (defScope st_sweep_of) .none kV_sweep_of dc_sweep_of pm_sweep_of an_sweep_of cd_sweep_of ct_sweep_of), sl_sweep_of⟩)
    (e_sweep_of : PySem.W.codeIn K cd_sweep_of "sweep_of" = true)
    (k_sweep_of : PySem.W.keepIn K (.ref f_sweep_of) = true)
    (a_law_hand : PySem.W.nsIn K mainGlobals "_law_hand" = some (some (.ref f_law_hand)))
    (l_law_hand : K.lookup f_law_hand = some ⟨oc_law_hand, od_law_hand, .func (PySem.W.fnOf "_law_hand" "_law_hand" (defArgs st_law_hand) (defBody st_law_hand) (defScope st_law_hand) .none kV_law_hand dc_law_hand pm_law_hand an_law_hand cd_law_hand ct_law_hand), sl_law_hand⟩)
    (e_law_hand : PySem.W.codeIn K cd_law_hand "_law_hand" = true)
    (k_law_hand : PySem.W.keepIn K (.ref f_law_hand) = true)
    (a_law_draw : PySem.W.nsIn K mainGlobals "_law_draw" = some (some (.ref f_law_draw)))
    (l_law_draw : K.lookup f_law_draw = some ⟨oc_law_draw, od_law_draw, .func (PySem.W.fnOf "_law_draw" "_law_draw" (defArgs st_law_draw) (defBody st_law_draw) (defScope st_law_draw) .none kV_law_draw dc_law_draw pm_law_draw an_law_draw cd_law_draw ct_law_draw), sl_law_draw⟩)
    (e_law_draw : PySem.W.codeIn K cd_law_draw "_law_draw" = true)
    (k_law_draw : PySem.W.keepIn K (.ref f_law_draw) = true)
    (a_law_any : PySem.W.nsIn K mainGlobals "_law_any" = some (some (.ref f_law_any)))
    (l_law_any : K.lookup f_law_any = some ⟨oc_law_any, od_law_any, .func (PySem.W.fnOf "_law_any" "_law_any" (defArgs st_law_any) (defBody st_law_any) (defScope st_law_any) .none kV_law_any dc_law_any pm_law_any an_law_any cd_law_any ct_law_any), sl_law_any⟩)
    (e_law_any : PySem.W.codeIn K cd_law_any "_law_any" = true)
    (k_law_any : PySem.W.keepIn K (.ref f_law_any) = true)
    (a_law_mixed : PySem.W.nsIn K mainGlobals "_law_mixed" = some (some (.ref f_law_mixed)))
    (l_law_mixed : K.lookup f_law_mixed = some ⟨oc_law_mixed, od_law_mixed, .func (PySem.W.fnOf "_law_mixed" "_law_mixed" (defArgs st_law_mixed) (defBody st_law_mixed) (defScope st_law_mixed) .none kV_law_mixed dc_law_mixed pm_law_mixed an_law_mixed cd_law_mixed ct_law_mixed), sl_law_mixed⟩)
    (e_law_mixed : PySem.W.codeIn K cd_law_mixed "_law_mixed" = true)
    (k_law_mixed : PySem.W.keepIn K (.ref f_law_mixed) = true)
    (a_law_house : PySem.W.nsIn K mainGlobals "_law_house" = some (some (.ref f_law_house)))
    (l_law_house : K.lookup f_law_house = some ⟨oc_law_house, od_law_house, .func (PySem.W.fnOf "_law_house" "_law_house" (defArgs st_law_house) (defBody st_law_house) (defScope st_law_house) .none kV_law_house dc_law_house pm_law_house an_law_house cd_law_house ct_law_house), sl_law_house⟩)
    (e_law_house : PySem.W.codeIn K cd_law_house "_law_house" = true)
    (k_law_house : PySem.W.keepIn K (.ref f_law_house) = true)
    (a_law_besides : PySem.W.nsIn K mainGlobals "_law_besides" = some (some (.ref f_law_besides)))
    (l_law_besides : K.lookup f_law_besides = some ⟨oc_law_besides, od_law_besides, .func (PySem.W.fnOf "_law_besides" "_law_besides" (defArgs st_law_besides) (defBody st_law_besides) (defScope st_law_besides) .none kV_law_besides dc_law_besides pm_law_besides an_law_besides cd_law_besides ct_law_besides), sl_law_besides⟩)
    (e_law_besides : PySem.W.codeIn K cd_law_besides "_law_besides" = true)
    (k_law_besides : PySem.W.keepIn K (.ref f_law_besides) = true)
    (a_law_reached : PySem.W.nsIn K mainGlobals "_law_reached" = some (some (.ref f_law_reached)))
    (l_law_reached : K.lookup f_law_reached = some ⟨oc_law_reached, od_law_reached, .func (PySem.W.fnOf "_law_reached" "_law_reached" (defArgs st_law_reached) (defBody st_law_reached) (defScope st_law_reached) .none kV_law_reached dc_law_reached pm_law_reached an_law_reached cd_law_reached ct_law_reached), sl_law_reached⟩)
    (e_law_reached : PySem.W.codeIn K cd_law_reached "_law_reached" = true)
    (k_law_reached : PySem.W.keepIn K (.ref f_law_reached) = true)
    (a_law_open : PySem.W.nsIn K mainGlobals "_law_open" = some (some (.ref f_law_open)))
    (l_law_open : K.lookup f_law_open = some ⟨oc_law_open, od_law_open, .func (PySem.W.fnOf "_law_open" "_law_open" (defArgs st_law_open) (defBody st_law_open) (defScope st_law_open) .none kV_law_open dc_law_open pm_law_open an_law_open cd_law_open ct_law_open), sl_law_open⟩)
    (e_law_open : PySem.W.codeIn K cd_law_open "_law_open" = true)
    (k_law_open : PySem.W.keepIn K (.ref f_law_open) = true)
    (a_law_sweep : PySem.W.nsIn K mainGlobals "_law_sweep" = some (some (.ref f_law_sweep)))
    (l_law_sweep : K.lookup f_law_sweep = some ⟨oc_law_sweep, od_law_sweep, .func (PySem.W.fnOf "_law_sweep" "_law_sweep" (defArgs st_law_sweep) (defBody st_law_sweep) (defScope st_law_sweep) .none kV_law_sweep dc_law_sweep pm_law_sweep an_law_sweep cd_law_sweep ct_law_sweep), sl_law_sweep⟩)
    (e_law_sweep : PySem.W.codeIn K cd_law_sweep "_law_sweep" = true)
    (k_law_sweep : PySem.W.keepIn K (.ref f_law_sweep) = true)
    (a_law : PySem.W.nsIn K mainGlobals "law" = some (some (.ref f_law)))
    (l_law : K.lookup f_law = some ⟨oc_law, od_law, .func (PySem.W.fnOf "law" "law" (defArgs st_law) (defBody st_law) (defScope st_law) .none kV_law dc_law pm_law an_law cd_law ct_law), sl_law⟩)
    (e_law : PySem.W.codeIn K cd_law "law" = true)
    (k_law : PySem.W.keepIn K (.ref f_law) = true)
    : ∃ fd : FuncData, (∀ (s : Shared) (v : Value), BindsTo s fd ⟨[v], []⟩ [("script", v)]) ∧ ∀ base : Heap, K.In base → base.Ns mainGlobals mg → FnOk l.prog w K mg base CX0 7 fa fd ["script"] (Sp1 (fun (_ : Nd (Scr K)) => True) (fun _ (b : Bool) => b = true)) := by
  have e := hfa.symm.trans (PySem.W.mg_of X G a_law)
  cases e
  have F_is_integer := fun_mk (st := st_is_integer) l_is_integer e_is_integer k_is_integer
  have b_is_integer := F_is_integer.binds (ps := ["thing"]) fun _ _ _ _ _ _ us hl => match us, hl with | [_], _ => rfl
  have F_is_within := fun_mk (st := st_is_within) l_is_within e_is_within k_is_within
  have b_is_within := F_is_within.binds (ps := ["thing", "low", "high"]) fun _ _ _ _ _ _ us hl => match us, hl with | [_, _, _], _ => rfl
  have F_is_tuple := fun_mk (st := st_is_tuple) l_is_tuple e_is_tuple k_is_tuple
  have b_is_tuple := F_is_tuple.binds (ps := ["thing", "least", "most"]) fun _ _ _ _ _ _ us hl => match us, hl with | [_, _, _], _ => rfl
  have F_is_lot := fun_mk (st := st_is_lot) l_is_lot e_is_lot k_is_lot
  have b_is_lot := F_is_lot.binds (ps := ["thing", "many"]) fun _ _ _ _ _ _ us hl => match us, hl with | [_, _], _ => rfl
  have F_is_door := fun_mk (st := st_is_door) l_is_door e_is_door k_is_door
  have b_is_door := F_is_door.binds (ps := ["rooms", "thing"]) fun _ _ _ _ _ _ us hl => match us, hl with | [_, _], _ => rfl
  have F_are_doors := fun_mk (st := st_are_doors) l_are_doors e_are_doors k_are_doors
  have b_are_doors := F_are_doors.binds (ps := ["rooms", "thing"]) fun _ _ _ _ _ _ us hl => match us, hl with | [_, _], _ => rfl
  have F_House___init__ := fun_mk (st := st_House___init__) l_House___init__ e_House___init__ k_House___init__
  have b_House___init__ := F_House___init__.binds (ps := ["self", "rooms", "doors"]) fun _ _ _ _ _ _ us hl => match us, hl with | [_, _, _], _ => rfl
  have F_besides := fun_mk (st := st_besides) l_besides e_besides k_besides
  have b_besides := F_besides.binds (ps := ["house"]) fun _ _ _ _ _ _ us hl => match us, hl with | [_], _ => rfl
  have F_nears := fun_mk (st := st_nears) l_nears e_nears k_nears
  have b_nears := F_nears.binds (ps := ["house"]) fun _ _ _ _ _ _ us hl => match us, hl with | [_], _ => rfl
  have F_is_lot_of := fun_mk (st := st_is_lot_of) l_is_lot_of e_is_lot_of k_is_lot_of
  have b_is_lot_of := F_is_lot_of.binds (ps := ["house", "thing"]) fun _ _ _ _ _ _ us hl => match us, hl with | [_, _], _ => rfl
  have F_check_lot := fun_mk (st := st_check_lot) l_check_lot e_check_lot k_check_lot
  have b_check_lot := F_check_lot.binds (ps := ["house", "lot"]) fun _ _ _ _ _ _ us hl => match us, hl with | [_, _], _ => rfl
  have F_is_row_of := fun_mk (st := st_is_row_of) l_is_row_of e_is_row_of k_is_row_of
  have b_is_row_of := F_is_row_of.binds (ps := ["house", "thing"]) fun _ _ _ _ _ _ us hl => match us, hl with | [_, _], _ => rfl
  have F_check_row := fun_mk (st := st_check_row) l_check_row e_check_row k_check_row
  have b_check_row := F_check_row.binds (ps := ["house", "row"]) fun _ _ _ _ _ _ us hl => match us, hl with | [_, _], _ => rfl
  have F_spread := fun_mk (st := st_spread) l_spread e_spread k_spread
  have b_spread := F_spread.binds (ps := ["house", "rooms", "barred"]) fun _ _ _ _ _ _ us hl => match us, hl with | [_, _, _], _ => rfl
  have F_unsure := fun_mk (st := st_unsure) l_unsure e_unsure k_unsure
  have b_unsure := F_unsure.binds (ps := ["house", "sweep"]) fun _ _ _ _ _ _ us hl => match us, hl with | [_, _], _ => rfl
  have F_open_of := fun_mk (st := st_open_of) l_open_of e_open_of k_open_of
  have b_open_of := F_open_of.binds (ps := ["house", "lot"]) fun _ _ _ _ _ _ us hl => match us, hl with | [_, _], _ => rfl
  have F_open_rooms := fun_mk (st := st_open_rooms) l_open_rooms e_open_rooms k_open_rooms
  have b_open_rooms := F_open_rooms.binds (ps := ["house", "lot"]) fun _ _ _ _ _ _ us hl => match us, hl with | [_, _], _ => rfl
  have F_begun := fun_mk (st := st_begun) l_begun e_begun k_begun
  have b_begun := F_begun.binds (ps := ["row", "at"]) fun _ _ _ _ _ _ us hl => match us, hl with | [_, _], _ => rfl
  have F_sweep_of := fun_mk (st := st_sweep_of) l_sweep_of e_sweep_of k_sweep_of
  have b_sweep_of := F_sweep_of.binds (ps := ["house", "row"]) fun _ _ _ _ _ _ us hl => match us, hl with | [_, _], _ => rfl
  have F_law_hand := fun_mk (st := st_law_hand) l_law_hand e_law_hand k_law_hand
  have b_law_hand := F_law_hand.binds (ps := ["script"]) fun _ _ _ _ _ _ us hl => match us, hl with | [_], _ => rfl
  have F_law_draw := fun_mk (st := st_law_draw) l_law_draw e_law_draw k_law_draw
  have b_law_draw := F_law_draw.binds (ps := ["hand", "many"]) fun _ _ _ _ _ _ us hl => match us, hl with | [_, _], _ => rfl
  have F_law_any := fun_mk (st := st_law_any) l_law_any e_law_any k_law_any
  have b_law_any := F_law_any.binds (ps := ["hand", "things"]) fun _ _ _ _ _ _ us hl => match us, hl with | [_, _], _ => rfl
  have F_law_mixed := fun_mk (st := st_law_mixed) l_law_mixed e_law_mixed k_law_mixed
  have b_law_mixed := F_law_mixed.binds (ps := ["hand", "many"]) fun _ _ _ _ _ _ us hl => match us, hl with | [_, _], _ => rfl
  have F_law_house := fun_mk (st := st_law_house) l_law_house e_law_house k_law_house
  have b_law_house := F_law_house.binds (ps := ["hand", "most"]) fun _ _ _ _ _ _ us hl => match us, hl with | [_, _], _ => rfl
  have F_law_besides := fun_mk (st := st_law_besides) l_law_besides e_law_besides k_law_besides
  have b_law_besides := F_law_besides.binds (ps := ["rooms", "doors"]) fun _ _ _ _ _ _ us hl => match us, hl with | [_, _], _ => rfl
  have F_law_reached := fun_mk (st := st_law_reached) l_law_reached e_law_reached k_law_reached
  have b_law_reached := F_law_reached.binds (ps := ["besides_v", "firsts", "barred"]) fun _ _ _ _ _ _ us hl => match us, hl with | [_, _, _], _ => rfl
  have F_law_open := fun_mk (st := st_law_open) l_law_open e_law_open k_law_open
  have b_law_open := F_law_open.binds (ps := ["besides_v", "lot"]) fun _ _ _ _ _ _ us hl => match us, hl with | [_, _], _ => rfl
  have F_law_sweep := fun_mk (st := st_law_sweep) l_law_sweep e_law_sweep k_law_sweep
  have b_law_sweep := F_law_sweep.binds (ps := ["besides_v", "row"]) fun _ _ _ _ _ _ us hl => match us, hl with | [_, _], _ => rfl
  have F_law := fun_mk (st := st_law) l_law e_law k_law
  have b_law := F_law.binds (ps := ["script"]) fun _ _ _ _ _ _ us hl => match us, hl with | [_], _ => rfl
  let T : Ctx K mg := {
    n_abs := PySem.W.mg_none_of X G z_abs
    n_all := PySem.W.mg_none_of X G z_all
    n_any := PySem.W.mg_none_of X G z_any
    n_bool := PySem.W.mg_none_of X G z_bool
    n_enumerate := PySem.W.mg_none_of X G z_enumerate
    n_int := PySem.W.mg_none_of X G z_int
    n_isinstance := PySem.W.mg_none_of X G z_isinstance
    n_len := PySem.W.mg_none_of X G z_len
    n_list := PySem.W.mg_none_of X G z_list
    n_max := PySem.W.mg_none_of X G z_max
    n_min := PySem.W.mg_none_of X G z_min
    n_range := PySem.W.mg_none_of X G z_range
    n_set := PySem.W.mg_none_of X G z_set
    n_sorted := PySem.W.mg_none_of X G z_sorted
    n_tuple := PySem.W.mg_none_of X G z_tuple
    n_zip := PySem.W.mg_none_of X G z_zip
    c_MOST_ROOMS := ⟨_, PySem.W.mg_of X G k_MOST_ROOMS⟩
    C_House := C_House
    m_House := PySem.W.mg_of X G c1_House
    cl_House := ⟨c2_House, c3_House, c4_House, c5_House⟩
    na_House_rooms := nf_House_rooms
    na_House_doors := nf_House_doors
    na_House_looked := nf_House_looked
    a_is_integer := f_is_integer
    fd_is_integer := _
    F_is_integer := F_is_integer
    b_is_integer := b_is_integer
    m_is_integer := PySem.W.mg_of X G a_is_integer
    a_is_within := f_is_within
    fd_is_within := _
    F_is_within := F_is_within
    b_is_within := b_is_within
    m_is_within := PySem.W.mg_of X G a_is_within
    a_is_tuple := f_is_tuple
    fd_is_tuple := _
    F_is_tuple := F_is_tuple
    b_is_tuple := b_is_tuple
    m_is_tuple := PySem.W.mg_of X G a_is_tuple
    a_is_lot := f_is_lot
    fd_is_lot := _
    F_is_lot := F_is_lot
    b_is_lot := b_is_lot
    m_is_lot := PySem.W.mg_of X G a_is_lot
    a_is_door := f_is_door
    fd_is_door := _
    F_is_door := F_is_door
    b_is_door := b_is_door
    m_is_door := PySem.W.mg_of X G a_is_door
    a_are_doors := f_are_doors
    fd_are_doors := _
    F_are_doors := F_are_doors
    b_are_doors := b_are_doors
    m_are_doors := PySem.W.mg_of X G a_are_doors
    a_House___init__ := f_House___init__
    fd_House___init__ := _
    F_House___init__ := F_House___init__
    b_House___init__ := b_House___init__
    mk_House := ⟨c6_House, a_House___init__, i_House___init__, c7_House⟩
    a_besides := f_besides
    fd_besides := _
    F_besides := F_besides
    b_besides := b_besides
    m_besides := PySem.W.mg_of X G a_besides
    a_nears := f_nears
    fd_nears := _
    F_nears := F_nears
    b_nears := b_nears
    m_nears := PySem.W.mg_of X G a_nears
    a_is_lot_of := f_is_lot_of
    fd_is_lot_of := _
    F_is_lot_of := F_is_lot_of
    b_is_lot_of := b_is_lot_of
    m_is_lot_of := PySem.W.mg_of X G a_is_lot_of
    a_check_lot := f_check_lot
    fd_check_lot := _
    F_check_lot := F_check_lot
    b_check_lot := b_check_lot
    m_check_lot := PySem.W.mg_of X G a_check_lot
    a_is_row_of := f_is_row_of
    fd_is_row_of := _
    F_is_row_of := F_is_row_of
    b_is_row_of := b_is_row_of
    m_is_row_of := PySem.W.mg_of X G a_is_row_of
    a_check_row := f_check_row
    fd_check_row := _
    F_check_row := F_check_row
    b_check_row := b_check_row
    m_check_row := PySem.W.mg_of X G a_check_row
    a_spread := f_spread
    fd_spread := _
    F_spread := F_spread
    b_spread := b_spread
    m_spread := PySem.W.mg_of X G a_spread
    a_unsure := f_unsure
    fd_unsure := _
    F_unsure := F_unsure
    b_unsure := b_unsure
    m_unsure := PySem.W.mg_of X G a_unsure
    a_open_of := f_open_of
    fd_open_of := _
    F_open_of := F_open_of
    b_open_of := b_open_of
    m_open_of := PySem.W.mg_of X G a_open_of
    a_open_rooms := f_open_rooms
    fd_open_rooms := _
    F_open_rooms := F_open_rooms
    b_open_rooms := b_open_rooms
    m_open_rooms := PySem.W.mg_of X G a_open_rooms
    a_begun := f_begun
    fd_begun := _
    F_begun := F_begun
    b_begun := b_begun
    m_begun := PySem.W.mg_of X G a_begun
    a_sweep_of := f_sweep_of
    fd_sweep_of := _
    F_sweep_of := F_sweep_of
    b_sweep_of := b_sweep_of
    m_sweep_of := PySem.W.mg_of X G a_sweep_of
    a_law_hand := f_law_hand
    fd_law_hand := _
    F_law_hand := F_law_hand
    b_law_hand := b_law_hand
    m_law_hand := PySem.W.mg_of X G a_law_hand
    a_law_draw := f_law_draw
    fd_law_draw := _
    F_law_draw := F_law_draw
    b_law_draw := b_law_draw
    m_law_draw := PySem.W.mg_of X G a_law_draw
    a_law_any := f_law_any
    fd_law_any := _
    F_law_any := F_law_any
    b_law_any := b_law_any
    m_law_any := PySem.W.mg_of X G a_law_any
    a_law_mixed := f_law_mixed
    fd_law_mixed := _
    F_law_mixed := F_law_mixed
    b_law_mixed := b_law_mixed
    m_law_mixed := PySem.W.mg_of X G a_law_mixed
    a_law_house := f_law_house
    fd_law_house := _
    F_law_house := F_law_house
    b_law_house := b_law_house
    m_law_house := PySem.W.mg_of X G a_law_house
    a_law_besides := f_law_besides
    fd_law_besides := _
    F_law_besides := F_law_besides
    b_law_besides := b_law_besides
    m_law_besides := PySem.W.mg_of X G a_law_besides
    a_law_reached := f_law_reached
    fd_law_reached := _
    F_law_reached := F_law_reached
    b_law_reached := b_law_reached
    m_law_reached := PySem.W.mg_of X G a_law_reached
    a_law_open := f_law_open
    fd_law_open := _
    F_law_open := F_law_open
    b_law_open := b_law_open
    m_law_open := PySem.W.mg_of X G a_law_open
    a_law_sweep := f_law_sweep
    fd_law_sweep := _
    F_law_sweep := F_law_sweep
    b_law_sweep := b_law_sweep
    m_law_sweep := PySem.W.mg_of X G a_law_sweep
    a_law := fa
    fd_law := _
    F_law := F_law
    b_law := b_law
    m_law := PySem.W.mg_of X G a_law }
  exact ⟨PySem.W.fnOf "law" "law" (defArgs st_law) (defBody st_law) (defScope st_law) .none kV_law dc_law pm_law an_law cd_law ct_law, fun s v => .of_eq rfl, fun base _ _ => ok_law (P := l.prog) (w := w) (base := base) T⟩
theorem neat_only {H : Hp} (h : Only H) : Neat H := ⟨fun p C dx r t l e => by
    rcases h p with z | ⟨o, xs, z⟩ <;> (rw [z] at e; cases e), fun p p2 C C2 dx dx2 r r2 t t2 l e _ => by
    rcases h p with z | ⟨o, xs, z⟩ <;> (rw [z] at e; cases e)⟩
theorem walk {l : PySem.W.OpenLaw} {q : Program} {loose : List Str} {XP : (Str → Option Value) → Heap → Prop} {YP : World → Heap → Prop} {d : DefRec} {K : Params → PySem.W.Frag} (hn : l.most = some 63) (hdf : d.params.defaults = [])
    (hY : ∀ (w : World) (h : Heap), YP w h → (K w.params).In h)
    (F : ∀ (w : World) (mg : Str → Option Value) (fa : Addr) (h : Heap), (K w.params).In h → h.Ns mainGlobals mg → mg d.name = some (.ref fa) →
      ∃ fd : FuncData, (∀ (s : Shared) (u : Value), BindsTo s fd ⟨[u], []⟩ [("script", u)]) ∧ ∀ base : Heap, (K w.params).In base → base.Ns mainGlobals mg → FnOk l.prog w (K w.params) mg base CX0 7 fa fd ["script"] (Sp1 (fun (_ : Nd (Scr (K w.params))) => True) (fun _ (b : Bool) => b = true))) :
    PySem.W.WalkO q loose XP YP l.row.toRowW d [] (fun f vs => PySem.call f vs) :=
  L2.walk_of (n := 63) (k := 7) (x := "script") (CX := fun _ => CX0) (sp := fun w => Sp1 (fun (_ : Nd (Scr (K w.params))) => True) (fun _ (b : Bool) => b = true)) hn (by decide) hdf ⟨rfl, by decide, by decide⟩ hY F (fun _ H a ns hl hO hS => ⟨.ref a, ⟨⟨ns⟩⟩, rfl, ⟨⟨a, rfl, hS, hl⟩, neat_only hO⟩, trivial, fun d w H2 e _ r => by subst e; exact r⟩) fun _ _ _ _ _ z => z
end Cl
open PySem PySem.W PyProof.Rows in
set_option maxRecDepth 100000 in
set_option maxHeartbeats 0 in
theorem PySem.Challenge.cw_sweptrooms_k21_whole_open_rooms_and_swee_holds : PySem.Challenge.rw_sweptrooms_k21_whole_open_rooms_and_swee.Holds := by
  w_on; o_law; k_head; (case hw => w_witness2)
  k_fill
  refine Cl.walk (l := PySem.Challenge.rw_sweptrooms_k21_whole_open_rooms_and_swee) rfl rfl (fun w h Y => PySem.W.kIn_of Y) ?F
  case F =>
    intro w mg fa h KX G hmg
    refine' Cl.all_mk KX G hmg ?z_abs ?z_all ?z_any ?z_bool ?z_enumerate ?z_int ?z_isinstance ?z_len ?z_list ?z_max ?z_min ?z_range ?z_set ?z_sorted ?z_tuple ?z_zip ?k_MOST_ROOMS ?c1_House ?c2_House ?c3_House ?c4_House ?c5_House ?c6_House ?c7_House ?nf_House_rooms ?nf_House_doors ?nf_House_looked ?a_is_integer ?l_is_integer ?e_is_integer ?k_is_integer ?a_is_within ?l_is_within ?e_is_within ?k_is_within ?a_is_tuple ?l_is_tuple ?e_is_tuple ?k_is_tuple ?a_is_lot ?l_is_lot ?e_is_lot ?k_is_lot ?a_is_door ?l_is_door ?e_is_door ?k_is_door ?a_are_doors ?l_are_doors ?e_are_doors ?k_are_doors ?a_House___init__ ?i_House___init__ ?l_House___init__ ?e_House___init__ ?k_House___init__ ?a_besides ?l_besides ?e_besides ?k_besides ?a_nears ?l_nears ?e_nears ?k_nears ?a_is_lot_of ?l_is_lot_of ?e_is_lot_of ?k_is_lot_of ?a_check_lot ?l_check_lot ?e_check_lot ?k_check_lot ?a_is_row_of ?l_is_row_of ?e_is_row_of ?k_is_row_of ?a_check_row ?l_check_row ?e_check_row ?k_check_row ?a_spread ?l_spread ?e_spread ?k_spread ?a_unsure ?l_unsure ?e_unsure ?k_unsure ?a_open_of ?l_open_of ?e_open_of ?k_open_of ?a_open_rooms ?l_open_rooms ?e_open_rooms ?k_open_rooms ?a_begun ?l_begun ?e_begun ?k_begun ?a_sweep_of ?l_sweep_of ?e_sweep_of ?k_sweep_of ?a_law_hand ?l_law_hand ?e_law_hand ?k_law_hand ?a_law_draw ?l_law_draw ?e_law_draw ?k_law_draw ?a_law_any ?l_law_any ?e_law_any ?k_law_any ?a_law_mixed ?l_law_mixed ?e_law_mixed ?k_law_mixed ?a_law_house ?l_law_house ?e_law_house ?k_law_house ?a_law_besides ?l_law_besides ?e_law_besides ?k_law_besides ?a_law_reached ?l_law_reached ?e_law_reached ?k_law_reached ?a_law_open ?l_law_open ?e_law_open ?k_law_open ?a_law_sweep ?l_law_sweep ?e_law_sweep ?k_law_sweep ?a_law ?l_law ?e_law ?k_law
    (case z_abs => k_is)
    (case z_all => k_is)
    (case z_any => k_is)
    (case z_bool => k_is)
    (case z_enumerate => k_is)
    (case z_int => k_is)
    (case z_isinstance => k_is)
    (case z_len => k_is)
    (case z_list => k_is)
    (case z_max => k_is)
    (case z_min => k_is)
    (case z_range => k_is)
    (case z_set => k_is)
    (case z_sorted => k_is)
    (case z_tuple => k_is)
    (case z_zip => k_is)
    (case k_MOST_ROOMS => k_is)
    (case c1_House => k_is)
    (case c2_House => k_is)
    (case c3_House => k_is)
    (case c4_House => k_is)
    (case c5_House => k_is)
    (case c6_House => k_is)
    (case c7_House => k_is)
    (case nf_House_rooms => k_is)
    (case nf_House_doors => k_is)
    (case nf_House_looked => k_is)
    (case a_is_integer => k_is)
    (case l_is_integer => k_is)
    (case e_is_integer => k_is)
    (case k_is_integer => k_is)
    (case a_is_within => k_is)
    (case l_is_within => k_is)
    (case e_is_within => k_is)
    (case k_is_within => k_is)
    (case a_is_tuple => k_is)
    (case l_is_tuple => k_is)
    (case e_is_tuple => k_is)
    (case k_is_tuple => k_is)
    (case a_is_lot => k_is)
    (case l_is_lot => k_is)
    (case e_is_lot => k_is)
    (case k_is_lot => k_is)
    (case a_is_door => k_is)
    (case l_is_door => k_is)
    (case e_is_door => k_is)
    (case k_is_door => k_is)
    (case a_are_doors => k_is)
    (case l_are_doors => k_is)
    (case e_are_doors => k_is)
    (case k_are_doors => k_is)
    (case a_House___init__ => k_is)
    (case i_House___init__ => k_is)
    (case l_House___init__ => k_is)
    (case e_House___init__ => k_is)
    (case k_House___init__ => k_is)
    (case a_besides => k_is)
    (case l_besides => k_is)
    (case e_besides => k_is)
    (case k_besides => k_is)
    (case a_nears => k_is)
    (case l_nears => k_is)
    (case e_nears => k_is)
    (case k_nears => k_is)
    (case a_is_lot_of => k_is)
    (case l_is_lot_of => k_is)
    (case e_is_lot_of => k_is)
    (case k_is_lot_of => k_is)
    (case a_check_lot => k_is)
    (case l_check_lot => k_is)
    (case e_check_lot => k_is)
    (case k_check_lot => k_is)
    (case a_is_row_of => k_is)
    (case l_is_row_of => k_is)
    (case e_is_row_of => k_is)
    (case k_is_row_of => k_is)
    (case a_check_row => k_is)
    (case l_check_row => k_is)
    (case e_check_row => k_is)
    (case k_check_row => k_is)
    (case a_spread => k_is)
    (case l_spread => k_is)
    (case e_spread => k_is)
    (case k_spread => k_is)
    (case a_unsure => k_is)
    (case l_unsure => k_is)
    (case e_unsure => k_is)
    (case k_unsure => k_is)
    (case a_open_of => k_is)
    (case l_open_of => k_is)
    (case e_open_of => k_is)
    (case k_open_of => k_is)
    (case a_open_rooms => k_is)
    (case l_open_rooms => k_is)
    (case e_open_rooms => k_is)
    (case k_open_rooms => k_is)
    (case a_begun => k_is)
    (case l_begun => k_is)
    (case e_begun => k_is)
    (case k_begun => k_is)
    (case a_sweep_of => k_is)
    (case l_sweep_of => k_is)
    (case e_sweep_of => k_is)
    (case k_sweep_of => k_is)
    (case a_law_hand => k_is)
    (case l_law_hand => k_is)
    (case e_law_hand => k_is)
    (case k_law_hand => k_is)
    (case a_law_draw => k_is)
    (case l_law_draw => k_is)
    (case e_law_draw => k_is)
    (case k_law_draw => k_is)
    (case a_law_any => k_is)
    (case l_law_any => k_is)
    (case e_law_any => k_is)
    (case k_law_any => k_is)
    (case a_law_mixed => k_is)
    (case l_law_mixed => k_is)
    (case e_law_mixed => k_is)
    (case k_law_mixed => k_is)
    (case a_law_house => k_is)
    (case l_law_house => k_is)
    (case e_law_house => k_is)
    (case k_law_house => k_is)
    (case a_law_besides => k_is)
    (case l_law_besides => k_is)
    (case e_law_besides => k_is)
    (case k_law_besides => k_is)
    (case a_law_reached => k_is)
    (case l_law_reached => k_is)
    (case e_law_reached => k_is)
    (case k_law_reached => k_is)
    (case a_law_open => k_is)
    (case l_law_open => k_is)
    (case e_law_open => k_is)
    (case k_law_open => k_is)
    (case a_law_sweep => k_is)
    (case l_law_sweep => k_is)
    (case e_law_sweep => k_is)
    (case k_law_sweep => k_is)
    (case a_law => k_is)
    (case l_law => k_is)
    (case e_law => k_is)
    (case k_law => k_is)
