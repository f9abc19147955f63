import PyProof.Rows.All
import Wide.All
import OpenK.AllK
import Wide.FinOn
import KE.KStateDown
import HandS.ForMost
import HandS.ForExc
import HandS.Deep
import HandS.DeepEq
import HandS.Conv
import HandS.Defaults
import HandS.ExcInit
import PyProof.NeKinds
import HandS.TupAny
import HandS.Wide
import HandS.IsInst
import HandS.RaiseMore
import KE.KExcIs
import HandS.Style
import HandS.Iter
import HandS.Comp
import HandS.Strs
import HandS.Head0
import HandS.Head1
import HandS.Head2
import HandS.HeadHook1
import HandS.HeadHook2
import KE.KExcSuper
import HandS.Nested
import HandS.ExcField
import HandS.ExcValue
import Lean
import HandS.HeadEnd
import HandS.Words
import HandS.WordsExc
import PySem.Challenge.RW_saidenough_k00_errors_keep_their_fields
set_option Elab.async false
set_option linter.all false
set_option maxRecDepth 100000
set_option maxHeartbeats 0
/-! Data by value, a store of cells, and how a heap bears them. -/
namespace Iv
open PySem PySem.Spec PyProof.Rows L2

/-- data by value; a cell stands for an object that is changed -/
inductive D where
  | non | bl (b : Bool) | int (i : Int) | str (x : Str)
  | lst (xs : List D) | tup (xs : List D) | dct (ks vs : List D)
  | ins (c : Nat) (ns : List Str) (vs : List D)
  | scr (xs : List D)
  | cell (n : Nat) | fn (n : Nat) | cls (n : Nat) | ty (n : String)
  deriving Inhabited

/-- what the text's classes and defs stand at -/
structure Gd where
  K : PySem.W.Frag
  cls : Nat → Addr
  fns : Nat → Addr
  hid : List Addr := []

/-- the heap without the cells -/
def off (G : Gd) (r : List Addr) (H : Hp) : Hp := fun a => if a ∈ G.hid ∨ a ∈ r then none else H a
theorem off_some {G : Gd} {r : List Addr} {H : Hp} {a : Addr} {o : HO} : off G r H a = some o ↔ (a ∉ G.hid ∧ a ∉ r) ∧ H a = some o := by
  unfold off
  by_cases h : a ∈ G.hid ∨ a ∈ r
  · rw [if_pos h]
    exact ⟨(fun z => nomatch z), fun z => absurd h (not_or.mpr z.1)⟩
  · rw [if_neg h]
    exact ⟨(fun z => ⟨not_or.mp h, z⟩), fun z => z.2⟩

/-- a key of a dict -/
def kD : Key → D
  | .inl i => .int i
  | .inr x => .str x

/-- classes of exceptions are numbered from 1000 on -/
def isEx (c : Nat) : Bool := Nat.ble 1000 c
mutual
inductive Rep (G : Gd) (r : List Addr) (H : Hp) : V → D → Prop
  | non : Rep G r H .non .non
  | bl {b} : Rep G r H (.bl b) (.bl b)
  | int {i} : Rep G r H (.int i) (.int i)
  | str {x} : Rep G r H (.str x) (.str x)
  | lst {a vs ds} : off G r H a = some (.lst vs) → Reps G r H vs ds → Rep G r H (.ref a) (.lst ds)
  | scr {a vs ds} : SqL G.K (off G r H) a vs → Reps G r H vs ds → Rep G r H (.ref a) (.scr ds)
  | tup {a vs ds} : SqT G.K (off G r H) a vs → Reps G r H vs ds → Rep G r H (.ref a) (.tup ds)
  | dct {a kvs vs} : off G r H a = some (.dK kvs) → Reps G r H (kvs.map (·.2)) vs → Rep G r H (.ref a) (.dct (kvs.map fun p => kD p.1) vs)
  | ins {a c dx fs vs} : isEx c = false → off G r H a = some (.ins (G.cls c) dx fs) → Reps G r H (fs.map (·.2)) vs → Rep G r H (.ref a) (.ins c (fs.map (·.1)) vs)
  | exn {a c dx fs vs} : isEx c = true → off G r H a = some (exo a (G.cls c) (some dx)) → off G r H dx = some (exd dx fs) → Reps G r H (fs.map (·.2)) vs → Rep G r H (.ref a) (.ins c (fs.map (·.1)) vs)
  | exn0 {a c} : isEx c = true → off G r H a = some (exo a (G.cls c) none) → Rep G r H (.ref a) (.ins c [] [])
  | cell {a n} : r[n]? = some a → Rep G r H (.ref a) (.cell n)
  | fn {n} : Rep G r H (.ref (G.fns n)) (.fn n)
  | cls {n} : Rep G r H (.ref (G.cls n)) (.cls n)
  | ty {n} : Rep G r H (.ty n) (.ty n)
inductive Reps (G : Gd) (r : List Addr) (H : Hp) : List V → List D → Prop
  | nil : Reps G r H [] []
  | cons {v d vs ds} : Rep G r H v d → Reps G r H vs ds → Reps G r H (v :: vs) (d :: ds)
end

/-- what happens to a heap with cells: cells are added, all else that stood stands -/
structure Le (r : List Addr) (H : Hp) (r' : List Addr) (H' : Hp) : Prop where
  pre : ∃ new, r' = r ++ new ∧ ∀ b ∈ new, H b = none
  keep : ∀ a o, H a = some o → a ∉ r → H' a = some o
  there : ∀ a ∈ r, H' a ≠ none

section
variable {G : Gd} {r r1 r2 : List Addr} {H H1 H2 : Hp} {M : List D}
theorem Le.off (l : Le r H r1 H1) {a : Addr} {o : HO} (h : off G r H a = some o) : off G r1 H1 a = some o := by
  obtain ⟨⟨h0, h1⟩, h2⟩ := off_some.mp h
  refine off_some.mpr ⟨⟨h0, ?_⟩, l.keep a o h2 h1⟩
  obtain ⟨new, rfl, hn⟩ := l.pre
  intro hm
  rcases List.mem_append.mp hm with hm | hm
  · exact h1 hm
  · rw [hn a hm] at h2
    cases h2
theorem Le.get (l : Le r H r1 H1) {n : Nat} {a : Addr} (h : r[n]? = some a) : r1[n]? = some a := by
  obtain ⟨new, rfl, _⟩ := l.pre
  rw [List.getElem?_append_left (List.getElem?_eq_some_iff.mp h).1]
  exact h
theorem Le.refl (h : ∀ a ∈ r, H a ≠ none) : Le r H r H := ⟨⟨[], by simp, fun _ z => nomatch z⟩, fun _ _ h _ => h, h⟩
theorem Le.trans (l : Le r H r1 H1) (l' : Le r1 H1 r2 H2) : Le r H r2 H2 := by
  obtain ⟨new, rfl, hn⟩ := l.pre
  obtain ⟨new', rfl, hn'⟩ := l'.pre
  refine ⟨⟨new ++ new', by simp, fun b hb => ?_⟩, fun a o h hr => ?_, fun a ha => l'.there a (List.mem_append_left _ ha)⟩
  · rcases List.mem_append.mp hb with hb | hb
    · exact hn b hb
    · have h1 := hn' b hb
      cases e : H b with
      | none => rfl
      | some o =>
        by_cases hr : b ∈ r
        · exact absurd h1 (l.there b hr)
        · rw [l.keep b o e hr] at h1
          cases h1
  · refine l'.keep a o (l.keep a o h hr) fun hm => ?_
    rcases List.mem_append.mp hm with hm | hm
    · exact hr hm
    · rw [hn a hm] at h
      cases h
theorem Le.sqL (l : Le r H r1 H1) {K : PySem.W.Frag} {a : Addr} {xs : List V} (h : SqL K (Iv.off G r H) a xs) : SqL K (Iv.off G r1 H1) a xs := by
  rcases h with (h | ⟨o, h⟩) | h
  · exact .inl (.inl (l.off h))
  · exact .inl (.inr ⟨o, l.off h⟩)
  · exact .inr h
theorem Le.sqT (l : Le r H r1 H1) {K : PySem.W.Frag} {a : Addr} {xs : List V} (h : SqT K (Iv.off G r H) a xs) : SqT K (Iv.off G r1 H1) a xs := by
  rcases h with (h | ⟨o, h⟩) | h
  · exact .inl (.inl (l.off h))
  · exact .inl (.inr ⟨o, l.off h⟩)
  · exact .inr h
theorem sqL_off {K : PySem.W.Frag} {a : Addr} {xs : List V} (h : SqL K (Iv.off G r H) a xs) : SqL K H a xs := by
  rcases h with (h | ⟨o, h⟩) | h
  · exact .inl (.inl (off_some.mp h).2)
  · exact .inl (.inr ⟨o, (off_some.mp h).2⟩)
  · exact .inr h
theorem sqT_off {K : PySem.W.Frag} {a : Addr} {xs : List V} (h : SqT K (Iv.off G r H) a xs) : SqT K H a xs := by
  rcases h with (h | ⟨o, h⟩) | h
  · exact .inl (.inl (off_some.mp h).2)
  · exact .inl (.inr ⟨o, (off_some.mp h).2⟩)
  · exact .inr h
mutual
theorem Rep.le (l : Le r H r1 H1) : ∀ {v : V} {d : D}, Rep G r H v d → Rep G r1 H1 v d
  | _, _, .non => .non
  | _, _, .bl => .bl
  | _, _, .int => .int
  | _, _, .str => .str
  | _, _, .lst h hs => .lst (l.off h) (Reps.le l hs)
  | _, _, .scr h hs => .scr (l.sqL h) (Reps.le l hs)
  | _, _, .tup h hs => .tup (l.sqT h) (Reps.le l hs)
  | _, _, .dct h hs => .dct (l.off h) (Reps.le l hs)
  | _, _, .ins z h hs => .ins z (l.off h) (Reps.le l hs)
  | _, _, .exn z h h2 hs => .exn z (l.off h) (l.off h2) (Reps.le l hs)
  | _, _, .exn0 z h => .exn0 z (l.off h)
  | _, _, .cell h => .cell (l.get h)
  | _, _, .fn => .fn
  | _, _, .cls => .cls
  | _, _, .ty => .ty
theorem Reps.le (l : Le r H r1 H1) : ∀ {vs : List V} {ds : List D}, Reps G r H vs ds → Reps G r1 H1 vs ds
  | _, _, .nil => .nil
  | _, _, .cons h hs => .cons (Rep.le l h) (Reps.le l hs)
end

theorem Reps.length : ∀ {vs : List V} {ds : List D}, Reps G r H vs ds → vs.length = ds.length
  | _, _, .nil => rfl
  | _, _, .cons _ hs => by simp [Reps.length hs]
theorem Reps.get : ∀ {vs : List V} {ds : List D} {i : Nat} {d : D}, Reps G r H vs ds → ds[i]? = some d → ∃ v, vs[i]? = some v ∧ Rep G r H v d
  | _, _, _, _, .nil, e => by simp at e
  | _, _, 0, _, .cons h _, e => by
    simp at e
    subst e
    exact ⟨_, rfl, h⟩
  | _, _, i + 1, d, .cons _ hs, e => by
    obtain ⟨v, h1, h2⟩ := Reps.get (i := i) (d := d) hs (by simpa using e)
    exact ⟨v, by simpa using h1, h2⟩
theorem Reps.get' : ∀ {vs : List V} {ds : List D} {i : Nat} {v : V}, Reps G r H vs ds → vs[i]? = some v → ∃ d, ds[i]? = some d ∧ Rep G r H v d
  | _, _, _, _, .nil, e => by simp at e
  | _, _, 0, _, .cons h _, e => by
    simp at e
    subst e
    exact ⟨_, rfl, h⟩
  | _, _, i + 1, d, .cons _ hs, e => by
    obtain ⟨v, h1, h2⟩ := Reps.get' (i := i) (v := d) hs (by simpa using e)
    exact ⟨v, by simpa using h1, h2⟩
theorem Reps.append : ∀ {vs ws : List V} {ds es : List D}, Reps G r H vs ds → Reps G r H ws es → Reps G r H (vs ++ ws) (ds ++ es)
  | _, _, _, _, .nil, h => h
  | _, _, _, _, .cons h hs, h' => .cons h (Reps.append hs h')
theorem Reps.set {v : V} {d : D} (h : Rep G r H v d) : ∀ {vs : List V} {ds : List D} (i : Nat), Reps G r H vs ds → Reps G r H (vs.set i v) (ds.set i d)
  | _, _, _, .nil => .nil
  | _, _, 0, .cons _ hs => .cons h hs
  | _, _, i + 1, .cons q hs => .cons q (Reps.set h i hs)
theorem Reps.take : ∀ {vs : List V} {ds : List D} (n : Nat), Reps G r H vs ds → Reps G r H (vs.take n) (ds.take n)
  | _, _, 0, _ => .nil
  | _, _, _ + 1, .nil => .nil
  | _, _, n + 1, .cons h hs => .cons h (Reps.take n hs)
theorem Reps.drop : ∀ {vs : List V} {ds : List D} (n : Nat), Reps G r H vs ds → Reps G r H (vs.drop n) (ds.drop n)
  | _, _, 0, h => h
  | _, _, _ + 1, .nil => .nil
  | _, _, n + 1, .cons _ hs => Reps.drop n hs
theorem Reps.erase : ∀ {vs : List V} {ds : List D} (n : Nat), Reps G r H vs ds → Reps G r H (vs.eraseIdx n) (ds.eraseIdx n)
  | _, _, _, .nil => .nil
  | _, _, 0, .cons _ hs => hs
  | _, _, n + 1, .cons h hs => .cons h (Reps.erase n hs)
theorem Reps.rev {vs : List V} {ds : List D} (h : Reps G r H vs ds) : Reps G r H vs.reverse ds.reverse := by
  induction ds generalizing vs with
  | nil => cases h; exact .nil
  | cons d ds ih =>
    cases h with
    | cons h hs =>
      rw [List.reverse_cons, List.reverse_cons]
      exact (ih hs).append (.cons h .nil)
theorem Reps.strs {xs : List Str} : ∀ {ds : List D}, ds = xs.map D.str → Reps G r H (xs.map V.str) ds := by
  intro ds e
  subst e
  induction xs with
  | nil => exact .nil
  | cons x xs ih => exact .cons .str ih
theorem Reps.ints {xs : List Int} : Reps G r H (xs.map V.int) (xs.map D.int) := by
  induction xs with
  | nil => exact .nil
  | cons x xs ih => exact .cons .int ih
theorem Reps.of_strs : ∀ {vs : List V} {xs : List Str}, Reps G r H vs (xs.map D.str) → vs = xs.map V.str
  | _, [], .nil => rfl
  | _, x :: xs, .cons h hs => by
    cases h
    rw [Reps.of_strs hs]
    rfl
theorem Reps.of_ints : ∀ {vs : List V} {xs : List Int}, Reps G r H vs (xs.map D.int) → vs = xs.map V.int
  | _, [], .nil => rfl
  | _, x :: xs, .cons h hs => by
    cases h
    rw [Reps.of_ints hs]
    rfl
theorem Reps.of_bls : ∀ {vs : List V} {xs : List Bool}, Reps G r H vs (xs.map D.bl) → vs = xs.map V.bl
  | _, [], .nil => rfl
  | _, x :: xs, .cons h hs => by
    cases h
    rw [Reps.of_bls hs]
    rfl

/-! ### the cells -/
/-- what stands at a cell -/
def CellAt (G : Gd) (r : List Addr) (H : Hp) (a : Addr) : D → Prop
  | .lst ds => ∃ vs, H a = some (.lst vs) ∧ Reps G r H vs ds
  | .dct ks ds => ∃ kvs, H a = some (.dK kvs) ∧ ks = (kvs.map fun p => kD p.1) ∧ Reps G r H (kvs.map (·.2)) ds
  | .ins c ns ds => ∃ dx fs, H a = some (.ins (G.cls c) dx fs) ∧ ns = fs.map (·.1) ∧ Reps G r H (fs.map (·.2)) ds ∧ isEx c = false
  | _ => False
structure StOk (G : Gd) (r : List Addr) (M : List D) (H : Hp) : Prop where
  len : r.length = M.length
  nd : r.Nodup
  at_ : ∀ (n : Nat) (a : Addr) (o : D), r[n]? = some a → M[n]? = some o → CellAt G r H a o
  hid : ∀ a ∈ G.hid, H a ≠ none ∧ a ∉ r
theorem CellAt.there {a : Addr} {o : D} (h : CellAt G r H a o) : H a ≠ none := by
  cases o with
  | lst ds => obtain ⟨vs, e, _⟩ := h; rw [e]; intro z; cases z
  | dct ks ds => obtain ⟨kvs, e, _⟩ := h; rw [e]; intro z; cases z
  | ins c ns ds => obtain ⟨dx, fs, e, _⟩ := h; rw [e]; intro z; cases z
  | _ => exact h.elim
theorem StOk.get (S : StOk G r M H) {n : Nat} {o : D} (h : M[n]? = some o) : ∃ a, r[n]? = some a ∧ CellAt G r H a o := by
  have hn : n < r.length := by rw [S.len]; exact (List.getElem?_eq_some_iff.mp h).1
  exact ⟨r[n], List.getElem?_eq_getElem hn, S.at_ n _ o (List.getElem?_eq_getElem hn) h⟩
theorem StOk.there (S : StOk G r M H) : ∀ a ∈ r, H a ≠ none := fun a ha => by
  obtain ⟨n, hn, e⟩ := List.getElem_of_mem ha
  have hm : n < M.length := by rw [← S.len]; exact hn
  exact (S.at_ n a M[n] (by rw [List.getElem?_eq_getElem hn, e]) (List.getElem?_eq_getElem hm)).there
theorem StOk.le (S : StOk G r M H) : Le r H r H := .refl S.there
theorem StOk.fresh (S : StOk G r M H) {p : Addr} (h : H p = none) : p ∉ G.hid ∧ p ∉ r := ⟨fun z => (S.hid p z).1 h, fun z => S.there p z h⟩
/-- cells whose contents stand as they stood -/
theorem CellAt.le (l : Le r H r1 H1) {a : Addr} (e : H1 a = H a) {o : D} (h : CellAt G r H a o) : CellAt G r1 H1 a o := by
  cases o with
  | lst ds => obtain ⟨vs, e1, hs⟩ := h; exact ⟨vs, e.trans e1, hs.le l⟩
  | dct ks ds => obtain ⟨kvs, e1, e2, hs⟩ := h; exact ⟨kvs, e.trans e1, e2, hs.le l⟩
  | ins c ns ds => obtain ⟨dx, fs, e1, e2, hs, hx⟩ := h; exact ⟨dx, fs, e.trans e1, e2, hs.le l, hx⟩
  | _ => exact h.elim
end
end Iv
/-! The evaluator's frame: results, posts, soundness of an expression. -/
namespace Iv
open PySem PySem.Spec PyProof.Rows L2

inductive R (α : Type) where
  | ok (a : α) (M : List D)
  | exc (e : D) (M : List D)
  | stk
abbrev Ev (α : Type) := List D → R α
def bnd {α β : Type} (x : Ev α) (f : α → Ev β) : Ev β := fun M => match x M with
  | .ok a M' => f a M'
  | .exc e M' => .exc e M'
  | .stk => .stk
def ret {α : Type} (a : α) : Ev α := fun M => .ok a M
def stuck {α : Type} : Ev α := fun _ => .stk
/-- a value, if there is one -/
def optE {α : Type} (x : Option α) : Ev α := match x with
  | some a => ret a
  | none => stuck
abbrev DEnv := List (Option D)
abbrev DE := DEnv → Ev D
abbrev DT := DEnv → Ev Bool
abbrev DA := DEnv → Ev (List D)

structure EnvOk (G : Gd) (r : List Addr) (H : Hp) (σ : L2.St) (δ : DEnv) : Prop where
  len : σ.length = δ.length
  at_ : ∀ (i : Nat) (d : D), δ[i]? = some (some d) → ∃ v, σ[i]? = some (some v) ∧ Rep G r H v d

/-- an exception: its class, its fields -/
def ExcRep (G : Gd) (r : List Addr) (H : Hp) (cls : Value) (dd : Option Addr) (e : D) : Prop :=
  ∃ c ns vs, e = .ins c ns vs ∧ cls = .ref (G.cls c) ∧ ((dd = none ∧ ns = [] ∧ vs = []) ∨ ∃ dx fs, dd = some dx ∧ off G r H dx = some (exd dx fs) ∧ ns = fs.map (·.1) ∧ Reps G r H (fs.map (·.2)) vs)

/-- what is wanted of a result -/
def Post {α : Type} (G : Gd) (W : WX) (σ : L2.St) (J : α → List D → List Addr → Hp → Prop) (r : List Addr) (H : Hp) : R α → Prop
  | .ok a M' => ∀ r' H', Le r H r' H' → StOk G r' M' H' → J a M' r' H'
  | .exc e M' => ∀ cls dd r' H', Le r H r' H' → StOk G r' M' H' → ExcRep G r' H' cls dd e → W cls dd σ H'
  | .stk => False

section
variable {G : Gd} {W : WX} {σ : L2.St} {r r1 : List Addr} {H H1 : Hp} {M : List D} {δ : DEnv}
theorem Post.mono {α : Type} {J : α → List D → List Addr → Hp → Prop} {x : R α} (l : Le r H r1 H1) (p : Post G W σ J r H x) : Post G W σ J r1 H1 x := by
  cases x with
  | ok a M' => exact fun r' H' l' S => p r' H' (l.trans l') S
  | exc e M' => exact fun c d r' H' l' S e => p c d r' H' (l.trans l') S e
  | stk => exact p
theorem Post.imp {α : Type} {J J' : α → List D → List Addr → Hp → Prop} {x : R α} (p : Post G W σ J r H x)
    (h : ∀ a M' r' H', Le r H r' H' → StOk G r' M' H' → J a M' r' H' → J' a M' r' H') : Post G W σ J' r H x := by
  cases x with
  | ok a M' => exact fun r' H' l' S => h a M' r' H' l' S (p r' H' l' S)
  | exc e M' => exact p
  | stk => exact p
theorem Post.bnd {α β : Type} {J : β → List D → List Addr → Hp → Prop} {m : Ev α} {f : α → Ev β} (p : Post G W σ J r H (bnd m f M)) :
    Post G W σ (fun a M1 r1 H1 => Post G W σ J r1 H1 (f a M1)) r H (m M) := by
  unfold Iv.bnd at p
  cases e : m M with
  | ok a M' =>
    rw [e] at p
    exact fun r' H' l' S => p.mono l'
  | exc e' M' =>
    rw [e] at p
    exact p
  | stk =>
    rw [e] at p
    exact p
theorem EnvOk.le (l : Le r H r1 H1) (E : EnvOk G r H σ δ) : EnvOk G r1 H1 σ δ := ⟨E.len, fun i d h =>
  let ⟨v, h1, h2⟩ := E.at_ i d h
  ⟨v, h1, h2.le l⟩⟩
theorem EnvOk.set {i : Nat} {v : V} {d : D} (h : Rep G r H v d) (E : EnvOk G r H σ δ) : EnvOk G r H (σ.set i (some v)) (δ.set i (some d)) := by
  refine ⟨by simp [E.len], fun j d' hj => ?_⟩
  by_cases hij : i = j
  · subst hij
    rw [List.getElem?_set] at hj
    by_cases hl : i < δ.length
    · simp only [hl, if_true] at hj
      cases hj
      refine ⟨v, ?_, h⟩
      rw [List.getElem?_set]
      simp [E.len, hl]
    · simp [hl] at hj
  · rw [List.getElem?_set_ne hij] at hj ⊢
    exact E.at_ j d' hj
end

/-! ### the semantics' own readings -/
section
variable {X : Cx}
/-- an expression comes to Q -/
def WE (X : Cx) (e : Expr) (σ : L2.St) (H : Hp) (Q : VK) : Prop := ∀ (pins : List (Addr × Obj)) (s : Shared), Inv X pins σ H s → wpAny (model X.prog X.w) X.A (eval e X.env) (EP X pins σ Q) X.xe s
def WT (X : Cx) (e : Expr) (σ : L2.St) (H : Hp) (Q : Bool → Hp → Prop) : Prop := ∀ (pins : List (Addr × Obj)) (s : Shared), Inv X pins σ H s → wpAny (model X.prog X.w) X.A (isTrue e X.env (eval e X.env)) (TP X pins σ Q) X.xe s
def WW (X : Cx) (e : Expr) (σ : L2.St) (H : Hp) (Q : Bool → Hp → Prop) : Prop := ∀ (whole : Sem Value) (pins : List (Addr × Obj)) (s : Shared), Inv X pins σ H s → wpAny (model X.prog X.w) X.A (isTrue e X.env whole) (TP X pins σ Q) X.xe s
def WA (X : Cx) (es : List Expr) (σ : L2.St) (H : Hp) (Q : List V → Hp → Prop) : Prop := ∀ (pos : Pos) (pins : List (Addr × Obj)) (s : Shared), Inv X pins σ H s → wpAny (model X.prog X.w) X.A (spliced (backTo pos (starEach es X.env))) (AP X pins σ Q) X.xe s
theorem peW (e : Expr) : PE X e (WE X e) := ⟨fun pins s _ _ _ I h => h pins s I⟩
theorem ptW (e : Expr) : PT X e (WT X e) := ⟨fun pins s _ _ _ I h => h pins s I⟩
theorem pwW (e : Expr) : PW X e (WW X e) := ⟨fun whole pins s _ _ _ I h => h whole pins s I⟩
theorem paW (es : List Expr) : PA X es (WA X es) := ⟨fun pos pins s _ _ _ I h => h pos pins s I⟩
theorem _root_.L2.PE.we {e : Expr} {t : TE} (h : PE X e t) {σ : L2.St} {H : Hp} {Q : VK} (q : t σ H Q) : WE X e σ H Q := fun pins s I => h.run pins s σ H Q I q
theorem _root_.L2.PT.wt {e : Expr} {t : TT} (h : PT X e t) {σ : L2.St} {H : Hp} {Q : Bool → Hp → Prop} (q : t σ H Q) : WT X e σ H Q := fun pins s I => h.run pins s σ H Q I q
theorem _root_.L2.PW.ww {e : Expr} {t : TT} (h : PW X e t) {σ : L2.St} {H : Hp} {Q : Bool → Hp → Prop} (q : t σ H Q) : WW X e σ H Q := fun whole pins s I => h.run whole pins s σ H Q I q
theorem _root_.L2.PA.wa {es : List Expr} {t : TA} (h : PA X es t) {σ : L2.St} {H : Hp} {Q : List V → Hp → Prop} (q : t σ H Q) : WA X es σ H Q := fun pos pins s I => h.run pos pins s σ H Q I q
theorem WW.wt {e : Expr} {σ : L2.St} {H : Hp} {Q : Bool → Hp → Prop} (h : WW X e σ H Q) : WT X e σ H Q := fun pins s I => h _ pins s I
/-- an operation on values comes to Q, whatever stands in the slots -/
def rW0 (X : Cx) (f : Value → Value → Sem Value) : R2 := fun x y H Q => ∀ (pins : List (Addr × Obj)) (s : Shared) (σ : L2.St) (v u : Value), Inv X pins σ H s → RelV x v → RelV y u → wpAny (model X.prog X.w) X.A (f v u) (EP X pins σ Q) X.xe s
theorem rW0_op (f : Value → Value → Sem Value) : OpR X f (rW0 X f) := fun pins s σ _ _ _ v u _ I rx ry h => h pins s σ v u I rx ry
theorem _root_.L2.OpR.rw {f : Value → Value → Sem Value} {rr : R2} (h : OpR X f rr) {x y : V} {H : Hp} {Q : VK} (q : rr x y H Q) : rW0 X f x y H Q := fun pins s σ v u I rx ry => h pins s σ H x y v u Q I rx ry q
/-- the same, with these slots -/
def rW (X : Cx) (f : Value → Value → Sem Value) (σ : L2.St) : R2 := fun x y H Q => ∀ (pins : List (Addr × Obj)) (s : Shared) (v u : Value), Inv X pins σ H s → RelV x v → RelV y u → wpAny (model X.prog X.w) X.A (f v u) (EP X pins σ Q) X.xe s
theorem WE.bin {op : Operator} {a b : Expr} {pos : Pos} {σ : L2.St} {H : Hp} {Q : VK} (h : WE X a σ H fun x H1 => WE X b σ H1 fun y H2 => rW X (binaryOp op) σ x y H2 Q) : WE X (.BinOp a op b pos) σ H Q := fun _ _ I =>
  wpAny_BinOp (binT (R := fun x y H2 => rW X (binaryOp op) σ x y H2 Q) (peW a) (peW b) I h fun v u s2 _ _ _ I2 rx ry q => q _ s2 v u I2 rx ry)
theorem WE.cmp {op : CmpOp} {a b : Expr} {pos : Pos} {σ : L2.St} {H : Hp} {Q : VK} (hm : behindInMarks op b = false) (h : WE X a σ H fun x H1 => WE X b σ H1 fun y H2 => rW X (compareOp op) σ x y H2 Q) : WE X (.Compare a [op] [b] pos) σ H Q := fun _ _ I =>
  wpAny_Compare1 (binT (R := fun x y H2 => rW X (compareOp op) σ x y H2 Q) (peW a) (peW b) I h fun v u s2 _ _ _ I2 rx ry q => q _ s2 v u I2 rx ry) hm
def uW (X : Cx) (f : Value → Sem Value) : V → Hp → VK → Prop := fun x H Q => ∀ (pins : List (Addr × Obj)) (s : Shared) (σ : L2.St) (v : Value), Inv X pins σ H s → RelV x v → wpAny (model X.prog X.w) X.A (f v) (EP X pins σ Q) X.xe s
theorem uW_op (f : Value → Sem Value) : UnR X f (uW X f) := fun pins s σ _ _ v _ I rx h => h pins s σ v I rx
theorem _root_.L2.UnR.rw {f : Value → Sem Value} {rr : V → Hp → VK → Prop} (h : UnR X f rr) {x : V} {H : Hp} {Q : VK} (q : rr x H Q) : uW X f x H Q := fun pins s σ v I rx => h pins s σ H x v Q I rx q
def cW (X : Cx) (f : Value) : List V → Hp → VK → Prop := fun xs H Q => ∀ (pins : List (Addr × Obj)) (s : Shared) (σ : L2.St) (us : List Value), Inv X pins σ H s → Vals xs us → wpAny (model X.prog X.w) X.A (call f us) (EP X pins σ Q) X.xe s
theorem cW_op (f : Value) : CallR X f (cW X f) := fun pins s σ _ _ us _ I rx h => h pins s σ us I rx
theorem _root_.L2.CallR.rw {f : Value} {rr : List V → Hp → VK → Prop} (h : CallR X f rr) {xs : List V} {H : Hp} {Q : VK} (q : rr xs H Q) : cW X f xs H Q := fun pins s σ us I rx => h pins s σ H xs us Q I rx q
end

/-! ### soundness -/
/-- what follows an expression's value -/
abbrev JE (G : Gd) (Q : VK) : D → List D → List Addr → Hp → Prop := fun d _ r H => ∀ v, Rep G r H v d → Q v H
abbrev JT (Q : Bool → Hp → Prop) : Bool → List D → List Addr → Hp → Prop := fun b _ _ H => Q b H
abbrev JA (G : Gd) (Q : List V → Hp → Prop) : List D → List D → List Addr → Hp → Prop := fun ds _ r H => ∀ vs, Reps G r H vs ds → Q vs H
structure SE (G : Gd) (X : Cx) (e : Expr) (m : DE) : Prop where
  ru : ∀ (W : WX), Takes X W → ∀ (δ : DEnv) (M : List D) (σ : L2.St) (r : List Addr) (H : Hp) (Q : VK),
  StOk G r M H → EnvOk G r H σ δ → Post G W σ (JE G Q) r H (m δ M) → WE X e σ H Q
structure ST (G : Gd) (X : Cx) (e : Expr) (m : DT) : Prop where
  ru : ∀ (W : WX), Takes X W → ∀ (δ : DEnv) (M : List D) (σ : L2.St) (r : List Addr) (H : Hp) (Q : Bool → Hp → Prop),
  StOk G r M H → EnvOk G r H σ δ → Post G W σ (JT Q) r H (m δ M) → WT X e σ H Q
structure SW (G : Gd) (X : Cx) (e : Expr) (m : DT) : Prop where
  ru : ∀ (W : WX), Takes X W → ∀ (δ : DEnv) (M : List D) (σ : L2.St) (r : List Addr) (H : Hp) (Q : Bool → Hp → Prop),
  StOk G r M H → EnvOk G r H σ δ → Post G W σ (JT Q) r H (m δ M) → WW X e σ H Q
structure SA (G : Gd) (X : Cx) (es : List Expr) (m : DA) : Prop where
  ru : ∀ (W : WX), Takes X W → ∀ (δ : DEnv) (M : List D) (σ : L2.St) (r : List Addr) (H : Hp) (Q : List V → Hp → Prop),
  StOk G r M H → EnvOk G r H σ δ → Post G W σ (JA G Q) r H (m δ M) → WA X es σ H Q
theorem SW.st {G : Gd} {X : Cx} {e : Expr} {m : DT} (h : SW G X e m) : ST G X e m := ⟨fun W tk δ M σ r H Q S E p => (h.ru W tk δ M σ r H Q S E p).wt⟩

/-! ### names, constants -/
def dVar (i : Nat) : DE := fun δ => match δ[i]? with
  | some (some d) => ret d
  | _ => stuck
def dLit (d : D) : DE := fun _ => ret d
section
variable {G : Gd} {X : Cx}
theorem SE.var {i : Nat} {x : Str} {pos : Pos} (hN : X.N[i]? = some x) (hv : Vis X.env.scope x) (hd : (x == ("__debug__" : Str)) = false) (hcd : (x == ("__classdict__" : Str)) = false) : SE G X (.Name x pos) (dVar i) := by
  refine ⟨?_⟩
  intro W tk δ M σ r H Q S E p
  unfold dVar at p
  cases e : δ[i]? with
  | none => rw [e] at p; exact p.elim
  | some o =>
    rw [e] at p
    cases o with
    | none => exact p.elim
    | some d =>
      obtain ⟨v, h1, h2⟩ := E.at_ i d e
      exact (pe_var hN hv hd hcd).we ⟨v, h1, p r H S.le S v h2⟩
theorem SE.lit {e : Expr} {v : V} {d : D} (h : PE X e (tC v)) (hr : ∀ r H, Rep G r H v d) : SE G X e (dLit d) := by
  refine ⟨?_⟩
  intro W tk δ M σ r H Q S E p
  exact h.we (p r H S.le S v (hr r H))

/-! ### operations -/
/-- an operation on values is told by g, which looks at the cells -/
def OpP (G : Gd) (X : Cx) (f : Value → Value → Sem Value) (g : List D → D → D → Option D) : Prop := ∀ (r : List Addr) (M : List D) (H : Hp) (x y : V) (d d' z : D) (Q : VK),
  StOk G r M H → Rep G r H x d → Rep G r H y d' → g M d d' = some z → (∀ H' v, Le r H r H' → StOk G r M H' → Rep G r H' v z → Q v H') → rW0 X f x y H Q
/-- an operation on values is told by g, which may change the cells and raise -/
def OpS (G : Gd) (X : Cx) (f : Value → Value → Sem Value) (g : D → D → Ev D) : Prop := ∀ (W : WX), Takes X W → ∀ (σ : L2.St) (r : List Addr) (M : List D) (H : Hp) (x y : V) (d d' : D) (Q : VK),
  StOk G r M H → Rep G r H x d → Rep G r H y d' → Post G W σ (JE G Q) r H (g d d' M) → rW X f σ x y H Q
def pureO (g : List D → D → D → Option D) : D → D → Ev D := fun x y M => optE (g M x y) M
theorem OpP.s {f : Value → Value → Sem Value} {g : List D → D → D → Option D} (h : OpP G X f g) : OpS G X f (pureO g) := by
  intro W tk σ r M H x y d d' Q S h1 h2 p
  unfold pureO at p
  cases e : g M d d' with
  | none =>
    rw [e] at p
    exact p.elim
  | some z =>
    rw [e] at p
    exact fun pins s v u I rx ry => h r M H x y d d' z Q S h1 h2 e (fun H' v l S' R' => p r H' l S' v R') pins s σ v u I rx ry
def dOp (g : D → D → Ev D) (a b : DE) : DE := fun δ => bnd (a δ) fun x => bnd (b δ) fun y => g x y
theorem SE.op2 {e a b : Expr} {f : Value → Value → Sem Value} {g : D → D → Ev D} {ma mb : DE} (hr : ∀ {σ : L2.St} {H : Hp} {Q : VK}, (WE X a σ H fun x H1 => WE X b σ H1 fun y H2 => rW X f σ x y H2 Q) → WE X e σ H Q) (ho : OpS G X f g) (ha : SE G X a ma) (hb : SE G X b mb) : SE G X e (dOp g ma mb) := by
  refine ⟨?_⟩
  intro W tk δ M σ r H Q S E p
  refine hr ?_
  refine ha.ru W tk δ M σ r H _ S E (p.bnd.imp ?_)
  intro d1 M1 r1 H1 L1 S1 h1 v1 R1
  refine hb.ru W tk δ M1 σ r1 H1 _ S1 (E.le L1) (h1.bnd.imp ?_)
  intro d2 M2 r2 H2 L2 S2 h2 v2 R2
  exact ho W tk σ r2 M2 H2 v1 v2 d1 d2 Q S2 (R1.le L2) R2 h2
theorem SE.bin {op : Operator} {a b : Expr} {pos : Pos} {g : D → D → Ev D} {ma mb : DE} (ho : OpS G X (binaryOp op) g) (ha : SE G X a ma) (hb : SE G X b mb) : SE G X (.BinOp a op b pos) (dOp g ma mb) :=
  .op2 WE.bin ho ha hb
theorem SE.cmp {op : CmpOp} {a b : Expr} {pos : Pos} {g : D → D → Ev D} {ma mb : DE} (hm : behindInMarks op b = false) (ho : OpS G X (compareOp op) g) (ha : SE G X a ma) (hb : SE G X b mb) : SE G X (.Compare a [op] [b] pos) (dOp g ma mb) :=
  .op2 (WE.cmp hm) ho ha hb
/-- a test whose value is a truth value -/
def dBool (a : DE) : DT := fun δ => bnd (a δ) fun x => match x with
  | .bl b => ret b
  | _ => stuck
theorem ST.tst {e : Expr} {te : TE} {m : DE} (ht : PT X e (tTest te)) (he : ∀ (W : WX), Takes X W → ∀ (δ : DEnv) (M : List D) (σ : L2.St) (r : List Addr) (H : Hp) (Q : VK),
  StOk G r M H → EnvOk G r H σ δ → Post G W σ (JE G Q) r H (m δ M) → te σ H Q) : ST G X e (dBool m) := by
  refine ⟨?_⟩
  intro W tk δ M σ r H Q S E p
  refine ht.wt ?_
  refine he W tk δ M σ r H _ S E (p.bnd.imp ?_)
  intro d1 M1 r1 H1 L1 S1 h1 v1 R1
  cases R1 with
  | bl => exact ⟨_, rfl, h1 r1 H1 S1.le S1⟩
  | _ => exact h1.elim
end
end Iv
/-! Operations on data: equality. -/
namespace Iv
open PySem PySem.Spec PyProof.Rows L2

mutual
/-- == of plain data -/
def eqv : D → D → Bool
  | .non, .non => true
  | .bl a, .bl b => a == b
  | .bl a, .int j => (if a then 1 else 0) == j
  | .int i, .bl b => i == (if b then 1 else 0)
  | .int i, .int j => i == j
  | .str x, .str y => x == y
  | .lst xs, .lst ys => eqvs xs ys
  | .tup xs, .tup ys => eqvs xs ys
  | _, _ => false
def eqvs : List D → List D → Bool
  | [], [] => true
  | x :: xs, y :: ys => eqv x y && eqvs xs ys
  | _, _ => false
end
mutual
/-- none, bools, ints, texts, lists and tuples of these -/
def plainD : D → Bool
  | .non | .bl _ | .int _ | .str _ => true
  | .lst xs => plainDs xs
  | .tup xs => plainDs xs
  | _ => false
def plainDs : List D → Bool
  | [] => true
  | x :: xs => plainD x && plainDs xs
end
mutual
def depD : D → Nat
  | .lst xs => depDs xs + 1
  | .tup xs => depDs xs + 1
  | _ => 0
def depDs : List D → Nat
  | [] => 0
  | x :: xs => max (depD x) (depDs xs)
end
mutual
theorem eqv_refl : ∀ d : D, plainD d = true → eqv d d = true
  | .non, _ => by simp [eqv]
  | .bl _, _ => by simp [eqv]
  | .int _, _ => by simp [eqv]
  | .str _, _ => by simp [eqv]
  | .lst xs, h => by
    unfold eqv
    exact eqvs_refl xs (by simpa [plainD] using h)
  | .tup xs, h => by
    unfold eqv
    exact eqvs_refl xs (by simpa [plainD] using h)
  | .dct _ _, h => by simp [plainD] at h
  | .ins _ _ _, h => by simp [plainD] at h
  | .scr _, h => by simp [plainD] at h
  | .cell _, h => by simp [plainD] at h
  | .fn _, h => by simp [plainD] at h
  | .cls _, h => by simp [plainD] at h
  | .ty _, h => by simp [plainD] at h
theorem eqvs_refl : ∀ ds : List D, plainDs ds = true → eqvs ds ds = true
  | [], _ => by simp [eqvs]
  | d :: ds, h => by
    obtain ⟨h1, h2⟩ : plainD d = true ∧ plainDs ds = true := by simpa [plainDs] using h
    unfold eqvs
    rw [eqv_refl d h1, eqvs_refl ds h2]
    rfl
end
/-- places of two lists -/
def eqAt (xs ys : List D) (j : Nat) : Bool := match xs[j]?, ys[j]? with
  | some x, some y => eqv x y
  | _, _ => false
theorem eqvs_len : ∀ {xs ys : List D}, xs.length ≠ ys.length → eqvs xs ys = false
  | [], [], h => absurd rfl h
  | [], _ :: _, _ => by simp [eqvs]
  | _ :: _, [], _ => by simp [eqvs]
  | x :: xs, y :: ys, h => by
    unfold eqvs
    rw [eqvs_len (xs := xs) (ys := ys) (by simpa using h)]
    simp
theorem all_range_succ (n : Nat) (e : Nat → Bool) : (List.range (n + 1)).all e = (e 0 && (List.range n).all fun i => e (i + 1)) := by
  rw [List.range_succ_eq_map, List.all_cons, List.all_map]
  rfl
theorem eqvs_all : ∀ {xs ys : List D}, xs.length = ys.length → (List.range xs.length).all (eqAt xs ys) = eqvs xs ys
  | [], [], _ => by simp [eqvs]
  | [], _ :: _, h => by simp at h
  | _ :: _, [], h => by simp at h
  | x :: xs, y :: ys, h => by
    rw [List.length_cons, all_range_succ]
    unfold eqvs
    rw [← eqvs_all (xs := xs) (ys := ys) (by simpa using h)]
    rfl
theorem plain_get {ds : List D} (h : plainDs ds = true) {i : Nat} {d : D} (e : ds[i]? = some d) : plainD d = true := by
  induction ds generalizing i with
  | nil => simp at e
  | cons x xs ih =>
    obtain ⟨h1, h2⟩ : plainD x = true ∧ plainDs xs = true := by simpa [plainDs] using h
    cases i with
    | zero => simp at e; rw [← e]; exact h1
    | succ i => exact ih h2 (by simpa using e)
theorem dep_get {ds : List D} {i : Nat} {d : D} (e : ds[i]? = some d) : depD d ≤ depDs ds := by
  induction ds generalizing i with
  | nil => simp at e
  | cons x xs ih =>
    unfold depDs
    cases i with
    | zero => simp at e; rw [← e]; exact Nat.le_max_left _ _
    | succ i => exact Nat.le_trans (ih (by simpa using e)) (Nat.le_max_right _ _)

/-- how two values compare: the shapes -/
inductive Sh (A : Around) (s : Shared) : Value → Value → Bool → Prop
  | none_none : Sh A s .none .none true
  | none_bool (a2 : Bool) : Sh A s .none (.bool a2) false
  | none_int (a2 : Int) (t2 : Tok) : Sh A s .none (.int a2 t2) false
  | none_str (a2 : Str) (t2 : Tok) : Sh A s .none (.str a2 t2) false
  | bool_none (a1 : Bool) : Sh A s (.bool a1) .none false
  | bool_bool (a1 : Bool) (a2 : Bool) : Sh A s (.bool a1) (.bool a2) (a1 == a2)
  | bool_int (a1 : Bool) (a2 : Int) (t2 : Tok) : Sh A s (.bool a1) (.int a2 t2) ((if a1 then 1 else 0) == a2)
  | bool_str (a1 : Bool) (a2 : Str) (t2 : Tok) : Sh A s (.bool a1) (.str a2 t2) false
  | int_none (a1 : Int) (t1 : Tok) : Sh A s (.int a1 t1) .none false
  | int_bool (a1 : Int) (t1 : Tok) (a2 : Bool) : Sh A s (.int a1 t1) (.bool a2) (a1 == (if a2 then 1 else 0))
  | int_int (a1 : Int) (t1 : Tok) (a2 : Int) (t2 : Tok) : Sh A s (.int a1 t1) (.int a2 t2) (a1 == a2)
  | int_str (a1 : Int) (t1 : Tok) (a2 : Str) (t2 : Tok) : Sh A s (.int a1 t1) (.str a2 t2) false
  | str_none (a1 : Str) (t1 : Tok) : Sh A s (.str a1 t1) .none false
  | str_bool (a1 : Str) (t1 : Tok) (a2 : Bool) : Sh A s (.str a1 t1) (.bool a2) false
  | str_int (a1 : Str) (t1 : Tok) (a2 : Int) (t2 : Tok) : Sh A s (.str a1 t1) (.int a2 t2) false
  | str_str (a1 : Str) (t1 : Tok) (a2 : Str) (t2 : Tok) : Sh A s (.str a1 t1) (.str a2 t2) (a1 == a2)
  | list_none {l : Addr} {its : Array Value} : s.heap.IsList l its → Sh A s (.ref l) .none false
  | none_list {l : Addr} {its : Array Value} : s.heap.IsList l its → Sh A s .none (.ref l) false
  | list_bool {l : Addr} {its : Array Value} (a1 : Bool) : s.heap.IsList l its → Sh A s (.ref l) (.bool a1) false
  | bool_list {l : Addr} {its : Array Value} (a1 : Bool) : s.heap.IsList l its → Sh A s (.bool a1) (.ref l) false
  | list_int {l : Addr} {its : Array Value} (a1 : Int) (t1 : Tok) : s.heap.IsList l its → Sh A s (.ref l) (.int a1 t1) false
  | int_list {l : Addr} {its : Array Value} (a1 : Int) (t1 : Tok) : s.heap.IsList l its → Sh A s (.int a1 t1) (.ref l) false
  | list_str {l : Addr} {its : Array Value} (a1 : Str) (t1 : Tok) : s.heap.IsList l its → Sh A s (.ref l) (.str a1 t1) false
  | str_list {l : Addr} {its : Array Value} (a1 : Str) (t1 : Tok) : s.heap.IsList l its → Sh A s (.str a1 t1) (.ref l) false
  | tuple_none {l : Addr} {its : Array Value} : s.heap.IsTuple l its → Sh A s (.ref l) .none false
  | none_tuple {l : Addr} {its : Array Value} : s.heap.IsTuple l its → Sh A s .none (.ref l) false
  | tuple_bool {l : Addr} {its : Array Value} (a1 : Bool) : s.heap.IsTuple l its → Sh A s (.ref l) (.bool a1) false
  | bool_tuple {l : Addr} {its : Array Value} (a1 : Bool) : s.heap.IsTuple l its → Sh A s (.bool a1) (.ref l) false
  | tuple_int {l : Addr} {its : Array Value} (a1 : Int) (t1 : Tok) : s.heap.IsTuple l its → Sh A s (.ref l) (.int a1 t1) false
  | int_tuple {l : Addr} {its : Array Value} (a1 : Int) (t1 : Tok) : s.heap.IsTuple l its → Sh A s (.int a1 t1) (.ref l) false
  | tuple_str {l : Addr} {its : Array Value} (a1 : Str) (t1 : Tok) : s.heap.IsTuple l its → Sh A s (.ref l) (.str a1 t1) false
  | str_tuple {l : Addr} {its : Array Value} (a1 : Str) (t1 : Tok) : s.heap.IsTuple l its → Sh A s (.str a1 t1) (.ref l) false
  | list_tuple {l b : Addr} {its its2 : Array Value} : s.heap.IsList l its → s.heap.IsTuple b its2 → Sh A s (.ref l) (.ref b) false
  | tuple_list {l b : Addr} {its its2 : Array Value} : s.heap.IsTuple l its → s.heap.IsList b its2 → Sh A s (.ref l) (.ref b) false
  | lists {l b : Addr} {its its2 : Array Value} {e : Nat → Bool} : s.heap.IsList l its → s.heap.IsList b its2 → its.size = its2.size → (∀ j (h1 : j < its.size) (h2 : j < its2.size), SeqAt.EqAt A.in1 s its[j] its2[j] (e j)) → Sh A s (.ref l) (.ref b) ((List.range its.size).all e)
  | lists_len {l b : Addr} {its its2 : Array Value} : s.heap.IsList l its → s.heap.IsList b its2 → (its.size != its2.size) = true → Sh A s (.ref l) (.ref b) false
  | tuples {l b : Addr} {its its2 : Array Value} {e : Nat → Bool} : s.heap.IsTuple l its → s.heap.IsTuple b its2 → (∀ j (h1 : j < its.size) (h2 : j < its2.size), SeqAt.EqAt A.in1 s its[j] its2[j] (e j)) → Sh A s (.ref l) (.ref b) ((List.range (min its.size its2.size)).all e && its.size == its2.size)
theorem Sh.eq {A : Around} {s : Shared} {u v : Value} {b : Bool} (h : Sh A s u v b) (hu : A.units < cLine) (hs : u = v → b = true) : SeqAt.EqAt A s u v b := by
  cases h with
  | none_none => exact SeqAt.EqAt.same _
  | none_bool => exact SeqAt.EqAt.none_bool _
  | none_int => exact SeqAt.EqAt.none_int _ _
  | none_str => exact SeqAt.EqAt.none_str _ _
  | bool_none => exact SeqAt.EqAt.bool_none _
  | bool_bool => exact SeqAt.EqAt.bool_bool _ _
  | bool_int => exact SeqAt.EqAt.bool_int _ _ _
  | bool_str => exact SeqAt.EqAt.bool_str _ _ _
  | int_none => exact SeqAt.EqAt.int_none _ _
  | int_bool => exact SeqAt.EqAt.int_bool _ _ _
  | int_int => exact SeqAt.EqAt.int_int _ _ _ _
  | int_str => exact SeqAt.EqAt.int_str _ _ _ _
  | str_none => exact SeqAt.EqAt.str_none _ _
  | str_bool => exact SeqAt.EqAt.str_bool _ _ _
  | str_int => exact SeqAt.EqAt.str_int _ _ _ _
  | str_str => exact SeqAt.EqAt.str_str _ _ _ _
  | list_none h => exact SeqAt.EqAt.list_none h hu
  | none_list h => exact SeqAt.EqAt.none_list h hu
  | list_bool _ h => exact SeqAt.EqAt.list_bool _ h hu
  | bool_list _ h => exact SeqAt.EqAt.bool_list _ h hu
  | list_int _ _ h => exact SeqAt.EqAt.list_int _ _ h hu
  | int_list _ _ h => exact SeqAt.EqAt.int_list _ _ h hu
  | list_str _ _ h => exact SeqAt.EqAt.list_str _ _ h hu
  | str_list _ _ h => exact SeqAt.EqAt.str_list _ _ h hu
  | tuple_none h => exact SeqAt.EqAt.tuple_none h hu
  | none_tuple h => exact SeqAt.EqAt.none_tuple h hu
  | tuple_bool _ h => exact SeqAt.EqAt.tuple_bool _ h hu
  | bool_tuple _ h => exact SeqAt.EqAt.bool_tuple _ h hu
  | tuple_int _ _ h => exact SeqAt.EqAt.tuple_int _ _ h hu
  | int_tuple _ _ h => exact SeqAt.EqAt.int_tuple _ _ h hu
  | tuple_str _ _ h => exact SeqAt.EqAt.tuple_str _ _ h hu
  | str_tuple _ _ h => exact SeqAt.EqAt.str_tuple _ _ h hu
  | list_tuple h h2 => exact SeqAt.EqAt.list_tuple h h2 hu
  | tuple_list h h2 => exact SeqAt.EqAt.tuple_list h h2 hu
  | lists h h2 hz he =>
    rename_i l b its its2 e
    by_cases q : l = b
    · subst q; rw [hs rfl]; exact SeqAt.EqAt.same _
    · exact .of_refs q (SeqAt.RcAt.lists h h2 hz hu he)
  | lists_len h h2 hz =>
    rename_i l b its its2
    by_cases q : l = b
    · subst q; rw [hs rfl]; exact SeqAt.EqAt.same _
    · exact .of_refs q (SeqAt.RcAt.lists_lengths h h2 hz hu)
  | tuples h h2 he =>
    rename_i l b its its2 e
    by_cases q : l = b
    · subst q; rw [hs rfl]; exact SeqAt.EqAt.same _
    · exact .of_refs q (SeqAt.RcAt.tuples h h2 hu he)
theorem Sh.rc {A : Around} {s : Shared} {u v : Value} {b : Bool} (h : Sh A s u v b) (hu : A.units < cLine) : SeqAt.RcAt A s u v b := by
  cases h with
  | none_none => exact SeqAt.RcAt.none_none
  | none_bool => exact SeqAt.RcAt.none_bool _
  | none_int => exact SeqAt.RcAt.none_int _ _
  | none_str => exact SeqAt.RcAt.none_str _ _
  | bool_none => exact SeqAt.RcAt.bool_none _
  | bool_bool => exact SeqAt.RcAt.bool_bool _ _
  | bool_int => exact SeqAt.RcAt.bool_int _ _ _
  | bool_str => exact SeqAt.RcAt.bool_str _ _ _
  | int_none => exact SeqAt.RcAt.int_none _ _
  | int_bool => exact SeqAt.RcAt.int_bool _ _ _
  | int_int => exact SeqAt.RcAt.int_int _ _ _ _
  | int_str => exact SeqAt.RcAt.int_str _ _ _ _
  | str_none => exact SeqAt.RcAt.str_none _ _
  | str_bool => exact SeqAt.RcAt.str_bool _ _ _
  | str_int => exact SeqAt.RcAt.str_int _ _ _ _
  | str_str => exact SeqAt.RcAt.str_str _ _ _ _
  | list_none h => exact SeqAt.RcAt.list_none h hu
  | none_list h => exact SeqAt.RcAt.none_list h hu
  | list_bool _ h => exact SeqAt.RcAt.list_bool _ h hu
  | bool_list _ h => exact SeqAt.RcAt.bool_list _ h hu
  | list_int _ _ h => exact SeqAt.RcAt.list_int _ _ h hu
  | int_list _ _ h => exact SeqAt.RcAt.int_list _ _ h hu
  | list_str _ _ h => exact SeqAt.RcAt.list_str _ _ h hu
  | str_list _ _ h => exact SeqAt.RcAt.str_list _ _ h hu
  | tuple_none h => exact SeqAt.RcAt.tuple_none h hu
  | none_tuple h => exact SeqAt.RcAt.none_tuple h hu
  | tuple_bool _ h => exact SeqAt.RcAt.tuple_bool _ h hu
  | bool_tuple _ h => exact SeqAt.RcAt.bool_tuple _ h hu
  | tuple_int _ _ h => exact SeqAt.RcAt.tuple_int _ _ h hu
  | int_tuple _ _ h => exact SeqAt.RcAt.int_tuple _ _ h hu
  | tuple_str _ _ h => exact SeqAt.RcAt.tuple_str _ _ h hu
  | str_tuple _ _ h => exact SeqAt.RcAt.str_tuple _ _ h hu
  | list_tuple h h2 => exact SeqAt.RcAt.list_tuple h h2 hu
  | tuple_list h h2 => exact SeqAt.RcAt.tuple_list h h2 hu
  | lists h h2 hz he => exact SeqAt.RcAt.lists h h2 hz hu he
  | lists_len h h2 hz => exact SeqAt.RcAt.lists_lengths h h2 hz hu
  | tuples h h2 he => exact SeqAt.RcAt.tuples h h2 hu he
theorem Sh.ne {A : Around} {s : Shared} {u v : Value} {b : Bool} (h : Sh A s u v b) (hu : A.units < cLine) : SeqAt.RcNeAt A s u v (!b) := by
  cases h with
  | none_none => exact SeqAt.RcNeAt.none_none
  | none_bool => exact SeqAt.RcNeAt.none_bool _
  | none_int => exact SeqAt.RcNeAt.none_int _ _
  | none_str => exact SeqAt.RcNeAt.none_str _ _
  | bool_none => exact SeqAt.RcNeAt.bool_none _
  | bool_bool => exact SeqAt.RcNeAt.bool_bool _ _
  | bool_int => exact SeqAt.RcNeAt.bool_int _ _ _
  | bool_str => exact SeqAt.RcNeAt.bool_str _ _ _
  | int_none => exact SeqAt.RcNeAt.int_none _ _
  | int_bool => exact SeqAt.RcNeAt.int_bool _ _ _
  | int_int => exact SeqAt.RcNeAt.int_int _ _ _ _
  | int_str => exact SeqAt.RcNeAt.int_str _ _ _ _
  | str_none => exact SeqAt.RcNeAt.str_none _ _
  | str_bool => exact SeqAt.RcNeAt.str_bool _ _ _
  | str_int => exact SeqAt.RcNeAt.str_int _ _ _ _
  | str_str => exact SeqAt.RcNeAt.str_str _ _ _ _
  | list_none h => exact SeqAt.RcNeAt.list_none h hu
  | none_list h => exact SeqAt.RcNeAt.none_list h hu
  | list_bool _ h => exact SeqAt.RcNeAt.list_bool _ h hu
  | bool_list _ h => exact SeqAt.RcNeAt.bool_list _ h hu
  | list_int _ _ h => exact SeqAt.RcNeAt.list_int _ _ h hu
  | int_list _ _ h => exact SeqAt.RcNeAt.int_list _ _ h hu
  | list_str _ _ h => exact SeqAt.RcNeAt.list_str _ _ h hu
  | str_list _ _ h => exact SeqAt.RcNeAt.str_list _ _ h hu
  | tuple_none h => exact SeqAt.RcNeAt.tuple_none h hu
  | none_tuple h => exact SeqAt.RcNeAt.none_tuple h hu
  | tuple_bool _ h => exact SeqAt.RcNeAt.tuple_bool _ h hu
  | bool_tuple _ h => exact SeqAt.RcNeAt.bool_tuple _ h hu
  | tuple_int _ _ h => exact SeqAt.RcNeAt.tuple_int _ _ h hu
  | int_tuple _ _ h => exact SeqAt.RcNeAt.int_tuple _ _ h hu
  | tuple_str _ _ h => exact SeqAt.RcNeAt.tuple_str _ _ h hu
  | str_tuple _ _ h => exact SeqAt.RcNeAt.str_tuple _ _ h hu
  | list_tuple h h2 => exact SeqAt.RcNeAt.list_tuple h h2 hu
  | tuple_list h h2 => exact SeqAt.RcNeAt.tuple_list h h2 hu
  | lists h h2 hz he => exact SeqAt.RcNeAt.lists h h2 hz hu he
  | lists_len h h2 hz => exact SeqAt.RcNeAt.lists_lengths h h2 hz hu
  | tuples h h2 he => exact SeqAt.RcNeAt.tuples h h2 hu he
section
variable {X : Cx} {G : Gd} {pins : List (Addr × Obj)} {σ : L2.St} {H : Hp} {s : Shared} {r : List Addr}
mutual
theorem Rep.inj (I : Inv X pins σ H s) (hK : G.K = X.K) : ∀ (d d' : D) (v : V), plainD d = true → plainD d' = true → Rep G r H v d → Rep G r H v d' → d = d'
  | .non, _, _, _, p, .non, h => by cases h <;> first | rfl | simp [plainD] at p
  | .bl _, _, _, _, p, .bl, h => by cases h <;> first | rfl | simp [plainD] at p
  | .int _, _, _, _, p, .int, h => by cases h <;> first | rfl | simp [plainD] at p
  | .str _, _, _, _, p, .str, h => by cases h <;> first | rfl | simp [plainD] at p
  | .lst ds, d', _, p, p', .lst hs ha, h => by
    cases h with
    | lst hs' ha' =>
      have e := I.list_inj (.of (off_some.mp hs).2) (.of (off_some.mp hs').2)
      subst e
      rw [Reps.inj I hK _ _ _ (by simpa [plainD] using p) (by simpa [plainD] using p') ha ha']
    | tup hs' ha' =>
      obtain ⟨_, _, p1, _⟩ := I.list (.of (off_some.mp hs).2)
      obtain ⟨_, _, p2, _⟩ := I.tuple (hK ▸ sqT_off hs')
      obtain ⟨o, n, e1, c1, _⟩ := p1
      obtain ⟨o', e2, c2, _⟩ := p2
      rw [e1] at e2
      cases e2
      rw [c1] at c2
      injection c2 with c3
      exact absurd c3 (by decide)
    | _ => simp [plainD] at p'
  | .tup ds, d', _, p, p', .tup hs ha, h => by
    cases h with
    | tup hs' ha' =>
      have e := I.tuple_inj (hK ▸ sqT_off hs) (hK ▸ sqT_off hs')
      subst e
      rw [Reps.inj I hK _ _ _ (by simpa [plainD] using p) (by simpa [plainD] using p') ha ha']
    | lst hs' ha' =>
      obtain ⟨_, _, p1, _⟩ := I.list (.of (off_some.mp hs').2)
      obtain ⟨_, _, p2, _⟩ := I.tuple (hK ▸ sqT_off hs)
      obtain ⟨o, n, e1, c1, _⟩ := p1
      obtain ⟨o', e2, c2, _⟩ := p2
      rw [e1] at e2
      cases e2
      rw [c1] at c2
      injection c2 with c3
      exact absurd c3 (by decide)
    | _ => simp [plainD] at p'
  | .dct _ _, _, _, p, _, _, _ => by simp [plainD] at p
  | .ins _ _ _, _, _, p, _, _, _ => by simp [plainD] at p
  | .scr _, _, _, p, _, _, _ => by simp [plainD] at p
  | .cell _, _, _, p, _, _, _ => by simp [plainD] at p
  | .fn _, _, _, p, _, _, _ => by simp [plainD] at p
  | .cls _, _, _, p, _, _, _ => by simp [plainD] at p
  | .ty _, _, _, p, _, _, _ => by simp [plainD] at p
theorem Reps.inj (I : Inv X pins σ H s) (hK : G.K = X.K) : ∀ (ds ds' : List D) (vs : List V), plainDs ds = true → plainDs ds' = true → Reps G r H vs ds → Reps G r H vs ds' → ds = ds'
  | [], _, _, _, _, .nil, h => by cases h; rfl
  | d :: ds, _, _, p, p', .cons h1 h2, .cons h3 h4 => by
    obtain ⟨q1, q2⟩ : plainD d = true ∧ plainDs ds = true := by simpa [plainDs] using p
    obtain ⟨q3, q4⟩ : plainD _ = true ∧ plainDs _ = true := by simpa [plainDs] using p'
    rw [Rep.inj I hK d _ _ q1 q3 h1 h3, Reps.inj I hK ds _ _ q2 q4 h2 h4]
end
/-- the items of a list, of a tuple -/
theorem reps_val {vs : List V} {us : List Value} {ds : List D} (rv : Vals vs us) (h : Reps G r H vs ds) {j : Nat} (hj : j < us.length) : ∃ v d, vs[j]? = some v ∧ RelV v us[j] ∧ ds[j]? = some d ∧ Rep G r H v d := by
  have hv : j < vs.length := by rw [rv.length]; exact hj
  have hd : j < ds.length := by rw [← h.length]; exact hv
  obtain ⟨u, e, rr⟩ := rv.get (List.getElem?_eq_getElem hv)
  rw [List.getElem?_eq_getElem hj] at e
  cases e
  obtain ⟨v, e1, e2⟩ := h.get (List.getElem?_eq_getElem hd)
  refine ⟨v, ds[j], e1, ?_, List.getElem?_eq_getElem hd, e2⟩
  rw [List.getElem?_eq_getElem hv] at e1
  cases e1
  exact rr
/-- what is no list and no tuple -/
def leafD : D → Bool
  | .non | .bl _ | .int _ | .str _ => true
  | _ => false
theorem leafSh {A : Around} : ∀ {d d' : D} {v v' : V} {u u' : Value}, leafD d = true → leafD d' = true → Rep G r H v d → Rep G r H v' d' → RelV v u → RelV v' u' → Sh A s u u' (eqv d d') := by
  intro d d' v v' u u' p p' h h' ru ru'
  cases h with
  | non =>
    cases ru
    cases h' with
    | non => cases ru'; unfold eqv; exact .none_none
    | bl => cases ru'; unfold eqv; exact .none_bool _
    | int => obtain ⟨t, rfl⟩ := ru'; unfold eqv; exact .none_int _ _
    | str => obtain ⟨t, rfl⟩ := ru'; unfold eqv; exact .none_str _ _
    | _ => cases p'
  | bl =>
    cases ru
    cases h' with
    | non => cases ru'; unfold eqv; exact .bool_none _
    | bl => cases ru'; unfold eqv; exact .bool_bool _ _
    | int => obtain ⟨t, rfl⟩ := ru'; unfold eqv; exact .bool_int _ _ _
    | str => obtain ⟨t, rfl⟩ := ru'; unfold eqv; exact .bool_str _ _ _
    | _ => cases p'
  | int =>
    obtain ⟨t0, rfl⟩ := ru
    cases h' with
    | non => cases ru'; unfold eqv; exact .int_none _ _
    | bl => cases ru'; unfold eqv; exact .int_bool _ _ _
    | int => obtain ⟨t, rfl⟩ := ru'; unfold eqv; exact .int_int _ _ _ _
    | str => obtain ⟨t, rfl⟩ := ru'; unfold eqv; exact .int_str _ _ _ _
    | _ => cases p'
  | str =>
    obtain ⟨t0, rfl⟩ := ru
    cases h' with
    | non => cases ru'; unfold eqv; exact .str_none _ _
    | bl => cases ru'; unfold eqv; exact .str_bool _ _ _
    | int => obtain ⟨t, rfl⟩ := ru'; unfold eqv; exact .str_int _ _ _ _
    | str => obtain ⟨t, rfl⟩ := ru'; unfold eqv; exact .str_str _ _ _ _
    | _ => cases p'
  | _ => cases p
theorem list_leafSh {A : Around} {a : Addr} {its : Array Value} {ds : List D} (hl : s.heap.IsList a its) : ∀ {d' : D} {v' : V} {u' : Value}, leafD d' = true → Rep G r H v' d' → RelV v' u' →
    Sh A s (.ref a) u' (eqv (.lst ds) d') ∧ Sh A s u' (.ref a) (eqv d' (.lst ds)) := by
  intro d' v' u' p' h' ru'
  cases h' with
  | non => cases ru'; unfold eqv; exact ⟨.list_none hl, .none_list hl⟩
  | bl => cases ru'; unfold eqv; exact ⟨.list_bool _ hl, .bool_list _ hl⟩
  | int => obtain ⟨t, rfl⟩ := ru'; unfold eqv; exact ⟨.list_int _ _ hl, .int_list _ _ hl⟩
  | str => obtain ⟨t, rfl⟩ := ru'; unfold eqv; exact ⟨.list_str _ _ hl, .str_list _ _ hl⟩
  | _ => cases p'
theorem tup_leafSh {A : Around} {a : Addr} {its : Array Value} {ds : List D} (hl : s.heap.IsTuple a its) : ∀ {d' : D} {v' : V} {u' : Value}, leafD d' = true → Rep G r H v' d' → RelV v' u' →
    Sh A s (.ref a) u' (eqv (.tup ds) d') ∧ Sh A s u' (.ref a) (eqv d' (.tup ds)) := by
  intro d' v' u' p' h' ru'
  cases h' with
  | non => cases ru'; unfold eqv; exact ⟨.tuple_none hl, .none_tuple hl⟩
  | bl => cases ru'; unfold eqv; exact ⟨.tuple_bool _ hl, .bool_tuple _ hl⟩
  | int => obtain ⟨t, rfl⟩ := ru'; unfold eqv; exact ⟨.tuple_int _ _ hl, .int_tuple _ _ hl⟩
  | str => obtain ⟨t, rfl⟩ := ru'; unfold eqv; exact ⟨.tuple_str _ _ hl, .str_tuple _ _ hl⟩
  | _ => cases p'
/-- how plain data compares, to any depth -/
theorem shD (I : Inv X pins σ H s) (hK : G.K = X.K) : ∀ (n : Nat) (A : Around), A.units + n < cLine → ∀ (d d' : D) (v v' : V) (u u' : Value), plainD d = true → plainD d' = true → depD d ≤ n → depD d' ≤ n → Rep G r H v d → Rep G r H v' d' → RelV v u → RelV v' u' →
    Sh A s u u' (eqv d d') := by
  intro n
  induction n with
  | zero =>
    intro A hu d d' v v' u u' p p' hd hd' h h' ru ru'
    refine leafSh ?_ ?_ h h' ru ru'
    · cases d <;> simp_all [leafD, plainD, depD]
    · cases d' <;> simp_all [leafD, plainD, depD]
  | succ n ih =>
    intro A hu d d' v v' u u' p p' hd hd' h h' ru ru'
    have item : ∀ {ds ds' : List D} {vs vs' : List V} {us us' : List Value}, plainDs ds = true → plainDs ds' = true → depDs ds ≤ n → depDs ds' ≤ n → Reps G r H vs ds → Reps G r H vs' ds' → Vals vs us → Vals vs' us' →
        ∀ j (h1 : j < us.length) (h2 : j < us'.length), SeqAt.EqAt A.in1 s us[j] us'[j] (eqAt ds ds' j) := by
      intro ds ds' vs vs' us us' p p' hd hd' ha ha' rv rv' j h1 h2
      obtain ⟨x, dx, e1, rx, e2, hx⟩ := reps_val rv ha h1
      obtain ⟨y, dy, e3, ry, e4, hy⟩ := reps_val rv' ha' h2
      have q1 := plain_get p e2
      have q2 := plain_get p' e4
      have k := ih A.in1 (by show A.units + 1 + n < cLine; omega) dx dy x y _ _ q1 q2 (Nat.le_trans (dep_get e2) hd) (Nat.le_trans (dep_get e4) hd') hx hy rx ry
      have ee : eqAt ds ds' j = eqv dx dy := by unfold eqAt; rw [e2, e4]
      rw [ee]
      refine k.eq (by show A.units + 1 < cLine; omega) fun z => ?_
      rw [z] at rx
      have exy := rx.inj ry
      subst exy
      rw [Rep.inj I hK dx dy x q1 q2 hx hy]
      exact eqv_refl _ q2
    by_cases l : leafD d = true
    · by_cases l' : leafD d' = true
      · exact leafSh l l' h h' ru ru'
      · cases h' with
        | lst hs' ha' =>
          cases ru'
          obtain ⟨_, _, q, _⟩ := I.list (.of (off_some.mp hs').2)
          exact (list_leafSh q.isList l h ru).2
        | tup hs' ha' =>
          cases ru'
          obtain ⟨_, _, q, _⟩ := I.tuple (hK ▸ sqT_off hs')
          exact (tup_leafSh q l h ru).2
        | _ => first | exact absurd rfl l' | simp [plainD] at p'
    · cases h with
      | lst hs ha =>
        cases ru
        obtain ⟨us, rv, q, z0⟩ := I.list (.of (off_some.mp hs).2)
        by_cases l' : leafD d' = true
        · exact (list_leafSh q.isList l' h' ru').1
        · cases h' with
          | lst hs' ha' =>
            cases ru'
            rename_i a vs ds b vs' ds'
            obtain ⟨us', rv', q', z1⟩ := I.list (.of (off_some.mp hs').2)
            have z : us.length = ds.length := by rw [← rv.length, ha.length]
            have z' : us'.length = ds'.length := by rw [← rv'.length, ha'.length]
            by_cases hz : ds.length = ds'.length
            · unfold eqv
              rw [← eqvs_all hz, show ds.length = us.toArray.size from by simp [z]]
              refine .lists q.isList q'.isList (by simp only [List.size_toArray]; omega) fun j h1 h2 => ?_
              have k := item (by simpa [plainD] using p) (by simpa [plainD] using p') (by simp [depD] at hd; omega) (by simp [depD] at hd'; omega) ha ha' rv rv' j (by simpa using h1) (by simpa using h2)
              simpa using k
            · unfold eqv
              rw [eqvs_len hz]
              exact .lists_len q.isList q'.isList (by simp only [List.size_toArray, bne_iff_ne]; omega)
          | tup hs' ha' =>
            cases ru'
            obtain ⟨_, _, q', _⟩ := I.tuple (hK ▸ sqT_off hs')
            unfold eqv
            exact .list_tuple q.isList q'
          | _ => first | exact absurd rfl l' | simp [plainD] at p'
      | tup hs ha =>
        cases ru
        obtain ⟨us, rv, q, z0⟩ := I.tuple (hK ▸ sqT_off hs)
        by_cases l' : leafD d' = true
        · exact (tup_leafSh q l' h' ru').1
        · cases h' with
          | tup hs' ha' =>
            cases ru'
            rename_i a vs ds b vs' ds'
            obtain ⟨us', rv', q', z1⟩ := I.tuple (hK ▸ sqT_off hs')
            have z : us.length = ds.length := by rw [← rv.length, ha.length]
            have z' : us'.length = ds'.length := by rw [← rv'.length, ha'.length]
            have t : Sh A s (.ref a) (.ref b) ((List.range (min us.toArray.size us'.toArray.size)).all (eqAt ds ds') && us.toArray.size == us'.toArray.size) := by
              refine .tuples q q' fun j h1 h2 => ?_
              have k := item (by simpa [plainD] using p) (by simpa [plainD] using p') (by simp [depD] at hd; omega) (by simp [depD] at hd'; omega) ha ha' rv rv' j (by simpa using h1) (by simpa using h2)
              simpa using k
            have e : ((List.range (min us.toArray.size us'.toArray.size)).all (eqAt ds ds') && us.toArray.size == us'.toArray.size) = eqvs ds ds' := by
              simp only [List.size_toArray, z, z']
              by_cases hz : ds.length = ds'.length
              · rw [← eqvs_all hz, hz]
                simp
              · rw [eqvs_len hz]
                simp [hz]
            rw [e] at t
            unfold eqv
            exact t
          | lst hs' ha' =>
            cases ru'
            obtain ⟨_, _, q', _⟩ := I.list (.of (off_some.mp hs').2)
            unfold eqv
            exact .tuple_list q q'.isList
          | _ => first | exact absurd rfl l' | simp [plainD] at p'
      | _ => first | exact absurd rfl l | simp [plainD] at p
end
end Iv
/-! Operations on data: comparisons, arithmetic, truth, places. -/
namespace Iv
open PySem PySem.Spec PyProof.Rows L2

/-- what stands at a cell, else the datum itself -/
def valD (M : List D) : D → D
  | .cell n => match M[n]? with
    | some o => o
    | none => .cell n
  | d => d
section
variable {G : Gd} {r r1 : List Addr} {H H1 : Hp} {M : List D} {v : V} {d : D} {ds : List D}
theorem val_lst (S : StOk G r M H) (h : Rep G r H v d) (e : valD M d = .lst ds) : ∃ a vs, v = .ref a ∧ H a = some (.lst vs) ∧ Reps G r H vs ds := by
  cases h with
  | lst h1 h2 => cases e; exact ⟨_, _, rfl, (off_some.mp h1).2, h2⟩
  | cell h1 =>
    rename_i a n
    have e' : (match M[n]? with | some o => o | none => D.cell n) = D.lst ds := e
    cases em : M[n]? with
    | none => rw [em] at e'; cases e'
    | some o =>
      rw [em] at e'
      have e2 : o = .lst ds := e'
      subst e2
      obtain ⟨vs, q1, q2⟩ := S.at_ n a _ h1 em
      exact ⟨a, vs, rfl, q1, q2⟩
  | _ => cases e
theorem val_tup (S : StOk G r M H) (h : Rep G r H v d) (e : valD M d = .tup ds) : ∃ a vs, v = .ref a ∧ SqT G.K H a vs ∧ Reps G r H vs ds ∧ d = .tup ds := by
  cases h with
  | tup h1 h2 => cases e; exact ⟨_, _, rfl, sqT_off h1, h2, rfl⟩
  | cell h1 =>
    rename_i a n
    have e' : (match M[n]? with | some o => o | none => D.cell n) = D.tup ds := e
    cases em : M[n]? with
    | none => rw [em] at e'; cases e'
    | some o =>
      rw [em] at e'
      have e2 : o = .tup ds := e'
      subst e2
      exact (S.at_ n a _ h1 em).elim
  | _ => cases e
theorem val_scr (S : StOk G r M H) (h : Rep G r H v d) (e : valD M d = .scr ds) : ∃ a vs, v = .ref a ∧ SqL G.K H a vs ∧ Reps G r H vs ds := by
  cases h with
  | scr h1 h2 => cases e; exact ⟨_, _, rfl, sqL_off h1, h2⟩
  | cell h1 =>
    rename_i a n
    have e' : (match M[n]? with | some o => o | none => D.cell n) = D.scr ds := e
    cases em : M[n]? with
    | none => rw [em] at e'; cases e'
    | some o =>
      rw [em] at e'
      have e2 : o = .scr ds := e'
      subst e2
      exact (S.at_ n a _ h1 em).elim
  | _ => cases e
theorem val_leaf (S : StOk G r M H) (h : Rep G r H v d) (e : leafD (valD M d) = true) : valD M d = d := by
  cases h with
  | cell h1 =>
    rename_i a n
    cases em : M[n]? with
    | none =>
      have e' : valD M (.cell n) = .cell n := by show (match M[n]? with | some o => o | none => D.cell n) = _; rw [em]
      exact e'
    | some o =>
      have e' : valD M (.cell n) = o := by show (match M[n]? with | some o => o | none => D.cell n) = _; rw [em]
      rw [e'] at e
      have q := S.at_ n a _ h1 em
      cases o with
      | lst _ => cases e
      | dct _ _ => cases e
      | ins _ _ _ => cases e
      | _ => exact q.elim
  | _ => rfl
/-- a list's or tuple's items as they stand -/
def seqD (M : List D) (d : D) : Option (List D) := match valD M d with
  | .lst ds => some ds
  | .tup ds => some ds
  | .scr ds => some ds
  | _ => none
theorem seq_at (S : StOk G r M H) (h : Rep G r H v d) (e : seqD M d = some ds) : ∃ a vs, v = .ref a ∧ (SqL G.K H a vs ∨ SqT G.K H a vs) ∧ Reps G r H vs ds := by
  unfold seqD at e
  cases ev : valD M d with
  | lst xs => rw [ev] at e; cases e; obtain ⟨a, vs, e1, e2, e3⟩ := val_lst S h ev; exact ⟨a, vs, e1, .inl (.of e2), e3⟩
  | tup xs => rw [ev] at e; cases e; obtain ⟨a, vs, e1, e2, e3, _⟩ := val_tup S h ev; exact ⟨a, vs, e1, .inr e2, e3⟩
  | scr xs => rw [ev] at e; cases e; obtain ⟨a, vs, e1, e2, e3⟩ := val_scr S h ev; exact ⟨a, vs, e1, .inl e2, e3⟩
  | _ => rw [ev] at e; cases e

/-! ### == and != -/
def RepF (G : Gd) (r : List Addr) (H : Hp) (v : V) : D → Prop
  | .lst ds => ∃ a vs, v = .ref a ∧ H a = some (.lst vs) ∧ Reps G r H vs ds
  | d => Rep G r H v d
theorem repF_val (S : StOk G r M H) (h : Rep G r H v d) (p : plainD (valD M d) = true) : RepF G r H v (valD M d) := by
  cases e : valD M d with
  | lst ds => exact val_lst S h e
  | tup ds =>
    obtain ⟨_, _, _, _, _, ed⟩ := val_tup S h e
    subst ed
    exact h
  | non => rw [← e]; have q := val_leaf S h (by rw [e]; rfl); rw [q, show RepF G r H v d = Rep G r H v d from by rw [← q, e]; rfl]; exact h
  | bl b => rw [← e]; have q := val_leaf S h (by rw [e]; rfl); rw [q, show RepF G r H v d = Rep G r H v d from by rw [← q, e]; rfl]; exact h
  | int b => rw [← e]; have q := val_leaf S h (by rw [e]; rfl); rw [q, show RepF G r H v d = Rep G r H v d from by rw [← q, e]; rfl]; exact h
  | str b => rw [← e]; have q := val_leaf S h (by rw [e]; rfl); rw [q, show RepF G r H v d = Rep G r H v d from by rw [← q, e]; rfl]; exact h
  | _ => rw [e] at p; simp [plainD] at p
end
section
variable {X : Cx} {G : Gd} {pins : List (Addr × Obj)} {σ : L2.St} {H : Hp} {s : Shared} {r : List Addr}
theorem shTop (I : Inv X pins σ H s) (hK : G.K = X.K) {n : Nat} {A : Around} (hu : A.units + (n + 1) < cLine) {d d' : D} {v v' : V} {u u' : Value} (p : plainD d = true) (p' : plainD d' = true) (hd : depD d ≤ n + 1) (hd' : depD d' ≤ n + 1)
    (h : RepF G r H v d) (h' : RepF G r H v' d') (ru : RelV v u) (ru' : RelV v' u') : Sh A s u u' (eqv d d') := by
  have item : ∀ {ds ds' : List D} {vs vs' : List V} {us us' : List Value}, plainDs ds = true → plainDs ds' = true → depDs ds ≤ n → depDs ds' ≤ n → Reps G r H vs ds → Reps G r H vs' ds' → Vals vs us → Vals vs' us' →
      ∀ j (h1 : j < us.length) (h2 : j < us'.length), SeqAt.EqAt A.in1 s us[j] us'[j] (eqAt ds ds' j) := by
    intro ds ds' vs vs' us us' p p' hd hd' ha ha' rv rv' j h1 h2
    obtain ⟨x, dx, e1, rx, e2, hx⟩ := reps_val rv ha h1
    obtain ⟨y, dy, e3, ry, e4, hy⟩ := reps_val rv' ha' h2
    have q1 := plain_get p e2
    have q2 := plain_get p' e4
    have k := shD I hK n A.in1 (by show A.units + 1 + n < cLine; omega) dx dy x y _ _ q1 q2 (Nat.le_trans (dep_get e2) hd) (Nat.le_trans (dep_get e4) hd') hx hy rx ry
    have ee : eqAt ds ds' j = eqv dx dy := by unfold eqAt; rw [e2, e4]
    rw [ee]
    refine k.eq (by show A.units + 1 < cLine; omega) fun z => ?_
    rw [z] at rx
    have exy := rx.inj ry
    subst exy
    rw [Rep.inj I hK dx dy x q1 q2 hx hy]
    exact eqv_refl _ q2
  have lists : ∀ {a b : Addr} {vs vs' : List V} {ds ds' : List D}, H a = some (.lst vs) → H b = some (.lst vs') → Reps G r H vs ds → Reps G r H vs' ds' → plainDs ds = true → plainDs ds' = true → depDs ds ≤ n → depDs ds' ≤ n → Sh A s (.ref a) (.ref b) (eqv (.lst ds) (.lst ds')) := by
    intro a b vs vs' ds ds' hs hs' ha ha' p p' hd hd'
    obtain ⟨us, rv, q, z0⟩ := I.list (.of hs)
    obtain ⟨us', rv', q', z1⟩ := I.list (.of hs')
    have z : us.length = ds.length := by rw [← rv.length, ha.length]
    have z' : us'.length = ds'.length := by rw [← rv'.length, ha'.length]
    by_cases hz : ds.length = ds'.length
    · unfold eqv
      rw [← eqvs_all hz, show ds.length = us.toArray.size from by simp [z]]
      refine .lists q.isList q'.isList (by simp only [List.size_toArray]; omega) fun j h1 h2 => ?_
      have k := item p p' hd hd' ha ha' rv rv' j (by simpa using h1) (by simpa using h2)
      simpa using k
    · unfold eqv
      rw [eqvs_len hz]
      exact .lists_len q.isList q'.isList (by simp only [List.size_toArray, bne_iff_ne]; omega)
  cases d with
  | lst ds =>
    obtain ⟨a, vs, rfl, hs, ha⟩ := h
    cases ru
    cases d' with
    | lst ds' =>
      obtain ⟨b, vs', rfl, hs', ha'⟩ := h'
      cases ru'
      exact lists hs hs' ha ha' (by simpa [plainD] using p) (by simpa [plainD] using p') (by simp [depD] at hd; omega) (by simp [depD] at hd'; omega)
    | tup ds' =>
      cases h' with
      | tup hs' ha' =>
        cases ru'
        obtain ⟨_, _, q, _⟩ := I.list (.of hs)
        obtain ⟨_, _, q', _⟩ := I.tuple (hK ▸ sqT_off hs')
        unfold eqv
        exact .list_tuple q.isList q'
    | non | bl | int | str => 
      obtain ⟨_, _, q, _⟩ := I.list (.of hs)
      exact (list_leafSh q.isList rfl h' ru').1
    | _ => simp [plainD] at p'
  | _ =>
    cases d' with
    | lst ds' =>
      obtain ⟨b, vs', rfl, hs', ha'⟩ := h'
      cases ru'
      obtain ⟨_, _, q', _⟩ := I.list (.of hs')
      first
        | exact (list_leafSh q'.isList rfl h ru).2
        | (cases h with
          | tup hs ha =>
            cases ru
            obtain ⟨_, _, q, _⟩ := I.tuple (hK ▸ sqT_off hs)
            unfold eqv
            exact .tuple_list q q'.isList)
        | simp [plainD] at p
    | _ => first | exact shD I hK (n + 1) A hu _ _ v v' u u' p p' hd hd' h h' ru ru' | simp [plainD] at p | simp [plainD] at p'
end
/-- == where it is told: plain data, not too deep -/
def eqM (M : List D) (x y : D) : Option Bool := let d := valD M x; let d' := valD M y
  if plainD d && plainD d' && Nat.ble (depD d) 40 && Nat.ble (depD d') 40 then some (eqv d d') else none
def eqO (M : List D) (x y : D) : Option D := (eqM M x y).map .bl
def neO (M : List D) (x y : D) : Option D := (eqM M x y).map fun b => .bl (!b)
section
variable {X : Cx} {G : Gd}
theorem eqM_sh {pins : List (Addr × Obj)} {σ : L2.St} {H : Hp} {s : Shared} {r : List Addr} {M : List D} (I : Inv X pins σ H s) (hK : G.K = X.K) (hu : X.A.units + 64 < cLine) (S : StOk G r M H) {d d' : D} {x y : V} {u v : Value} {b : Bool}
    (h : Rep G r H x d) (h' : Rep G r H y d') (e : eqM M d d' = some b) (ru : RelV x u) (rv : RelV y v) : Sh X.A s u v b := by
  unfold eqM at e
  by_cases c : (plainD (valD M d) && plainD (valD M d') && Nat.ble (depD (valD M d)) 40 && Nat.ble (depD (valD M d')) 40) = true
  · simp only [c, if_true, Option.some.injEq] at e
    simp only [Bool.and_eq_true, Nat.ble_eq] at c
    obtain ⟨⟨⟨c1, c2⟩, c3⟩, c4⟩ := c
    rw [← e]
    exact shTop I hK (n := 39) (by omega) c1 c2 c3 c4 (repF_val S h c1) (repF_val S h' c2) ru rv
  · simp [c] at e
theorem OpP.eq (hK : G.K = X.K) (hu : X.A.units + 64 < cLine) : OpP G X (compareOp .Eq) eqO := by
  intro r M H x y d d' z Q S h h' e k pins s σ v u I rx ry
  unfold eqO at e
  cases em : eqM M d d' with
  | none => rw [em] at e; cases e
  | some b =>
    rw [em] at e
    cases e
    exact (eqM_sh I hK hu S h h' em rx ry).rc (by omega) X.prog X.w _ _ ⟨.bl b, H, I, rfl, k H _ S.le S .bl⟩
theorem OpP.ne (hK : G.K = X.K) (hu : X.A.units + 64 < cLine) : OpP G X (compareOp .NotEq) neO := by
  intro r M H x y d d' z Q S h h' e k pins s σ v u I rx ry
  unfold neO at e
  cases em : eqM M d d' with
  | none => rw [em] at e; cases e
  | some b =>
    rw [em] at e
    cases e
    exact (eqM_sh I hK hu S h h' em rx ry).ne (by omega) X.prog X.w _ _ ⟨.bl (!b), H, I, rfl, k H _ S.le S .bl⟩
end
end Iv
/-! Operations on data: in, order, is, arithmetic. -/
namespace Iv
open PySem PySem.Spec PyProof.Rows L2

/-! ### new objects -/
section
variable {G : Gd} {r : List Addr} {H : Hp} {M : List D}
theorem StOk.new (S : StOk G r M H) {p : Addr} {o : HO} (hp : H p = none) : Le r H r (upd H p o) ∧ StOk G r M (upd H p o) := by
  have np := S.fresh hp
  have l : Le r H r (upd H p o) := ⟨⟨[], by simp, fun _ z => nomatch z⟩, fun a u e _ => by rw [upd_ne (ne_of_none e hp)]; exact e, fun a ha => by
    rw [upd_ne (show a ≠ p from fun z => np.2 (by rw [← z]; exact ha))]
    exact S.there a ha⟩
  refine ⟨l, S.len, S.nd, fun n a o' h1 h2 => ?_, fun a ha => ⟨by rw [upd_ne (show a ≠ p from fun z => np.1 (by rw [← z]; exact ha))]; exact (S.hid a ha).1, (S.hid a ha).2⟩⟩
  have hne : a ≠ p := fun z => np.2 (by rw [← z]; exact List.mem_of_getElem? h1)
  exact (S.at_ n a o' h1 h2).le l (upd_ne hne)
theorem off_new {p : Addr} {o : HO} (np : p ∉ G.hid ∧ p ∉ r) : off G r (upd H p o) p = some o := off_some.mpr ⟨np, upd_same⟩
end

/-! ### in, not in -/
/-- x in some items -/
def anyEq (x : D) (ds : List D) : Bool := ds.any fun d => eqv d x
def inM (M : List D) (x y : D) : Option Bool := match valD M y with
  | .str z => match x with
    | .str t => some (!(Builtin.Str.occurrences z t 0 z.length 1).isEmpty)
    | _ => none
  | _ => match seqD M y with
    | some ds => if plainD x && plainDs ds && Nat.ble (depD x) 40 && Nat.ble (depDs ds) 40 then some (anyEq x ds) else none
    | none => none
def inO (M : List D) (x y : D) : Option D := (inM M x y).map .bl
def ninO (M : List D) (x y : D) : Option D := (inM M x y).map fun b => .bl (!b)
section
variable {X : Cx} {G : Gd} {pins : List (Addr × Obj)} {σ : L2.St} {H : Hp} {s : Shared} {r : List Addr} {M : List D}
open Classical in
/-- the answers by value -/
noncomputable def ansV (us : List Value) (ds : List D) (x : D) (u : Value) : Bool := decide (∃ j : Nat, us[j]? = some u ∧ ∃ d, ds[j]? = some d ∧ eqv d x = true)
open Classical in
theorem ansV_at (I : Inv X pins σ H s) (hK : G.K = X.K) {vs : List V} {us : List Value} {ds : List D} {x : D} (rv : Vals vs us) (ha : Reps G r H vs ds) (p : plainDs ds = true) {j : Nat} (hj : j < us.length) (hd : j < ds.length) : ansV us ds x us[j] = eqv ds[j] x := by
  unfold ansV
  cases e : eqv ds[j] x with
  | true => exact decide_eq_true ⟨j, List.getElem?_eq_getElem hj, ds[j], List.getElem?_eq_getElem hd, e⟩
  | false =>
    refine decide_eq_false ?_
    rintro ⟨i, h1, d, h2, h3⟩
    have hi : i < us.length := (List.getElem?_eq_some_iff.mp h1).1
    obtain ⟨v1, d1, a1, a2, a3, a4⟩ := reps_val rv ha hi
    obtain ⟨v2, d2, b1, b2, b3, b4⟩ := reps_val rv ha hj
    have e1 : us[i] = us[j] := by
      rw [List.getElem?_eq_getElem hi] at h1
      exact Option.some.inj h1
    rw [e1] at a2
    have ev := a2.inj b2
    subst ev
    rw [h2] at a3
    cases a3
    rw [List.getElem?_eq_getElem hd] at b3
    cases b3
    have q := Rep.inj I hK d ds[j] v1 (plain_get p h2) (plain_get p (List.getElem?_eq_getElem hd)) a4 b4
    rw [← q, h3] at e
    cases e
theorem any_ans (I : Inv X pins σ H s) (hK : G.K = X.K) {vs : List V} {us : List Value} {ds : List D} {x : D} (rv : Vals vs us) (ha : Reps G r H vs ds) (p : plainDs ds = true) : us.any (ansV us ds x) = anyEq x ds := by
  have hl : us.length = ds.length := by rw [← rv.length, ha.length]
  have e1 : us.map (ansV us ds x) = ds.map fun d => eqv d x := by
    refine List.ext_getElem (by simp [hl]) fun j h1 h2 => ?_
    simp only [List.length_map] at h1 h2
    rw [List.getElem_map, List.getElem_map]
    exact ansV_at I hK rv ha p h1 h2
  unfold anyEq
  have e2 : ∀ (α : Type) (l : List α) (f : α → Bool), l.any f = (l.map f).any id := fun α l f => by rw [List.any_map]; rfl
  rw [e2 _ us, e2 _ ds, e1]
theorem in_items (I : Inv X pins σ H s) (hK : G.K = X.K) {n : Nat} (hu : X.A.units + (n + 1) < cLine) {vs : List V} {us : List Value} {ds : List D} {x : D} {vx : V} {ux : Value} (rv : Vals vs us) (ha : Reps G r H vs ds) (p : plainDs ds = true) (px : plainD x = true)
    (hd : depDs ds ≤ n) (hx : depD x ≤ n) (h : Rep G r H vx x) (ru : RelV vx ux) : ∀ w, w ∈ us.toArray → SeqAt.EqAt X.A.in1 s w ux (ansV us ds x w) := by
  intro w hw
  have hw' : w ∈ us := by simpa using hw
  obtain ⟨j, hj, e⟩ := List.getElem_of_mem hw'
  have hjd : j < ds.length := by rw [← ha.length, rv.length]; exact hj
  rw [← e, ansV_at I hK rv ha p hj hjd]
  obtain ⟨v1, d1, a1, a2, a3, a4⟩ := reps_val rv ha hj
  rw [List.getElem?_eq_getElem hjd] at a3
  cases a3
  have q1 := plain_get p (List.getElem?_eq_getElem hjd)
  refine (shD I hK n X.A.in1 (by show X.A.units + 1 + n < cLine; omega) _ _ _ _ _ _ q1 px (Nat.le_trans (dep_get (List.getElem?_eq_getElem hjd)) hd) hx a4 h a2 ru).eq (by show X.A.units + 1 < cLine; omega) fun z => ?_
  rw [z] at a2
  have ev := a2.inj ru
  subst ev
  rw [Rep.inj I hK _ _ _ q1 px a4 h]
  exact eqv_refl _ px
theorem inM_run (I : Inv X pins σ H s) (hK : G.K = X.K) (hu : X.A.units + 64 < cLine) (S : StOk G r M H) {x y : V} {d d' : D} {u v : Value} {b : Bool} (h : Rep G r H x d) (h' : Rep G r H y d') (e : inM M d d' = some b) (rx : RelV x v) (ry : RelV y u) {Q : VK} (Q0 : Q (.bl b) H) (Q1 : Q (.bl (!b)) H → True) :
    wpAny (model X.prog X.w) X.A (compareOp .In v u) (EP X pins σ Q) X.xe s ∧ ∀ {Q' : VK}, Q' (.bl (!b)) H → wpAny (model X.prog X.w) X.A (compareOp .NotIn v u) (EP X pins σ Q') X.xe s := by
  have seqs : (match seqD M d' with
    | some ds => if plainD d && plainDs ds && Nat.ble (depD d) 40 && Nat.ble (depDs ds) 40 then some (anyEq d ds) else none
    | none => none) = some b → wpAny (model X.prog X.w) X.A (compareOp .In v u) (EP X pins σ Q) X.xe s ∧ ∀ {Q' : VK}, Q' (.bl (!b)) H → wpAny (model X.prog X.w) X.A (compareOp .NotIn v u) (EP X pins σ Q') X.xe s := by
    intro e
    cases es : seqD M d' with
    | none => rw [es] at e; cases e
    | some ds =>
      rw [es] at e
      by_cases c : (plainD d && plainDs ds && Nat.ble (depD d) 40 && Nat.ble (depDs ds) 40) = true
      · simp only [c, if_true, Option.some.injEq] at e
        simp only [Bool.and_eq_true, Nat.ble_eq] at c
        obtain ⟨⟨⟨c1, c2⟩, c3⟩, c4⟩ := c
        obtain ⟨a, vs, rfl, hs, ha⟩ := seq_at S h' es
        cases ry
        rw [hK] at hs
        rcases hs with hs | hs
        · obtain ⟨us, rv, q, _⟩ := I.list hs
          have k := in_items I hK (n := 40) (by omega) rv ha c2 c1 c4 c3 h rx
          have ea : us.toArray.any (ansV us ds d) = b := by rw [← e, ← any_ans I hK rv ha c2]; simp
          refine ⟨SeqAt.in_listAt _ q.isList k ⟨.bl b, H, I, by rw [ea]; rfl, Q0⟩, fun hq => SeqAt.notIn_listAt _ q.isList k ⟨.bl (!b), H, I, by rw [ea]; rfl, hq⟩⟩
        · obtain ⟨us, rv, q, _⟩ := I.tuple hs
          have k := in_items I hK (n := 40) (by omega) rv ha c2 c1 c4 c3 h rx
          have ea : us.toArray.any (ansV us ds d) = b := by rw [← e, ← any_ans I hK rv ha c2]; simp
          refine ⟨SeqAt.in_tupleAt _ q k ⟨.bl b, H, I, by rw [ea]; rfl, Q0⟩, fun hq => SeqAt.notIn_tupleAt _ q k ⟨.bl (!b), H, I, by rw [ea]; rfl, hq⟩⟩
      · simp [c] at e
  unfold inM at e
  cases ev : valD M d' with
  | str z =>
    rw [ev] at e
    have q := val_leaf S h' (by rw [ev]; rfl)
    rw [ev] at q
    subst q
    cases d with
    | str t =>
      cases h
      cases h'
      have e2 : (!(Builtin.Str.occurrences z t 0 z.length 1).isEmpty) = b := Option.some.inj e
      exact ⟨op_in_str pins s σ H _ _ v u Q I rx ry ⟨t, z, rfl, rfl, by rw [e2]; exact Q0⟩, fun {Q'} hq => op_notin_str pins s σ H _ _ v u Q' I rx ry ⟨t, z, rfl, rfl, by rw [e2]; exact hq⟩⟩
    | _ => cases e
  | _ => rw [ev] at e; exact seqs e
theorem OpP.in_ (hK : G.K = X.K) (hu : X.A.units + 64 < cLine) : OpP G X (compareOp .In) inO := by
  intro r M H x y d d' z Q S h h' e k pins s σ v u I rx ry
  unfold inO at e
  cases em : inM M d d' with
  | none => rw [em] at e; cases e
  | some b =>
    rw [em] at e
    cases e
    exact (inM_run I hK hu S h h' em rx ry (k H _ S.le S .bl) fun _ => trivial).1
theorem OpP.nin (hK : G.K = X.K) (hu : X.A.units + 64 < cLine) : OpP G X (compareOp .NotIn) ninO := by
  intro r M H x y d d' z Q S h h' e k pins s σ v u I rx ry
  unfold ninO at e
  cases em : inM M d d' with
  | none => rw [em] at e; cases e
  | some b =>
    rw [em] at e
    cases e
    exact (inM_run (Q := fun _ _ => True) I hK hu S h h' em rx ry trivial fun _ => trivial).2 (k H _ S.le S .bl)
end

/-! ### order -/
/-- the order of texts -/
def strLt (x y : Str) : Bool := decide (x.cps.toList < y.cps.toList)
def ltO (_ : List D) (x y : D) : Option D := match x, y with
  | .int i, .int j => some (.bl (decide (i < j)))
  | .str i, .str j => some (.bl (strLt i j))
  | _, _ => none
def leO (_ : List D) (x y : D) : Option D := match x, y with
  | .int i, .int j => some (.bl (decide (i ≤ j)))
  | .str i, .str j => some (.bl (!strLt j i))
  | _, _ => none
def gtO (_ : List D) (x y : D) : Option D := match x, y with
  | .int i, .int j => some (.bl (decide (j < i)))
  | .str i, .str j => some (.bl (strLt j i))
  | _, _ => none
def geO (_ : List D) (x y : D) : Option D := match x, y with
  | .int i, .int j => some (.bl (decide (j ≤ i)))
  | .str i, .str j => some (.bl (!strLt i j))
  | _, _ => none
def isO (_ : List D) (x y : D) : Option D := match x, y with
  | .non, .non => some (.bl true)
  | .cell _, .cell _ => none
  | .fn _, _ => none
  | .cls _, _ => none
  | _, .non => some (.bl false)
  | _, _ => none
def isnO (_ : List D) (x y : D) : Option D := match x, y with
  | .non, .non => some (.bl false)
  | .cell _, .cell _ => none
  | .fn _, _ => none
  | .cls _, _ => none
  | _, .non => some (.bl true)
  | _, _ => none
section
variable {X : Cx} {G : Gd}
theorem OpP.lt : OpP G X (compareOp .Lt) ltO := by
  intro r M H x y d d' z Q S h h' e k
  cases h with
  | int => cases h' with
    | int => cases e; exact op_lt.rw ⟨_, _, rfl, rfl, k H _ S.le S .bl⟩
    | _ => cases e
  | str => cases h' with
    | str => cases e; exact op_lt_str.rw ⟨_, _, rfl, rfl, k H _ S.le S .bl⟩
    | _ => cases e
  | _ => cases e
theorem OpP.le : OpP G X (compareOp .LtE) leO := by
  intro r M H x y d d' z Q S h h' e k
  cases h with
  | int => cases h' with
    | int => cases e; exact op_le.rw ⟨_, _, rfl, rfl, k H _ S.le S .bl⟩
    | _ => cases e
  | str => cases h' with
    | str => cases e; exact op_le_str.rw ⟨_, _, rfl, rfl, k H _ S.le S .bl⟩
    | _ => cases e
  | _ => cases e
theorem OpP.gt : OpP G X (compareOp .Gt) gtO := by
  intro r M H x y d d' z Q S h h' e k
  cases h with
  | int => cases h' with
    | int => cases e; exact op_gt.rw ⟨_, _, rfl, rfl, k H _ S.le S .bl⟩
    | _ => cases e
  | str => cases h' with
    | str => cases e; exact op_gt_str.rw ⟨_, _, rfl, rfl, k H _ S.le S .bl⟩
    | _ => cases e
  | _ => cases e
theorem OpP.ge : OpP G X (compareOp .GtE) geO := by
  intro r M H x y d d' z Q S h h' e k
  cases h with
  | int => cases h' with
    | int => cases e; exact op_ge.rw ⟨_, _, rfl, rfl, k H _ S.le S .bl⟩
    | _ => cases e
  | str => cases h' with
    | str => cases e; exact op_ge_str.rw ⟨_, _, rfl, rfl, k H _ S.le S .bl⟩
    | _ => cases e
  | _ => cases e
theorem OpP.is_ : OpP G X (compareOp .Is) isO := by
  intro r M H x y d d' z Q S h h' e k
  have q : ∀ {b : Bool}, z = .bl b → y = .non → decide (x = .non) = b → rW0 X (compareOp .Is) x y H Q := fun {b} e1 e2 e3 => by
    subst e1
    exact op_isN.rw ⟨e2, by rw [e3]; exact k H _ S.le S .bl⟩
  cases h' with
  | non => cases h with
    | non => exact q (by cases e; rfl) rfl (by simp)
    | fn => cases e
    | cls => cases e
    | _ => exact q (by cases e; rfl) rfl (by simp)
  | _ => cases h <;> cases e
theorem OpP.isn : OpP G X (compareOp .IsNot) isnO := by
  intro r M H x y d d' z Q S h h' e k
  have q : ∀ (b : Bool), z = .bl (!b) → y = .non → decide (x = .non) = b → rW0 X (compareOp .IsNot) x y H Q := fun b e1 e2 e3 => by
    subst e1
    exact op_notN.rw ⟨e2, by rw [e3]; exact k H _ S.le S .bl⟩
  cases h' with
  | non => cases h with
    | non => exact q true (by cases e; rfl) rfl (by simp)
    | fn => cases e
    | cls => cases e
    | _ => exact q false (by cases e; rfl) rfl (by simp)
  | _ => cases h <;> cases e
end

/-! ### arithmetic -/
def addO (M : List D) (x y : D) : Option D := match x, y with
  | .int i, .int j => some (.int (i + j))
  | .str i, .str j => if i.length + j.length ≤ sizeLine then some (.str (i ++ j)) else none
  | _, _ => match valD M x, valD M y with
    | .lst a, .lst b => if a.length + b.length ≤ sizeLine then some (.lst (a ++ b)) else none
    | .tup a, .tup b => if a.length + b.length ≤ sizeLine then some (.tup (a ++ b)) else none
    | _, _ => none
def subO (_ : List D) (x y : D) : Option D := match x, y with
  | .int i, .int j => some (.int (i - j))
  | _, _ => none
def smallI (i : Int) : Bool := decide (-(2 ^ 64) < i ∧ i < 2 ^ 64)
def mulO (_ : List D) (x y : D) : Option D := match x, y with
  | .int i, .int j => if smallI i || smallI j then some (.int (i * j)) else none
  | _, _ => none
def fdivO (_ : List D) (x y : D) : Option D := match x, y with
  | .int i, .int j => if 0 < j ∧ j.natAbs.log2 < 9000 then some (.int (i / j)) else none
  | _, _ => none
def modO (_ : List D) (x y : D) : Option D := match x, y with
  | .int i, .int j => if 0 < j then some (.int (i % j)) else none
  | _, _ => none
def powO (_ : List D) (x y : D) : Option D := match x, y with
  | .int i, .int j => if 0 ≤ j ∧ j ≤ 1000000 ∧ i.natAbs < 2 ^ 64 then some (.int (i ^ j.toNat)) else none
  | _, _ => none
section
variable {X : Cx} {G : Gd}
theorem OpP.sub : OpP G X (binaryOp .Sub) subO := by
  intro r M H x y d d' z Q S h h' e k
  cases h with
  | int => cases h' with
    | int => cases e; exact op_sub.rw ⟨_, _, rfl, rfl, k H _ S.le S .int⟩
    | _ => cases e
  | _ => cases e
theorem OpP.mul : OpP G X (binaryOp .Mult) mulO := by
  intro r M H x y d d' z Q S h h' e k
  cases h with
  | int => cases h' with
    | int =>
      rename_i i j
      have e' : (if smallI i || smallI j then some (D.int (i * j)) else none) = some z := e
      by_cases c : (smallI i || smallI j) = true
      · rw [if_pos c] at e'
        cases e'
        refine op_mul.rw ⟨i, j, rfl, rfl, ?_, k H _ S.le S .int⟩
        rcases Bool.or_eq_true_iff.mp c with c | c
        · exact .inl (of_decide_eq_true c)
        · exact .inr (of_decide_eq_true c)
      · rw [if_neg c] at e'
        cases e'
    | _ => cases e
  | _ => cases e
theorem OpP.fdiv : OpP G X (binaryOp .FloorDiv) fdivO := by
  intro r M H x y d d' z Q S h h' e k
  cases h with
  | int => cases h' with
    | int =>
      rename_i i j
      have e' : (if 0 < j ∧ j.natAbs.log2 < 9000 then some (D.int (i / j)) else none) = some z := e
      by_cases c : 0 < j ∧ j.natAbs.log2 < 9000
      · rw [if_pos c] at e'
        cases e'
        exact op_fdivW.rw ⟨i, j, rfl, rfl, c, k H _ S.le S .int⟩
      · rw [if_neg c] at e'
        cases e'
    | _ => cases e
  | _ => cases e
theorem OpP.mod : OpP G X (binaryOp .Mod) modO := by
  intro r M H x y d d' z Q S h h' e k
  cases h with
  | int => cases h' with
    | int =>
      rename_i i j
      have e' : (if 0 < j then some (D.int (i % j)) else none) = some z := e
      by_cases c : 0 < j
      · rw [if_pos c] at e'
        cases e'
        exact op_mod.rw ⟨i, j, rfl, rfl, c, k H _ S.le S .int⟩
      · rw [if_neg c] at e'
        cases e'
    | _ => cases e
  | _ => cases e
theorem OpP.pow : OpP G X (binaryOp .Pow) powO := by
  intro r M H x y d d' z Q S h h' e k
  cases h with
  | int => cases h' with
    | int =>
      rename_i i j
      have e' : (if 0 ≤ j ∧ j ≤ 1000000 ∧ i.natAbs < 2 ^ 64 then some (D.int (i ^ j.toNat)) else none) = some z := e
      by_cases c : 0 ≤ j ∧ j ≤ 1000000 ∧ i.natAbs < 2 ^ 64
      · rw [if_pos c] at e'
        cases e'
        exact op_pow.rw ⟨i, j, rfl, rfl, c, k H _ S.le S .int⟩
      · rw [if_neg c] at e'
        cases e'
    | _ => cases e
  | _ => cases e
theorem OpP.add (hK : G.K = X.K) : OpP G X (binaryOp .Add) addO := by
  intro r M H x y d d' z Q S h h' e k
  have seqs : (match valD M d, valD M d' with
    | .lst a, .lst b => if a.length + b.length ≤ sizeLine then some (D.lst (a ++ b)) else none
    | .tup a, .tup b => if a.length + b.length ≤ sizeLine then some (D.tup (a ++ b)) else none
    | _, _ => none) = some z → rW0 X (binaryOp .Add) x y H Q := by
    intro e
    cases e1 : valD M d with
    | lst a =>
      cases e2 : valD M d' with
      | lst b =>
        rw [e1, e2] at e
        have e' : (if a.length + b.length ≤ sizeLine then some (D.lst (a ++ b)) else none) = some z := e
        by_cases c : a.length + b.length ≤ sizeLine
        · rw [if_pos c] at e'
          cases e'
          obtain ⟨p, vs, rfl, hp, ha⟩ := val_lst S h e1
          obtain ⟨q, ws, rfl, hq, hb⟩ := val_lst S h' e2
          refine op_cat.rw ⟨p, q, vs, ws, rfl, rfl, hp, hq, by rw [ha.length, hb.length]; exact c, fun o ho => ?_⟩
          obtain ⟨l, S'⟩ := S.new (o := .lst (vs ++ ws)) ho
          exact k _ _ l S' (.lst (off_new (S.fresh ho)) ((ha.le l).append (hb.le l)))
        · rw [if_neg c] at e'
          cases e'
      | _ => rw [e1, e2] at e; cases e
    | tup a =>
      cases e2 : valD M d' with
      | tup b =>
        rw [e1, e2] at e
        have e' : (if a.length + b.length ≤ sizeLine then some (D.tup (a ++ b)) else none) = some z := e
        by_cases c : a.length + b.length ≤ sizeLine
        · rw [if_pos c] at e'
          cases e'
          obtain ⟨p, vs, rfl, hp, ha, ed⟩ := val_tup S h e1
          obtain ⟨q, ws, rfl, hq, hb, ed'⟩ := val_tup S h' e2
          rw [hK] at hp hq
          subst ed ed'
          refine op_catA.rw ⟨p, q, vs, ws, rfl, rfl, hp, hq, by rw [ha.length, hb.length]; exact c, fun z => ?_, fun _ z => ?_, fun _ _ o ho => ?_⟩
          · subst z
            cases ha
            exact k H _ S.le S h'
          · subst z
            cases hb
            exact k H _ S.le S (by rw [List.append_nil]; exact h)
          · obtain ⟨l, S'⟩ := S.new (o := .tup (vs ++ ws)) ho
            exact k _ _ l S' (.tup (.of (off_new (S.fresh ho))) ((ha.le l).append (hb.le l)))
        · rw [if_neg c] at e'
          cases e'
      | _ => rw [e1, e2] at e; cases e
    | _ => rw [e1] at e; cases valD M d' <;> cases e
  cases h with
  | int => cases h' with
    | int => cases e; exact op_add.rw ⟨_, _, rfl, rfl, k H _ S.le S .int⟩
    | _ => exact seqs e
  | str => cases h' with
    | str =>
      rename_i i j
      have e' : (if i.length + j.length ≤ sizeLine then some (D.str (i ++ j)) else none) = some z := e
      by_cases c : i.length + j.length ≤ sizeLine
      · rw [if_pos c] at e'
        cases e'
        exact op_add_str.rw ⟨i, j, rfl, rfl, c, k H _ S.le S .str⟩
      · rw [if_neg c] at e'
        cases e'
    | _ => exact seqs e
  | _ => exact seqs e
end
end Iv
/-! Tests, boolean operators, displays, subscripts, slices. -/
namespace Iv
open PySem PySem.Spec PyProof.Rows L2

theorem bnd_assoc {α β γ : Type} (x : Ev α) (f : α → Ev β) (g : β → Ev γ) : bnd (bnd x f) g = bnd x fun a => bnd (f a) g := by
  funext M
  unfold bnd
  cases x M <;> rfl
section
variable {X : Cx} {G : Gd}
/-- a value's truth comes to Q -/
def tW (X : Cx) (σ : L2.St) : V → Hp → (Bool → Hp → Prop) → Prop := fun x H Q => ∀ (pins : List (Addr × Obj)) (s : Shared) (v : Value), Inv X pins σ H s → RelV x v → wpAny (model X.prog X.w) X.A (truthy v) (TP X pins σ Q) X.xe s
def TruS (G : Gd) (X : Cx) (g : D → Ev Bool) : Prop := ∀ (W : WX), Takes X W → ∀ (σ : L2.St) (r : List Addr) (M : List D) (H : Hp) (x : V) (d : D) (Q : Bool → Hp → Prop),
  StOk G r M H → Rep G r H x d → Post G W σ (JT Q) r H (g d M) → tW X σ x H Q
/-- the truth of plain data -/
def truM (M : List D) (d : D) : Option Bool := match valD M d with
  | .non => some false
  | .bl b => some b
  | .int i => some (i != 0)
  | .str x => if x.length ≤ sizeLine then some ((x.length : Int) != 0) else none
  | .lst ds => some (!ds.isEmpty)
  | .tup ds => some (!ds.isEmpty)
  | .scr ds => some (!ds.isEmpty)
  | _ => none
def truO : D → Ev Bool := fun d M => optE (truM M d) M
theorem reps_empty {r : List Addr} {H : Hp} {vs : List V} {ds : List D} (h : Reps G r H vs ds) : ds.isEmpty = vs.isEmpty := by cases h <;> rfl
theorem tru_of {σ : L2.St} {x : V} {H : Hp} {Q : Bool → Hp → Prop} {b : Bool} (h : TruV X.K x H b) (q : Q b H) : tW X σ x H Q := fun pins s v I rx => tru_ok pins s σ H x v Q I rx ⟨b, h, q⟩
theorem TruS.pure (hK : G.K = X.K) : TruS G X truO := by
  intro W tk σ r M H x d Q S h p
  unfold truO at p
  cases e : truM M d with
  | none => rw [e] at p; exact p.elim
  | some b =>
    rw [e] at p
    have q : Q b H := p r H S.le S
    refine tru_of ?_ q
    unfold truM at e
    cases ev : valD M d with
    | non => rw [ev] at e; cases e; have z := val_leaf S h (by rw [ev]; rfl); rw [ev] at z; subst z; cases h; exact rfl
    | bl b => rw [ev] at e; cases e; have z := val_leaf S h (by rw [ev]; rfl); rw [ev] at z; subst z; cases h; exact rfl
    | int i => rw [ev] at e; cases e; have z := val_leaf S h (by rw [ev]; rfl); rw [ev] at z; subst z; cases h; exact rfl
    | str y =>
      rw [ev] at e
      have e' : (if y.length ≤ sizeLine then some ((y.length : Int) != 0) else none) = some b := e
      by_cases c : y.length ≤ sizeLine
      · rw [if_pos c] at e'
        have z := val_leaf S h (by rw [ev]; rfl)
        rw [ev] at z
        subst z
        cases h
        cases e'
        exact ⟨c, rfl⟩
      · rw [if_neg c] at e'; cases e'
    | lst ds =>
      rw [ev] at e
      cases e
      obtain ⟨a, vs, rfl, h1, h2⟩ := val_lst S h ev
      exact .inl ⟨vs, .of h1, by rw [reps_empty h2]⟩
    | scr ds =>
      rw [ev] at e
      cases e
      obtain ⟨a, vs, rfl, h1, h2⟩ := val_scr S h ev
      exact .inl ⟨vs, hK ▸ h1, by rw [reps_empty h2]⟩
    | tup ds =>
      rw [ev] at e
      cases e
      obtain ⟨a, vs, rfl, h1, h2, _⟩ := val_tup S h ev
      exact .inr (.inl ⟨vs, hK ▸ h1, by rw [reps_empty h2]⟩)
    | _ => rw [ev] at e; cases e

/-! ### tests -/
def dTru (g : D → Ev Bool) (a : DE) : DT := fun δ => bnd (a δ) g
theorem ST.truth {e : Expr} {m : DE} {g : D → Ev Bool} (ht : TruS G X g) (ha : SE G X e m) (he : ∀ whole, isTrue e X.env whole = (do let v ← whole; standAt e.pos; holding [v] (truthy v))) : ST G X e (dTru g m) := by
  refine ⟨?_⟩
  intro W tk δ M σ r H Q S E p
  intro pins s I
  refine isTrue_plain (thn (ha.ru W tk δ M σ r H (fun x H1 => tW X σ x H1 Q) S E (p.bnd.imp ?_) pins s I) fun v s1 ⟨x, H1, I1, r1, q1⟩ => q1 pins s1 v I1 r1) (he _)
  intro d1 M1 r1 H1 L1 S1 h1 v1 R1
  exact ht W tk σ r1 M1 H1 v1 d1 Q S1 R1 h1
/-- a comparison as a test -/
theorem ST.cmp {op : CmpOp} {a b : Expr} {pos : Pos} {g : D → D → Ev D} {t : D → Ev Bool} {ma mb : DE} (hm : behindInMarks op b = false) (ho : OpS G X (compareOp op) g) (ht : TruS G X t) (ha : SE G X a ma) (hb : SE G X b mb) : ST G X (.Compare a [op] [b] pos) (dTru t (dOp g ma mb)) := by
  refine ⟨?_⟩
  intro W tk δ M σ r H Q S E p
  intro pins s I
  have p0 : Post G W σ (JT Q) r H (bnd (ma δ) (fun x => bnd (mb δ) fun y => bnd (g x y) t) M) := by
    have e : bnd (ma δ) (fun x => bnd (mb δ) fun y => bnd (g x y) t) M = dTru t (dOp g ma mb) δ M := by
      unfold dTru dOp
      rw [bnd_assoc]
      simp only [bnd_assoc]
    rw [e]
    exact p
  have h : WE X a σ H fun x H1 => WE X b σ H1 fun y H2 => rW X (compareOp op) σ x y H2 fun z H3 => tW X σ z H3 Q := by
    refine ha.ru W tk δ M σ r H _ S E (p0.bnd.imp ?_)
    intro d1 M1 r1 H1 L1 S1 h1 v1 R1
    refine hb.ru W tk δ M1 σ r1 H1 _ S1 (E.le L1) (h1.bnd.imp ?_)
    intro d2 M2 r2 H2 L2 S2 h2 v2 R2
    refine ho W tk σ r2 M2 H2 v1 v2 d1 d2 _ S2 (R1.le L2) R2 (h2.bnd.imp ?_)
    intro d3 M3 r3 H3 L3 S3 h3 v3 R3
    exact ht W tk σ r3 M3 H3 v3 d3 Q S3 R3 h3
  refine wpAny_isTrue_Compare1 (thn (h pins s I) fun v s1 ⟨x, H1, I1, r1, q1⟩ => thn (q1 pins s1 I1) fun u s2 ⟨y, H2, I2, r2, q2⟩ => thn (q2 pins s2 v u I2 r1 r2) fun c s3 ⟨z, H3, I3, r3, q3⟩ => q3 pins s3 c I3 r3) hm
def dNotT (a : DT) : DT := fun δ => bnd (a δ) fun b => ret (!b)
theorem ST.not {a : Expr} {pos : Pos} {ma : DT} (ha : ST G X a ma) : ST G X (.UnaryOp .Not a pos) (dNotT ma) := by
  refine ⟨?_⟩
  intro W tk δ M σ r H Q S E p
  refine (pt_not (ptW a)).wt ?_
  refine ha.ru W tk δ M σ r H _ S E (p.bnd.imp ?_)
  intro b M1 r1 H1 L1 S1 h1
  exact h1 r1 H1 S1.le S1
def dAndT (a b : DT) : DT := fun δ => bnd (a δ) fun c => if c then b δ else ret false
def dOrT (a b : DT) : DT := fun δ => bnd (a δ) fun c => if c then ret true else b δ
theorem SW.and1 {a : Expr} {pos : Pos} {ma : DT} (ha : ST G X a ma) : SW G X (.BoolOp .And [a] pos) ma := ⟨fun W tk δ M σ r H Q S E p => (pw_and1 (ptW a)).ww (ha.ru W tk δ M σ r H Q S E p)⟩
theorem SW.or1 {a : Expr} {pos : Pos} {ma : DT} (ha : ST G X a ma) : SW G X (.BoolOp .Or [a] pos) ma := ⟨fun W tk δ M σ r H Q S E p => (pw_or1 (ptW a)).ww (ha.ru W tk δ M σ r H Q S E p)⟩
theorem SW.and {a b : Expr} {rest : List Expr} {pos : Pos} {ma mb : DT} (ha : ST G X a ma) (hb : SW G X (.BoolOp .And (b :: rest) pos) mb) : SW G X (.BoolOp .And (a :: b :: rest) pos) (dAndT ma mb) := by
  refine ⟨?_⟩
  intro W tk δ M σ r H Q S E p
  refine (pw_and (ptW a) (pwW _)).ww ?_
  refine ha.ru W tk δ M σ r H _ S E (p.bnd.imp ?_)
  intro c M1 r1 H1 L1 S1 h1
  cases c with
  | true => exact hb.ru W tk δ M1 σ r1 H1 Q S1 (E.le L1) h1
  | false => exact h1 r1 H1 S1.le S1
theorem SW.or {a b : Expr} {rest : List Expr} {pos : Pos} {ma mb : DT} (ha : ST G X a ma) (hb : SW G X (.BoolOp .Or (b :: rest) pos) mb) : SW G X (.BoolOp .Or (a :: b :: rest) pos) (dOrT ma mb) := by
  refine ⟨?_⟩
  intro W tk δ M σ r H Q S E p
  refine (pw_or (ptW a) (pwW _)).ww ?_
  refine ha.ru W tk δ M σ r H _ S E (p.bnd.imp ?_)
  intro c M1 r1 H1 L1 S1 h1
  cases c with
  | true => exact h1 r1 H1 S1.le S1
  | false => exact hb.ru W tk δ M1 σ r1 H1 Q S1 (E.le L1) h1
/-! ### the same as values -/
def dNot (g : D → Ev Bool) (a : DE) : DE := fun δ => bnd (a δ) fun x => bnd (g x) fun b => ret (.bl (!b))
theorem SE.not {a : Expr} {pos : Pos} {ma : DE} {g : D → Ev Bool} (ht : TruS G X g) (ha : SE G X a ma) : SE G X (.UnaryOp .Not a pos) (dNot g ma) := by
  refine ⟨?_⟩
  intro W tk δ M σ r H Q S E p
  intro pins s I
  refine UnaryOp_ (thn (ha.ru W tk δ M σ r H (fun x H1 => tW X σ x H1 fun b H2 => Q (.bl (!b)) H2) S E (p.bnd.imp ?_) pins s I) fun v s1 ⟨x, H1, I1, r1, q1⟩ =>
    not_of (thn (q1 pins s1 v I1 r1) fun c s2 ⟨H2, I2, q2⟩ => ⟨.bl (!c), H2, I2, rfl, q2⟩))
  intro d1 M1 r1 H1 L1 S1 h1 v1 R1
  refine ht W tk σ r1 M1 H1 v1 d1 _ S1 R1 (h1.bnd.imp ?_)
  intro b M2 r2 H2 L2 S2 h2
  exact h2 r2 H2 S2.le S2 _ .bl
def dAnd (g : D → Ev Bool) (a b : DE) : DE := fun δ => bnd (a δ) fun x => bnd (g x) fun c => if c then b δ else ret x
def dOr (g : D → Ev Bool) (a b : DE) : DE := fun δ => bnd (a δ) fun x => bnd (g x) fun c => if c then ret x else b δ
theorem SE.one {op : BoolOp} {a : Expr} {pos : Pos} {ma : DE} (ha : SE G X a ma) : SE G X (.BoolOp op [a] pos) ma := ⟨fun W tk δ M σ r H Q S E p => (pe_one (peW a)).we (ha.ru W tk δ M σ r H Q S E p)⟩
theorem SE.and {a b : Expr} {rest : List Expr} {pos : Pos} {ma mb : DE} {g : D → Ev Bool} (ht : TruS G X g) (ha : SE G X a ma) (hb : SE G X (.BoolOp .And (b :: rest) pos) mb) : SE G X (.BoolOp .And (a :: b :: rest) pos) (dAnd g ma mb) := by
  refine ⟨?_⟩
  intro W tk δ M σ r H Q S E p
  intro pins s I
  refine BoolOp_and (thn (ha.ru W tk δ M σ r H (fun x H1 => tW X σ x H1 fun c H2 => if c = true then WE X (.BoolOp .And (b :: rest) pos) σ H2 Q else Q x H2) S E (p.bnd.imp ?_) pins s I) fun v s1 ⟨x, H1, I1, r1, q1⟩ =>
    thn (q1 pins s1 v I1 r1) fun c s2 ⟨H2, I2, q2⟩ => ?_)
  · intro d1 M1 r1 H1 L1 S1 h1 v1 R1
    refine ht W tk σ r1 M1 H1 v1 d1 _ S1 R1 (h1.bnd.imp ?_)
    intro c M2 r2 H2 L2 S2 h2
    cases c with
    | true => refine iteT ?_; exact hb.ru W tk δ M2 σ r2 H2 Q S2 (E.le (L1.trans L2)) h2
    | false => refine iteF ?_; exact h2 r2 H2 S2.le S2 _ (R1.le L2)
  · cases c with
    | true => exact (show WE X _ σ H2 Q from q2) pins s2 I2
    | false => exact ⟨x, H2, I2, r1, q2⟩
theorem SE.or {a b : Expr} {rest : List Expr} {pos : Pos} {ma mb : DE} {g : D → Ev Bool} (ht : TruS G X g) (ha : SE G X a ma) (hb : SE G X (.BoolOp .Or (b :: rest) pos) mb) : SE G X (.BoolOp .Or (a :: b :: rest) pos) (dOr g ma mb) := by
  refine ⟨?_⟩
  intro W tk δ M σ r H Q S E p
  intro pins s I
  refine BoolOp_or (thn (ha.ru W tk δ M σ r H (fun x H1 => tW X σ x H1 fun c H2 => if c = true then Q x H2 else WE X (.BoolOp .Or (b :: rest) pos) σ H2 Q) S E (p.bnd.imp ?_) pins s I) fun v s1 ⟨x, H1, I1, r1, q1⟩ =>
    thn (q1 pins s1 v I1 r1) fun c s2 ⟨H2, I2, q2⟩ => ?_)
  · intro d1 M1 r1 H1 L1 S1 h1 v1 R1
    refine ht W tk σ r1 M1 H1 v1 d1 _ S1 R1 (h1.bnd.imp ?_)
    intro c M2 r2 H2 L2 S2 h2
    cases c with
    | true => refine iteT ?_; exact h2 r2 H2 S2.le S2 _ (R1.le L2)
    | false => refine iteF ?_; exact hb.ru W tk δ M2 σ r2 H2 Q S2 (E.le (L1.trans L2)) h2
  · cases c with
    | true => exact ⟨x, H2, I2, r1, q2⟩
    | false => exact (show WE X _ σ H2 Q from q2) pins s2 I2
def dIte (c : DT) (a b : DE) : DE := fun δ => bnd (c δ) fun k => if k then a δ else b δ
theorem SE.ite {c a b : Expr} {pos : Pos} {mc : DT} {ma mb : DE} (hc : ST G X c mc) (ha : SE G X a ma) (hb : SE G X b mb) : SE G X (.IfExp c a b pos) (dIte mc ma mb) := by
  refine ⟨?_⟩
  intro W tk δ M σ r H Q S E p
  refine (pe_ifExp (ptW c) (peW a) (peW b)).we ?_
  refine hc.ru W tk δ M σ r H _ S E (p.bnd.imp ?_)
  intro k M1 r1 H1 L1 S1 h1
  cases k with
  | true => refine iteT ?_; exact ha.ru W tk δ M1 σ r1 H1 Q S1 (E.le L1) h1
  | false => refine iteF ?_; exact hb.ru W tk δ M1 σ r1 H1 Q S1 (E.le L1) h1
/-- a test that is a conditional expression -/
theorem ST.ite {c a b : Expr} {pos : Pos} {mc ma mb : DT} (hc : ST G X c mc) (ha : ST G X a ma) (hb : ST G X b mb) : ST G X (.IfExp c a b pos) (fun δ => bnd (mc δ) fun k => if k then ma δ else mb δ) := by
  refine ⟨?_⟩
  intro W tk δ M σ r H Q S E p
  intro pins s I
  have h : WT X c σ H fun k H1 => if k = true then WT X a σ H1 Q else WT X b σ H1 Q := by
    refine hc.ru W tk δ M σ r H _ S E (p.bnd.imp ?_)
    intro k M1 r1 H1 L1 S1 h1
    cases k with
    | true => refine iteT ?_; exact ha.ru W tk δ M1 σ r1 H1 Q S1 (E.le L1) h1
    | false => refine iteF ?_; exact hb.ru W tk δ M1 σ r1 H1 Q S1 (E.le L1) h1
  show wpAny _ _ (do if ← isTrue c X.env (eval c X.env) then isTrue a X.env (eval a X.env) else isTrue b X.env (eval b X.env)) _ _ _
  refine wpAny_bind (thn (h pins s I) fun k s1 ⟨H1, I1, q1⟩ => ?_)
  cases k with
  | true => exact (show WT X a σ H1 Q from q1) pins s1 I1
  | false => exact (show WT X b σ H1 Q from q1) pins s1 I1
/-- -a, of an int -/
def dNeg (a : DE) : DE := fun δ => bnd (a δ) fun x => match x with
  | .int i => ret (.int (-i))
  | _ => stuck
theorem SE.neg {a : Expr} {pos : Pos} {ma : DE} (ha : SE G X a ma) : SE G X (.UnaryOp .USub a pos) (dNeg ma) := by
  refine ⟨?_⟩
  intro W tk δ M σ r H Q S E p
  refine (pe_un un_neg (peW a)).we ?_
  refine ha.ru W tk δ M σ r H _ S E (p.bnd.imp ?_)
  intro d1 M1 r1 H1 L1 S1 h1 v1 R1
  cases R1 with
  | int => exact ⟨_, rfl, h1 r1 H1 S1.le S1 _ .int⟩
  | _ => exact h1.elim
/-- a op b op' c, of ints and texts -/
def dChain (g g' : List D → D → D → Option D) (a b c : DE) : DE := fun δ => bnd (a δ) fun x => bnd (b δ) fun y => fun M => match g M x y with
  | some (.bl true) => bnd (c δ) (fun z M' => optE (g' M' y z) M') M
  | some (.bl false) => .ok (.bl false) M
  | _ => .stk
theorem chain_run {op op' : CmpOp} {a b c : Expr} {g g' : List D → D → D → Option D} {ma mb mc : DE} (ho : OpP G X (compareOp op) g) (ho' : OpP G X (compareOp op') g') (ha : SE G X a ma) (hb : SE G X b mb) (hc : SE G X c mc) (W : WX) (tk : Takes X W)
    (δ : DEnv) (M : List D) (σ : L2.St) (r : List Addr) (H : Hp) (Q : VK) (S : StOk G r M H) (E : EnvOk G r H σ δ) (p : Post G W σ (JE G Q) r H (dChain g g' ma mb mc δ M)) :
    tChain (rW0 X (compareOp op)) (rW0 X (compareOp op')) (WE X a) (WE X b) (WE X c) σ H Q := by
  refine ha.ru W tk δ M σ r H _ S E (p.bnd.imp ?_)
  intro d1 M1 r1 H1 L1 S1 h1 v1 R1
  refine hb.ru W tk δ M1 σ r1 H1 _ S1 (E.le L1) (h1.bnd.imp ?_)
  intro d2 M2 r2 H2 L2 S2 h2 v2 R2
  cases e : g M2 d1 d2 with
  | none => simp only [e] at h2; exact h2.elim
  | some z =>
    refine ho r2 M2 H2 v1 v2 d1 d2 z _ S2 (R1.le L2) R2 e fun H3 v L3 S3 R3 => ?_
    cases R3 with
    | bl =>
      rename_i k
      refine ⟨k, rfl, ?_⟩
      cases k with
      | true =>
        simp only [e] at h2
        rw [if_pos rfl]
        refine hc.ru W tk δ M2 σ r2 H3 _ S3 (E.le ((L1.trans L2).trans L3)) ((h2.mono L3).bnd.imp ?_)
        intro d4 M4 r4 H4 L4 S4 h4 v4 R4
        cases e4 : g' M4 d2 d4 with
        | none => rw [e4] at h4; exact h4.elim
        | some z4 =>
          rw [e4] at h4
          exact ho' r4 M4 H4 v2 v4 d2 d4 z4 _ S4 ((R2.le L3).le L4) R4 e4 fun H5 v5 L5 S5 R5 => h4 r4 H5 L5 S5 v5 R5
      | false =>
        simp only [e] at h2
        rw [if_neg Bool.false_ne_true]
        exact h2 r2 H3 L3 S3 _ .bl
    | _ => simp only [e] at h2; exact h2.elim
theorem SE.chain {op op' : CmpOp} {a b c : Expr} {pos : Pos} {g g' : List D → D → D → Option D} {ma mb mc : DE} (hm : lastMarks [op, op'] [b, c] = false) (ho : OpP G X (compareOp op) g) (ho' : OpP G X (compareOp op') g') (ha : SE G X a ma) (hb : SE G X b mb) (hc : SE G X c mc) :
    SE G X (.Compare a [op, op'] [b, c] pos) (dChain g g' ma mb mc) := by
  refine ⟨?_⟩
  exact fun W tk δ M σ r H Q S E p =>
  (pe_chain (rW0_op _) (rW0_op _) (peW a) (peW b) (peW c) hm).we (chain_run ho ho' ha hb hc W tk δ M σ r H Q S E p)
theorem ST.chain {op op' : CmpOp} {a b c : Expr} {pos : Pos} {g g' : List D → D → D → Option D} {ma mb mc : DE} (hm : lastMarks [op, op'] [b, c] = false) (ho : OpP G X (compareOp op) g) (ho' : OpP G X (compareOp op') g') (ha : SE G X a ma) (hb : SE G X b mb) (hc : SE G X c mc) :
    ST G X (.Compare a [op, op'] [b, c] pos) (dBool (dChain g g' ma mb mc)) :=
  .tst (pt_chain (rW0_op _) (rW0_op _) (peW a) (peW b) (peW c) hm) fun W tk δ M σ r H Q S E p => chain_run ho ho' ha hb hc W tk δ M σ r H Q S E p

/-! ### arguments, displays -/
def dNil : DA := fun _ => ret []
def dCons (a : DE) (b : DA) : DA := fun δ => bnd (a δ) fun x => bnd (b δ) fun xs => ret (x :: xs)
theorem SA.nil : SA G X [] dNil := ⟨fun W tk δ M σ r H Q S E p => pa_nil.wa (p r H S.le S _ .nil)⟩
theorem SA.cons {e : Expr} {es : List Expr} {ma : DE} {mb : DA} (ha : SE G X e ma) (hb : SA G X es mb) (hs : starEach (e :: es) X.env = (false, eval e X.env) :: starEach es X.env) : SA G X (e :: es) (dCons ma mb) := by
  refine ⟨?_⟩
  intro W tk δ M σ r H Q S E p
  refine (pa_cons (peW e) (paW es) hs).wa ?_
  refine ha.ru W tk δ M σ r H _ S E (p.bnd.imp ?_)
  intro d1 M1 r1 H1 L1 S1 h1 v1 R1
  refine hb.ru W tk δ M1 σ r1 H1 _ S1 (E.le L1) (h1.bnd.imp ?_)
  intro d2 M2 r2 H2 L2 S2 h2 v2 R2
  exact h2 r2 H2 S2.le S2 _ (.cons (R1.le L2) R2)
def dTup (a : DA) : DE := fun δ => bnd (a δ) fun xs => if xs.length ≤ sizeLine then ret (.tup xs) else stuck
def dLst (a : DA) : DE := fun δ => bnd (a δ) fun xs => if xs.length ≤ sizeLine then ret (.lst xs) else stuck
theorem SE.tup {es : List Expr} {x1 : Nat} {pos : Pos} {m : DA} (h : SA G X es m) : SE G X (.Tuple es x1 pos) (dTup m) := by
  refine ⟨?_⟩
  intro W tk δ M σ r H Q S E p
  refine (pe_tup (paW es)).we ?_
  refine h.ru W tk δ M σ r H _ S E (p.bnd.imp ?_)
  intro ds M1 r1 H1 L1 S1 h1 vs Rs
  by_cases c : ds.length ≤ sizeLine
  · rw [if_pos c] at h1
    refine ⟨by rw [Rs.length]; exact c, fun q hq => ?_⟩
    obtain ⟨l, S'⟩ := S1.new (o := .tup vs) hq
    exact h1 r1 _ l S' _ (.tup (.of (off_new (S1.fresh hq))) (Rs.le l))
  · rw [if_neg c] at h1
    exact h1.elim
theorem SE.lst {es : List Expr} {pos : Pos} {m : DA} (h : SA G X es m) : SE G X (.List es pos) (dLst m) := by
  refine ⟨?_⟩
  intro W tk δ M σ r H Q S E p
  refine (pe_lst (paW es)).we ?_
  refine h.ru W tk δ M σ r H _ S E (p.bnd.imp ?_)
  intro ds M1 r1 H1 L1 S1 h1 vs Rs
  by_cases c : ds.length ≤ sizeLine
  · rw [if_pos c] at h1
    refine ⟨by rw [Rs.length]; exact c, fun q hq => ?_⟩
    obtain ⟨l, S'⟩ := S1.new (o := .lst vs) hq
    exact h1 r1 _ l S' _ (.lst (off_new (S1.fresh hq)) (Rs.le l))
  · rw [if_neg c] at h1
    exact h1.elim
end
end Iv
/-! Subscripts, slices, built-in functions, methods of texts. -/
namespace Iv
open PySem PySem.Spec PyProof.Rows L2

/-! ### subscripts -/
/-- a subscript of lists, tuples, texts -/
def idxM (M : List D) (x y : D) : Option D := match y with
  | .int i => match valD M x with
    | .str z => if z.length ≤ sizeLine then (atI z.cps.toList i).map fun c => .str ⟨#[c]⟩ else none
    | _ => match seqD M x with
      | some ds => atI ds i
      | none => none
  | _ => none
section
variable {X : Cx} {G : Gd}
theorem reps_atI {r : List Addr} {H : Hp} {vs : List V} {ds : List D} (h : Reps G r H vs ds) {i : Int} {d : D} (e : atI ds i = some d) : ∃ v, atI vs i = some v ∧ Rep G r H v d := by
  unfold atI at e ⊢
  rw [h.length]
  cases q : ixN ds.length i with
  | none => rw [q] at e; cases e
  | some j =>
    rw [q] at e
    exact h.get (show ds[j]? = some d from e)
/-- a subscript's value comes to Q -/
def xW (X : Cx) (a b : Expr) (σ : L2.St) : R2 := fun x y H Q => ∀ (pins : List (Addr × Obj)) (s : Shared) (v u : Value), Inv X pins σ H s → RelV x v → RelV y u → wpAny (model X.prog X.w) X.A (subscriptTail a b v u) (EP X pins σ Q) X.xe s
theorem WE.sub {a b : Expr} {pos : Pos} {σ : L2.St} {H : Hp} {Q : VK} (h : WE X a σ H fun x H1 => WE X b σ H1 fun y H2 => xW X a b σ x y H2 Q) : WE X (.Subscript a b pos) σ H Q := fun _ _ I =>
  Subscript_ (binT (R := fun x y H2 => xW X a b σ x y H2 Q) (peW a) (peW b) I h fun v u s2 _ _ _ I2 rx ry q => q _ s2 v u I2 rx ry)
def IxS (G : Gd) (X : Cx) (a b : Expr) (g : D → D → Ev D) : Prop := ∀ (W : WX), Takes X W → ∀ (σ : L2.St) (r : List Addr) (M : List D) (H : Hp) (x y : V) (d d' : D) (Q : VK),
  StOk G r M H → Rep G r H x d → Rep G r H y d' → Post G W σ (JE G Q) r H (g d d' M) → xW X a b σ x y H Q
theorem IxS.seq (hK : G.K = X.K) {a b : Expr} (hs : PlainIx b) : IxS G X a b (pureO idxM) := by
  intro W tk σ r M H x y d d' Q S h h' p
  unfold pureO at p
  cases e : idxM M d d' with
  | none => rw [e] at p; exact p.elim
  | some z =>
    rw [e] at p
    have k : ∀ v, Rep G r H v z → Q v H := fun v hv => p r H S.le S v hv
    cases h' with
    | int =>
      rename_i i
      intro pins s v u I rx ry
      have seqs : (match seqD M d with | some ds => atI ds i | none => none) = some z → wpAny (model X.prog X.w) X.A (subscriptTail a b v u) (EP X pins σ Q) X.xe s := by
        intro e
        cases es : seqD M d with
        | none => rw [es] at e; cases e
        | some ds =>
          rw [es] at e
          obtain ⟨q, vs, rfl, hq, hv⟩ := seq_at S h es
          rw [hK] at hq
          obtain ⟨w, ew, rw'⟩ := reps_atI hv (show atI ds i = some z from e)
          rcases hq with hq | hq
          · exact ix_list a b pins s σ H _ _ v u Q I rx ry ⟨q, vs, i, w, rfl, rfl, hq, ew, k w rw'⟩ (hs _ _)
          · exact ix_tup a b pins s σ H _ _ v u Q I rx ry ⟨q, vs, i, w, rfl, rfl, hq, ew, k w rw'⟩ (hs _ _)
      have e' : (match valD M d with
        | .str z => if z.length ≤ sizeLine then (atI z.cps.toList i).map fun c => D.str ⟨#[c]⟩ else none
        | _ => match seqD M d with | some ds => atI ds i | none => none) = some z := e
      cases ev : valD M d with
      | str y =>
        rw [ev] at e'
        have e2 : (if y.length ≤ sizeLine then (atI y.cps.toList i).map fun c => D.str ⟨#[c]⟩ else none) = some z := e'
        by_cases c : y.length ≤ sizeLine
        · rw [if_pos c] at e2
          have q := val_leaf S h (by rw [ev]; rfl)
          rw [ev] at q
          subst q
          cases h
          cases ea : atI y.cps.toList i with
          | none => rw [ea] at e2; cases e2
          | some c' =>
            rw [ea] at e2
            cases e2
            exact ix_str a b pins s σ H _ _ v u Q I rx ry ⟨y, i, c', rfl, rfl, c, ea, k _ .str⟩ (hs _ _)
        · rw [if_neg c] at e2; cases e2
      | _ => rw [ev] at e'; exact seqs e'
    | _ => cases e
theorem SE.sub {a b : Expr} {pos : Pos} {g : D → D → Ev D} {ma mb : DE} (hi : IxS G X a b g) (ha : SE G X a ma) (hb : SE G X b mb) : SE G X (.Subscript a b pos) (dOp g ma mb) := by
  refine ⟨?_⟩
  intro W tk δ M σ r H Q S E p
  refine WE.sub ?_
  refine ha.ru W tk δ M σ r H _ S E (p.bnd.imp ?_)
  intro d1 M1 r1 H1 L1 S1 h1 v1 R1
  refine hb.ru W tk δ M1 σ r1 H1 _ S1 (E.le L1) (h1.bnd.imp ?_)
  intro d2 M2 r2 H2 L2 S2 h2 v2 R2
  exact hi W tk σ r2 M2 H2 v1 v2 d1 d2 Q S2 (R1.le L2) R2 h2

/-! ### slices -/
/-- the part of a list from lo to hi -/
def cutD (xs : List D) (lo hi : Option Int) : List D := (xs.drop (HT.sIx xs.length 0 lo)).take (HT.sIx xs.length xs.length hi - HT.sIx xs.length 0 lo)
abbrev DO := DEnv → Ev (Option Int)
def dNoP : DO := fun _ => ret none
def dPart (a : DE) : DO := fun δ => bnd (a δ) fun x => match x with
  | .int i => ret (some i)
  | _ => stuck
def sliM (M : List D) (x : D) (lo hi : Option Int) : Option D := match valD M x with
  | .str z => if z.length ≤ sizeLine then some (.str (cutS z lo hi)) else none
  | .lst ds => some (.lst (cutD ds lo hi))
  | .scr ds => some (.lst (cutD ds lo hi))
  | .tup ds => some (.tup (cutD ds lo hi))
  | _ => none
def dSli (a : DE) (lo hi : DO) : DE := fun δ => bnd (a δ) fun x => bnd (lo δ) fun l => bnd (hi δ) fun h => fun M => optE (sliM M x l h) M
def WO (X : Cx) (e : Option Expr) (σ : L2.St) (H : Hp) (Q : Option Int → Hp → Prop) : Prop := ∃ t, PO X e t ∧ t σ H Q
theorem poW (e : Option Expr) : PO X e (WO X e) := ⟨fun pins s σ H Q I ⟨t, h, q⟩ => h.run pins s σ H Q I q⟩
structure SO (G : Gd) (X : Cx) (e : Option Expr) (m : DO) : Prop where
  ru : ∀ (W : WX), Takes X W → ∀ (δ : DEnv) (M : List D) (σ : L2.St) (r : List Addr) (H : Hp) (Q : Option Int → Hp → Prop),
  StOk G r M H → EnvOk G r H σ δ → Post G W σ (fun o _ _ H => Q o H) r H (m δ M) → WO X e σ H Q
theorem SO.none : SO G X none dNoP := ⟨fun W tk δ M σ r H Q S E p => ⟨_, po_none, p r H S.le S⟩⟩
theorem SO.some {e : Expr} {m : DE} (h : SE G X e m) : SO G X (some e) (dPart m) := by
  refine ⟨?_⟩
  intro W tk δ M σ r H Q S E p
  refine ⟨_, po_some (peW e), ?_⟩
  refine h.ru W tk δ M σ r H _ S E (p.bnd.imp ?_)
  intro d1 M1 r1 H1 L1 S1 h1 v1 R1
  cases R1 with
  | int => exact ⟨_, rfl, h1 r1 H1 S1.le S1⟩
  | _ => exact h1.elim
theorem cut_reps {r : List Addr} {H : Hp} {vs : List V} {ds : List D} (h : Reps G r H vs ds) (lo hi : Option Int) : Reps G r H (cutV vs lo hi) (cutD ds lo hi) := by
  unfold cutV cutD
  rw [h.length]
  exact (h.drop _).take _
/-- any slice: by values -/
def lW (X : Cx) : V → Option Int → Option Int → Hp → VK → Prop := fun x lo hi H Q => ∃ rr, SlR X rr ∧ rr x lo hi H Q
theorem lW_sl : SlR X (lW X) := fun pins s σ H x v vl vu lo hi sl Q I rx h1 h2 h3 ⟨_, h, q⟩ => h pins s σ H x v vl vu lo hi sl Q I rx h1 h2 h3 q
theorem SE.sli (hK : G.K = X.K) {a : Expr} {lo hi : Option Expr} {pos p2 : Pos} {ma : DE} {ml mh : DO} (ha : SE G X a ma) (hl : SO G X lo ml) (hh : SO G X hi mh) : SE G X (.Subscript a (.Slice lo hi none p2) pos) (dSli ma ml mh) := by
  refine ⟨?_⟩
  intro W tk δ M σ r H Q S E p
  refine (pe_slice lW_sl (peW a) (poW lo) (poW hi)).we ?_
  refine ha.ru W tk δ M σ r H _ S E (p.bnd.imp ?_)
  intro d1 M1 r1 H1 L1 S1 h1 v1 R1
  refine hl.ru W tk δ M1 σ r1 H1 _ S1 (E.le L1) (h1.bnd.imp ?_)
  intro l M2 r2 H2 L2 S2 h2
  refine hh.ru W tk δ M2 σ r2 H2 _ S2 (E.le (L1.trans L2)) (h2.bnd.imp ?_)
  intro h M3 r3 H3 L3 S3 h3
  have R := R1.le (L2.trans L3)
  cases e : sliM M3 d1 l h with
  | none => rw [e] at h3; exact h3.elim
  | some z =>
    rw [e] at h3
    unfold sliM at e
    cases ev : valD M3 d1 with
    | str y =>
      rw [ev] at e
      have e2 : (if y.length ≤ sizeLine then some (D.str (cutS y l h)) else none) = some z := e
      by_cases c : y.length ≤ sizeLine
      · rw [if_pos c] at e2
        cases e2
        have q := val_leaf S3 R (by rw [ev]; rfl)
        rw [ev] at q
        subst q
        cases R
        exact ⟨_, sl_str, y, rfl, c, h3 r3 H3 S3.le S3 _ .str⟩
      · rw [if_neg c] at e2; cases e2
    | lst ds =>
      rw [ev] at e
      cases e
      obtain ⟨q, vs, rfl, hq, hv⟩ := val_lst S3 R ev
      refine ⟨_, sl_list, q, vs, rfl, .of hq, fun o ho => ?_⟩
      obtain ⟨L, S'⟩ := S3.new (o := .lst (cutV vs l h)) ho
      exact h3 r3 _ L S' _ (.lst (off_new (S3.fresh ho)) ((cut_reps hv l h).le L))
    | scr ds =>
      rw [ev] at e
      cases e
      obtain ⟨q, vs, rfl, hq, hv⟩ := val_scr S3 R ev
      refine ⟨_, sl_list, q, vs, rfl, hK ▸ hq, fun o ho => ?_⟩
      obtain ⟨L, S'⟩ := S3.new (o := .lst (cutV vs l h)) ho
      exact h3 r3 _ L S' _ (.lst (off_new (S3.fresh ho)) ((cut_reps hv l h).le L))
    | tup ds =>
      rw [ev] at e
      cases e
      obtain ⟨q, vs, rfl, hq, hv, ed⟩ := val_tup S3 R ev
      subst ed
      refine ⟨_, sl_tupA, q, vs, rfl, hK ▸ hq, fun c => ?_, fun _ o ho => ?_⟩
      · have ec : cutD ds l h = ds := by
          unfold cutD
          rw [← hv.length, c.1, c.2, hv.length]
          simp
        rw [ec] at h3
        exact h3 r3 H3 S3.le S3 _ R
      · obtain ⟨L, S'⟩ := S3.new (o := .tup (cutV vs l h)) ho
        exact h3 r3 _ L S' _ (.tup (.of (off_new (S3.fresh ho))) ((cut_reps hv l h).le L))
    | _ => rw [ev] at e; cases e

/-! ### calls of built-in functions and types, by values -/
def CaS (G : Gd) (X : Cx) (f : Value) (g : List D → Ev D) : Prop := ∀ (W : WX), Takes X W → ∀ (σ : L2.St) (r : List Addr) (M : List D) (H : Hp) (xs : List V) (ds : List D) (Q : VK),
  StOk G r M H → Reps G r H xs ds → Post G W σ (JE G Q) r H (g ds M) → cW X f xs H Q
def dBlt (g : List D → Ev D) (a : DA) : DE := fun δ => bnd (a δ) g
theorem SE.bltF {x : Str} {p pos : Pos} {e : Expr} {es : List Expr} {id : String} {g : List D → Ev D} {m : DA} (hc : CaS G X (.builtin id) g) (hg : Gl X x) (hm : X.mg x = none) (hv : bootBuiltins x = some (.builtin id)) (ha : SA G X (e :: es) m)
    (hn : x ≠ "__name__") (hdb : (x == ("__debug__" : Str)) = false) (he : starEach (e :: es) X.env = (false, eval e X.env) :: starEach es X.env) (hpl : (backTo pos (starEach es X.env)).any (·.1) = false) : SE G X (.Call (.Name x p) (e :: es) [] pos) (dBlt g m) := by
  refine ⟨?_⟩
  intro W tk δ M σ r H Q S E q
  refine (pe_callB (cW_op _) hg hm hv (paW (e :: es)) hn hdb he hpl).we ?_
  refine ha.ru W tk δ M σ r H _ S E (q.bnd.imp ?_)
  intro ds M1 r1 H1 L1 S1 h1 vs Rs
  exact hc W tk σ r1 M1 H1 vs ds Q S1 Rs h1
theorem SE.bltT {x : Str} {p pos : Pos} {e : Expr} {es : List Expr} {T : String} {g : List D → Ev D} {m : DA} (hc : CaS G X (.type T) g) (hg : Gl X x) (hm : X.mg x = none) (hv : bootBuiltins x = some (.type T)) (ha : SA G X (e :: es) m)
    (hn : x ≠ "__name__") (hdb : (x == ("__debug__" : Str)) = false) (he : starEach (e :: es) X.env = (false, eval e X.env) :: starEach es X.env) (hpl : (backTo pos (starEach es X.env)).any (·.1) = false) : SE G X (.Call (.Name x p) (e :: es) [] pos) (dBlt g m) := by
  refine ⟨?_⟩
  intro W tk δ M σ r H Q S E q
  refine (pe_callTy (cW_op _) hg hm hv (paW (e :: es)) hn hdb he hpl).we ?_
  refine ha.ru W tk δ M σ r H _ S E (q.bnd.imp ?_)
  intro ds M1 r1 H1 L1 S1 h1 vs Rs
  exact hc W tk σ r1 M1 H1 vs ds Q S1 Rs h1
end
end Iv
/-! isinstance; len, int, abs, list, tuple, all, any, str, bool, repr. -/
namespace Iv
open PySem PySem.Spec PyProof.Rows L2

/-! ### isinstance -/
inductive Ty where
  | b (n : String) | o (c : Nat)
  deriving DecidableEq
def tyVal (G : Gd) : Ty → Value
  | .b n => .type n
  | .o c => .ref (G.cls c)
/-- which of the text's classes are known, and what isinstance answers of two classes -/
structure Kt where
  ok : Nat → Bool
  sub : Ty → Ty → Option Bool
/-- what isinstance asks of an instance's class -/
structure InsTy (K : PySem.W.Frag) (C : Addr) : Prop where
  cl : Cls K C
  ha : PySem.W.findIn K (.ref C) "__class__" = some (some (.builtin "object.__class__"))
  hn : PySem.W.specialIn K (.builtin "object.__class__") "__get__" = some (some (.builtin "getset_descriptor.__get__"))
  htk : PySem.W.takesIn K (.builtin "object.__class__") = some true
  hm : PySem.W.mroIn K C (.type "object") = some true
/-- what isinstance asks of an exception's class -/
structure ExcTy (K : PySem.W.Frag) (C : Addr) : Prop where
  cl : (PySem.W.clsIn K C).isSome = true
  ga : PySem.W.findIn K (.ref C) "__getattribute__" = some (some (.builtin "BaseException.__getattribute__"))
  gt : PySem.W.findIn K (.ref C) "__getattr__" = some none
  su : PySem.W.subIn K (.ref C) (.type "BaseException") = some true
  ha : PySem.W.findIn K (.ref C) "__class__" = some (some (.builtin "object.__class__"))
  hn : PySem.W.specialIn K (.builtin "object.__class__") "__get__" = some (some (.builtin "getset_descriptor.__get__"))
  htk : PySem.W.takesIn K (.builtin "object.__class__") = some true
  hm : PySem.W.mroIn K C (.type "object") = some true
structure KtOk (G : Gd) (kt : Kt) : Prop where
  ins : ∀ c, kt.ok c = true → isEx c = false → InsTy G.K (G.cls c)
  exc : ∀ c, kt.ok c = true → isEx c = true → ExcTy G.K (G.cls c)
  sub : ∀ a b v, kt.sub a b = some v → PySem.W.kitOne G.K (tyVal G a) (tyVal G b) = some v
/-- a value's class: as HandS has it, or an exception that is held as a value -/
inductive TyY (K : PySem.W.Frag) (H : Hp) : V → Value → Prop where
  | of {x : V} {t : Value} (h : TyX K H x t) : TyY K H x t
  | exn {a C dx : Addr} {fs : List (Str × V)} (h : H a = some (exo a C (some dx))) (h2 : H dx = some (exd dx fs)) (k : ExcTy K C) : TyY K H (.ref a) (.ref C)
  | exn0 {a C : Addr} (h : H a = some (exo a C none)) (k : ExcTy K C) : TyY K H (.ref a) (.ref C)
section
variable {X : Cx} {pins : List (Addr × Obj)} {σ : L2.St} {H : Hp} {s : Shared}
theorem kitY {x : V} {u t : Value} (I : Inv X pins σ H s) (rx : RelV x u) (ty : TyY X.K H x t) : ∃ P : Heap → Prop, PySem.W.KitX X.K u t P ∧ P s.heap ∧ u ≠ .builtin "__main__.__loader__#opaque" := by
  cases ty with
  | of h => exact kit_of I rx h
  | exn h h2 k =>
    cases rx
    obtain ⟨t1, ho⟩ := exo_at I.hok h
    obtain ⟨mA, ⟨od, es, ep, hd, _⟩, _⟩ := exd_at I.hok h2
    exact ⟨_, PySem.W.kitx_exc k.cl k.ga k.gt k.su k.ha k.hn k.htk k.hm, (⟨ho, rfl, rfl, hd⟩ : PySem.W.InstAt s.heap _ _ _ (some od)), fun z => nomatch z⟩
  | exn0 h k =>
    cases rx
    obtain ⟨t1, ho⟩ := exo_at I.hok h
    exact ⟨_, PySem.W.kitx_exc k.cl k.ga k.gt k.su k.ha k.hn k.htk k.hm, (⟨ho, rfl, rfl, True.intro⟩ : PySem.W.InstAt s.heap _ _ _ none), fun z => nomatch z⟩
/-- isinstance(x, c); isinstance(x, (c1, ..)) -/
def rIsY (K : PySem.W.Frag) : List V → Hp → VK → Prop := fun xs H Q => ∃ (x c : V) (t u : Value) (b : Bool), xs = [x, c] ∧ ClsV c u ∧ TyY K H x t ∧ PySem.W.kitOne K t u = some b ∧ Q (.bl b) H
def rIsYT (K : PySem.W.Frag) : List V → Hp → VK → Prop := fun xs H Q => ∃ (x : V) (tp : Addr) (cs : List V) (t : Value) (us : List Value) (b : Bool), xs = [x, .ref tp] ∧ H tp = some (.tup cs) ∧ Paired ClsV cs us ∧ TyY K H x t ∧ PySem.W.kitAny K t us = some b ∧ Q (.bl b) H
theorem call_isY {X : Cx} : CallR X (.builtin "isinstance") (rIsY X.K) := fun pins s σ H xs us Q I r ⟨x, c, t, u, b, ex, k, ty, e, q⟩ => by
  subst ex
  obtain ⟨v1, v2, rfl, rx, rc⟩ := vals2 r
  obtain rfl := k.eq rc
  obtain ⟨P, Z, p, ne⟩ := kitY I rx ty
  exact PySem.W.kia_one Z I.kIn p e ne fun tk => ⟨.bl b, H, I.tok tk, rfl, q⟩
theorem call_isYT {X : Cx} : CallR X (.builtin "isinstance") (rIsYT X.K) := fun pins s σ H xs us Q I r ⟨x, tp, cs, t, ws, b, ex, hT, k, ty, e, q⟩ => by
  subst ex
  obtain ⟨v1, v2, rfl, rx, rc⟩ := vals2 r
  cases rc
  obtain ⟨P, Z, p, ne⟩ := kitY I rx ty
  obtain ⟨_, its, rv, o, q1, q2, n, q3⟩ := (show ObjOk X.prog X.w H s.heap tp (.tup cs) from I.hok tp _ hT)
  obtain rfl := ClsV.all k rv
  cases o
  cases q2
  cases q3
  exact PySem.W.kia_tup Z I.kIn p q1 e ne fun tk => ⟨.bl b, H, I.tok tk, rfl, q⟩
end
/-- the class of data -/
def tyD (kt : Kt) : D → Option Ty
  | .non => some (.b "NoneType")
  | .bl _ => some (.b "bool")
  | .int _ => some (.b "int")
  | .str _ => some (.b "str")
  | .lst _ => some (.b "list")
  | .scr _ => some (.b "list")
  | .tup _ => some (.b "tuple")
  | .dct _ _ => some (.b "dict")
  | .ins c _ _ => if kt.ok c then some (.o c) else none
  | _ => none
def subAny (kt : Kt) (t : Ty) : List Ty → Option Bool
  | [] => some false
  | c :: r => match kt.sub t c with
    | some true => some true
    | some false => subAny kt t r
    | none => none
/-- built-in classes -/
def subB (x y : String) : Option Bool :=
  if x = y then some true else if x = "bool" ∧ y = "int" then some true else if ["NoneType", "bool", "int", "str", "list", "tuple", "dict"].contains x ∧ ["bool", "int", "str", "list", "tuple", "dict"].contains y then some false else none
theorem subB_kit {x y : String} {v : Bool} (h : subB x y = some v) : kitB x y = some v := by
  unfold subB at h
  split at h
  · rename_i e
    subst e
    cases h
    unfold kitB
    rw [if_pos (by simp)]
  · split at h
    · rename_i e
      obtain ⟨rfl, rfl⟩ := e
      cases h
      decide +kernel
    · split at h
      · rename_i n1 n2 e
        cases h
        obtain ⟨e1, e2⟩ := e
        simp only [List.contains_eq_mem, decide_eq_true_eq, List.mem_cons, List.not_mem_nil, or_false] at e1 e2
        rcases e1 with rfl | rfl | rfl | rfl | rfl | rfl | rfl <;> rcases e2 with rfl | rfl | rfl | rfl | rfl | rfl <;> first | exact absurd rfl n1 | exact absurd ⟨rfl, rfl⟩ n2 | decide +kernel
      · cases h
section
variable {X : Cx} {G : Gd} {kt : Kt}
theorem tyY_of (k : KtOk G kt) (hK : G.K = X.K) {r : List Addr} {M : List D} {H : Hp} {x : V} {d : D} {t : Ty} (S : StOk G r M H) (h : Rep G r H x d) (e : tyD kt (valD M d) = some t) : TyY X.K H x (tyVal G t) := by
  have ofT : ∀ {a : Addr} {vs : List V}, SqT X.K H a vs → TyX X.K H (.ref a) (.type "tuple") := fun {a vs} hs => by
    rcases hs with (hs | ⟨o, hs⟩) | ⟨o, its, n, h1, h2, _⟩
    · exact .base (.tup hs)
    · exact .fTuple hs
    · exact .kTuple h1 h2
  have ofL : ∀ {a : Addr} {vs : List V}, SqL X.K H a vs → TyX X.K H (.ref a) (.type "list") := fun {a vs} hs => by
    rcases hs with (hs | ⟨o, hs⟩) | ⟨o, its, n, h1, h2, _⟩
    · exact .base (.lst hs)
    · exact .base (.frz hs)
    · exact .kList h1 h2
  have ofI : ∀ {a dx : Addr} {c : Nat} {fs : List (Str × V)}, isEx c = false → H a = some (.ins (G.cls c) dx fs) → (if kt.ok c then some (Ty.o c) else none) = some t → TyX X.K H (.ref a) (tyVal G t) := fun {a dx c fs} hx hs e => by
    by_cases o : kt.ok c = true
    · rw [if_pos o] at e
      cases e
      have z := k.ins c o hx
      rw [hK] at z
      exact .base (.ins hs z.cl z.ha z.hn z.htk z.hm)
    · rw [if_neg o] at e
      cases e
  cases h with
  | non => cases e; exact .of (.base .non)
  | bl => cases e; exact .of (.base (.bl _))
  | int => cases e; exact .of (.base (.int _))
  | str => cases e; exact .of (.base (.str _))
  | lst h1 _ => cases e; exact .of (.base (.lst (off_some.mp h1).2))
  | scr h1 _ => cases e; exact .of (ofL (hK ▸ sqL_off h1))
  | tup h1 _ => cases e; exact .of (ofT (hK ▸ sqT_off h1))
  | dct h1 _ => cases e; exact .of (.base (.dK (off_some.mp h1).2))
  | ins hx h1 _ => exact .of (ofI hx (off_some.mp h1).2 e)
  | exn hx h1 h2 _ =>
    rename_i c dx fs vs a
    have e' : (if kt.ok c then some (Ty.o c) else none) = some t := e
    by_cases o : kt.ok c = true
    · rw [if_pos o] at e'
      cases e'
      exact .exn (off_some.mp h1).2 (off_some.mp h2).2 (hK ▸ k.exc c o hx)
    · rw [if_neg o] at e'; cases e'
  | exn0 hx h1 =>
    rename_i a c
    have e' : (if kt.ok c then some (Ty.o c) else none) = some t := e
    by_cases o : kt.ok c = true
    · rw [if_pos o] at e'
      cases e'
      exact .exn0 (off_some.mp h1).2 (hK ▸ k.exc c o hx)
    · rw [if_neg o] at e'; cases e'
  | fn => cases e
  | cls => cases e
  | ty => cases e
  | cell h1 =>
    rename_i a n
    cases em : M[n]? with
    | none =>
      have ev : valD M (.cell n) = .cell n := by show (match M[n]? with | some o => o | none => D.cell n) = _; rw [em]
      rw [ev] at e
      cases e
    | some o =>
      have ev : valD M (.cell n) = o := by show (match M[n]? with | some o => o | none => D.cell n) = _; rw [em]
      rw [ev] at e
      have q := S.at_ n a _ h1 em
      cases o with
      | lst _ => cases e; obtain ⟨vs, q, _⟩ := q; exact .of (.base (.lst q))
      | dct _ _ => cases e; obtain ⟨vs, q, _⟩ := q; exact .of (.base (.dK q))
      | ins _ _ _ => obtain ⟨dx, fs, q, _, _, hx⟩ := q; exact .of (ofI hx q e)
      | _ => exact q.elim
theorem subAny_kit (k : KtOk G kt) {t : Ty} : ∀ {Ts : List Ty} {b : Bool}, subAny kt t Ts = some b → PySem.W.kitAny G.K (tyVal G t) (Ts.map (tyVal G)) = some b
  | [], b, h => by cases h; rfl
  | c :: Ts, b, h => by
    unfold subAny at h
    show (match PySem.W.kitOne G.K (tyVal G t) (tyVal G c) with | some true => some true | some false => PySem.W.kitAny G.K (tyVal G t) (Ts.map (tyVal G)) | none => none) = some b
    cases e : kt.sub t c with
    | none => rw [e] at h; cases h
    | some v =>
      rw [e] at h
      rw [k.sub t c v e]
      cases v with
      | true => exact h
      | false => exact subAny_kit k h
def isiM (kt : Kt) (Ts : List Ty) (M : List D) (d : D) : Option D := match tyD kt (valD M d) with
  | some t => (subAny kt t Ts).map .bl
  | none => none
def dIsi (kt : Kt) (Ts : List Ty) (a : DE) : DE := fun δ => bnd (a δ) fun x M => optE (isiM kt Ts M x) M
/-- a class as a value -/
def clV (G : Gd) : Ty → V
  | .b n => .ty n
  | .o c => .ref (G.cls c)
theorem clsV (t : Ty) : ClsV (clV G t) (tyVal G t) := by
  cases t with
  | b n => exact .ty n
  | o c => exact .own _
theorem clsVs : ∀ Ts : List Ty, Paired ClsV (Ts.map (clV G)) (Ts.map (tyVal G))
  | [] => .nil
  | t :: Ts => .cons (clsV t) (clsVs Ts)
theorem isi_post {W : WX} {σ : L2.St} {Q : VK} {r : List Addr} {M : List D} {H : Hp} {d : D} {Ts : List Ty} (p : Post G W σ (JE G Q) r H (optE (isiM kt Ts M d) M)) (S : StOk G r M H) :
    ∃ t b, tyD kt (valD M d) = some t ∧ subAny kt t Ts = some b ∧ Q (.bl b) H := by
  unfold isiM at p
  cases e : tyD kt (valD M d) with
  | none => rw [e] at p; exact p.elim
  | some t =>
    rw [e] at p
    cases e2 : subAny kt t Ts with
    | none => simp only [e2] at p; exact p.elim
    | some b =>
      simp only [e2] at p
      exact ⟨t, b, rfl, e2, p r H S.le S _ .bl⟩
theorem SE.isi1 (k : KtOk G kt) (hK : G.K = X.K) {a c : Expr} {p pos : Pos} {ma : DE} {t : Ty} (hg : Gl X "isinstance") (hm : X.mg "isinstance" = none) (ha : SE G X a ma) (hc : PE X c (tC (clV G t)))
    (h1 : starEach [a, c] X.env = (false, eval a X.env) :: starEach [c] X.env) (h2 : starEach [c] X.env = (false, eval c X.env) :: starEach [] X.env) (hpl : (backTo pos (starEach [c] X.env)).any (·.1) = false) : SE G X (.Call (.Name "isinstance" p) [a, c] [] pos) (dIsi kt [t] ma) := by
  refine ⟨?_⟩
  intro W tk δ M σ r H Q S E q
  refine (pe_callB call_isY hg hm (by decide +kernel) (pa_cons (peW a) (pa_cons hc pa_nil h2) h1) (by decide) (by decide) h1 hpl).we ?_
  refine ha.ru W tk δ M σ r H _ S E (q.bnd.imp ?_)
  intro d1 M1 r1 H1 L1 S1 q1 v1 R1
  obtain ⟨t', b, e1, e2, fin⟩ := isi_post q1 S1
  refine ⟨v1, clV G t, _, _, b, rfl, clsV t, tyY_of k hK S1 R1 e1, ?_, fin⟩
  unfold subAny at e2
  cases e : kt.sub t' t with
  | none => rw [e] at e2; cases e2
  | some v =>
    rw [e] at e2
    rw [← hK, k.sub t' t v e]
    cases v with
    | true => exact e2
    | false => exact e2
theorem SE.isiT (k : KtOk G kt) (hK : G.K = X.K) {a : Expr} {cs : List Expr} {p pos p2 : Pos} {x1 : Nat} {ma : DE} {Ts : List Ty} (hg : Gl X "isinstance") (hm : X.mg "isinstance" = none) (ha : SE G X a ma) (hc : PA X cs (fun _ H Q => Q (Ts.map (clV G)) H)) (hz : Ts.length ≤ sizeLine)
    (h1 : starEach [a, .Tuple cs x1 p2] X.env = (false, eval a X.env) :: starEach [.Tuple cs x1 p2] X.env) (h2 : starEach [.Tuple cs x1 p2] X.env = (false, eval (.Tuple cs x1 p2) X.env) :: starEach [] X.env) (hpl : (backTo pos (starEach [.Tuple cs x1 p2] X.env)).any (·.1) = false) :
    SE G X (.Call (.Name "isinstance" p) [a, .Tuple cs x1 p2] [] pos) (dIsi kt Ts ma) := by
  refine ⟨?_⟩
  intro W tk δ M σ r H Q S E q
  refine (pe_callB call_isYT hg hm (by decide +kernel) (pa_cons (peW a) (pa_cons (pe_tup hc) pa_nil h2) h1) (by decide) (by decide) h1 hpl).we ?_
  refine ha.ru W tk δ M σ r H _ S E (q.bnd.imp ?_)
  intro d1 M1 r1 H1 L1 S1 q1 v1 R1
  refine ⟨by rw [List.length_map]; exact hz, fun o ho => ?_⟩
  obtain ⟨L, S'⟩ := S1.new (o := .tup (Ts.map (clV G))) ho
  obtain ⟨t', b, e1, e2, fin⟩ := isi_post (q1.mono L) S'
  exact ⟨v1, o, _, _, _, b, rfl, upd_same, clsVs Ts, tyY_of k hK S' (R1.le L) e1, by rw [← hK]; exact subAny_kit k e2, fin⟩

/-! ### len, abs, int, bool, str -/
def lenM (M : List D) (x : D) : Option D := match valD M x with
  | .str z => if z.length ≤ sizeLine then some (.int (z.length : Nat)) else none
  | _ => match seqD M x with
    | some ds => some (.int (ds.length : Nat))
    | none => none
def lenO : List D → Ev D := fun ds M => match ds with
  | [x] => optE (lenM M x) M
  | _ => .stk
theorem CaS.len (hK : G.K = X.K) : CaS G X (.builtin "len") lenO := by
  intro W tk σ r M H xs ds Q S hs p
  cases hs with
  | nil => exact p.elim
  | cons h hs =>
    cases hs with
    | cons _ _ => exact p.elim
    | nil =>
      rename_i v d
      have p' : Post G W σ (JE G Q) r H (optE (lenM M d) M) := p
      cases e : lenM M d with
      | none => rw [e] at p'; exact p'.elim
      | some z =>
        rw [e] at p'
        have k : ∀ v, Rep G r H v z → Q v H := fun v hv => p' r H S.le S v hv
        unfold lenM at e
        have seqs : (match seqD M d with | some ds => some (D.int (ds.length : Nat)) | none => none) = some z → cW X (.builtin "len") [v] H Q := by
          intro e
          cases es : seqD M d with
          | none => rw [es] at e; cases e
          | some ds =>
            rw [es] at e
            cases e
            obtain ⟨q, vs, rfl, hq, hv⟩ := seq_at S h es
            rw [hK] at hq
            exact call_len_seq.rw ⟨q, vs, rfl, hq, by rw [hv.length]; exact k _ .int⟩
        cases ev : valD M d with
        | str y =>
          rw [ev] at e
          have e2 : (if y.length ≤ sizeLine then some (D.int (y.length : Nat)) else none) = some z := e
          by_cases c : y.length ≤ sizeLine
          · rw [if_pos c] at e2
            cases e2
            have q := val_leaf S h (by rw [ev]; rfl)
            rw [ev] at q
            subst q
            cases h
            exact call_len_str.rw ⟨y, rfl, c, k _ .int⟩
          · rw [if_neg c] at e2; cases e2
        | _ => rw [ev] at e; exact seqs e
def oneO (g : D → Option D) : List D → Ev D := fun ds M => match ds with
  | [x] => optE (g x) M
  | _ => .stk
/-- a call of one value that is told without the cells -/
theorem CaS.one {f : Value} {g : D → Option D} (h : ∀ (r : List Addr) (H : Hp) (x : V) (d z : D) (Q : VK), Rep G r H x d → g d = some z → (∀ v, Rep G r H v z → Q v H) → cW X f [x] H Q) :
    CaS G X f (oneO g) := by
  intro W tk σ r M H xs ds Q S hs p
  cases hs with
  | nil => exact p.elim
  | cons h1 hs =>
    cases hs with
    | cons _ _ => exact p.elim
    | nil =>
      rename_i v d
      have p' : Post G W σ (JE G Q) r H (optE (g d) M) := p
      cases e : g d with
      | none => rw [e] at p'; exact p'.elim
      | some z =>
        rw [e] at p'
        exact h r H v d z Q h1 e fun v' R => p' r H S.le S v' R
def absD : D → Option D
  | .int i => some (.int (if i < 0 then -i else i))
  | _ => none
theorem CaS.abs : CaS G X (.builtin "abs") (oneO absD) := CaS.one fun r H x d z Q h e k => by
  cases h with
  | int => cases e; exact call_abs.rw ⟨_, rfl, k _ .int⟩
  | _ => cases e
def intD : D → Option D
  | .int i => some (.int i)
  | .bl b => some (.int (if b then 1 else 0))
  | _ => none
theorem CaS.int : CaS G X (.type "int") (oneO intD) := CaS.one fun r H x d z Q h e k => by
  cases h with
  | int => cases e; exact call_int1.rw (.inl ⟨_, rfl, k _ .int⟩)
  | bl => cases e; exact call_int1.rw (.inr ⟨_, rfl, k _ .int⟩)
  | _ => cases e
def strD : D → Option D
  | .int i => if i.natAbs.log2 < 1920 then some (.str (toString i)) else none
  | .str x => some (.str x)
  | _ => none
theorem CaS.str : CaS G X (.type "str") (oneO strD) := CaS.one fun r H x d z Q h e k => by
  cases h with
  | int =>
    rename_i i
    have e' : (if i.natAbs.log2 < 1920 then some (D.str (toString i)) else none) = some z := e
    by_cases c : i.natAbs.log2 < 1920
    · rw [if_pos c] at e'; cases e'; exact call_str_int.rw ⟨_, rfl, c, k _ .str⟩
    · rw [if_neg c] at e'; cases e'
  | str => cases e; exact SkE.call_str_str.rw ⟨_, rfl, k _ .str⟩
  | _ => cases e

/-! ### list, tuple -/
def listO : List D → Ev D := fun ds M => match ds with
  | [x] => optE ((seqD M x).map .lst) M
  | _ => .stk
def tupleO : List D → Ev D := fun ds M => match ds with
  | [x] => optE ((seqD M x).map .tup) M
  | _ => .stk
theorem CaS.list (hK : G.K = X.K) : CaS G X (.type "list") listO := by
  intro W tk σ r M H xs ds Q S hs p
  cases hs with
  | nil => exact p.elim
  | cons h hs =>
    cases hs with
    | cons _ _ => exact p.elim
    | nil =>
      rename_i v d
      have p' : Post G W σ (JE G Q) r H (optE ((seqD M d).map .lst) M) := p
      cases es : seqD M d with
      | none => rw [es] at p'; exact p'.elim
      | some ds =>
        rw [es] at p'
        obtain ⟨q, vs, rfl, hq, hv⟩ := seq_at S h es
        rw [hK] at hq
        refine call_list_of.rw ⟨q, vs, rfl, hq, fun o ho => ?_⟩
        obtain ⟨L, S'⟩ := S.new (o := .lst vs) ho
        exact p' r _ L S' _ (.lst (off_new (S.fresh ho)) (hv.le L))
theorem CaS.tuple (hK : G.K = X.K) : CaS G X (.type "tuple") tupleO := by
  intro W tk σ r M H xs ds Q S hs p
  cases hs with
  | nil => exact p.elim
  | cons h hs =>
    cases hs with
    | cons _ _ => exact p.elim
    | nil =>
      rename_i v d
      have p' : Post G W σ (JE G Q) r H (optE ((seqD M d).map .tup) M) := p
      have lst : ∀ {a : Addr} {vs : List V} {ds : List D}, SqL X.K H a vs → Reps G r H vs ds → Post G W σ (JE G Q) r H (optE (some (D.tup ds)) M) → cW X (.type "tuple") [.ref a] H Q := by
        intro a vs ds hq hv p
        refine call_tuple_of.rw ⟨a, vs, rfl, .inl ⟨hq, fun o ho => ?_⟩⟩
        obtain ⟨L, S'⟩ := S.new (o := .tup vs) ho
        exact p r _ L S' _ (.tup (.of (off_new (S.fresh ho))) (hv.le L))
      unfold seqD at p'
      cases ev : valD M d with
      | lst ds =>
        rw [ev] at p'
        obtain ⟨q, vs, rfl, hq, hv⟩ := val_lst S h ev
        exact lst (.of hq) hv p'
      | scr ds =>
        rw [ev] at p'
        obtain ⟨q, vs, rfl, hq, hv⟩ := val_scr S h ev
        exact lst (hK ▸ hq) hv p'
      | tup ds =>
        rw [ev] at p'
        obtain ⟨q, vs, rfl, hq, hv, ed⟩ := val_tup S h ev
        subst ed
        exact call_tuple_of.rw ⟨q, vs, rfl, .inr ⟨hK ▸ hq, p' r H S.le S _ h⟩⟩
      | _ => rw [ev] at p'; exact p'.elim

/-! ### all, any -/
/-- items that are truth values -/
def bools : List D → Option (List Bool)
  | [] => some []
  | .bl b :: ds => (bools ds).map (b :: ·)
  | _ :: _ => none
theorem bools_eq : ∀ {ds : List D} {bs : List Bool}, bools ds = some bs → ds = bs.map D.bl
  | [], _, h => by cases h; rfl
  | .bl b :: ds, bs, h => by
    have h' : (bools ds).map (b :: ·) = some bs := h
    cases e : bools ds with
    | none => rw [e] at h'; cases h'
    | some cs =>
      rw [e] at h'
      cases h'
      rw [bools_eq e]
      rfl
  | .non :: _, _, h => by cases h
  | .int _ :: _, _, h => by cases h
  | .str _ :: _, _, h => by cases h
  | .lst _ :: _, _, h => by cases h
  | .tup _ :: _, _, h => by cases h
  | .dct _ _ :: _, _, h => by cases h
  | .ins _ _ _ :: _, _, h => by cases h
  | .scr _ :: _, _, h => by cases h
  | .cell _ :: _, _, h => by cases h
  | .fn _ :: _, _, h => by cases h
  | .cls _ :: _, _, h => by cases h
  | .ty _ :: _, _, h => by cases h
def boolsL (M : List D) (d : D) : Option (List Bool) := match valD M d with
  | .lst ds => bools ds
  | _ => none
def allO : List D → Ev D := fun ds M => match ds with
  | [x] => optE ((boolsL M x).map fun bs => .bl (bs.all id)) M
  | _ => .stk
def anyO : List D → Ev D := fun ds M => match ds with
  | [x] => optE ((boolsL M x).map fun bs => .bl (bs.any id)) M
  | _ => .stk
theorem boolsL_at {r : List Addr} {M : List D} {H : Hp} {x : V} {d : D} {bs : List Bool} (S : StOk G r M H) (h : Rep G r H x d) (e : boolsL M d = some bs) : ∃ a, x = .ref a ∧ H a = some (.lst (bs.map V.bl)) := by
  unfold boolsL at e
  cases ev : valD M d with
  | lst ds =>
    rw [ev] at e
    obtain ⟨a, vs, e1, e2, e3⟩ := val_lst S h ev
    rw [bools_eq e] at e3
    rw [Reps.of_bls e3] at e2
    exact ⟨a, e1, e2⟩
  | _ => rw [ev] at e; cases e
theorem CaS.all (hc : X.calm = true) : CaS G X (.builtin "all") allO := by
  intro W tk σ r M H xs ds Q S hs p
  cases hs with
  | nil => exact p.elim
  | cons h hs =>
    cases hs with
    | cons _ _ => exact p.elim
    | nil =>
      rename_i v d
      have p' : Post G W σ (JE G Q) r H (optE ((boolsL M d).map fun bs => .bl (bs.all id)) M) := p
      cases es : boolsL M d with
      | none => rw [es] at p'; exact p'.elim
      | some bs =>
        rw [es] at p'
        obtain ⟨a, rfl, e2⟩ := boolsL_at S h es
        exact (cr_all hc).rw ⟨a, bs, rfl, .of e2, p' r H S.le S _ .bl⟩
theorem CaS.any (hc : X.calm = true) : CaS G X (.builtin "any") anyO := by
  intro W tk σ r M H xs ds Q S hs p
  cases hs with
  | nil => exact p.elim
  | cons h hs =>
    cases hs with
    | cons _ _ => exact p.elim
    | nil =>
      rename_i v d
      have p' : Post G W σ (JE G Q) r H (optE ((boolsL M d).map fun bs => .bl (bs.any id)) M) := p
      cases es : boolsL M d with
      | none => rw [es] at p'; exact p'.elim
      | some bs =>
        rw [es] at p'
        obtain ⟨a, rfl, e2⟩ := boolsL_at S h es
        exact (cr_any hc).rw ⟨a, bs, rfl, .of e2, p' r H S.le S _ .bl⟩
end
end Iv
/-! Methods of built-in types; cells that are written. -/
namespace Iv
open PySem PySem.Spec PyProof.Rows L2

section
variable {G : Gd} {r : List Addr} {H : Hp} {M : List D}
/-- a cell is written -/
theorem StOk.write (S : StOk G r M H) {n : Nat} {a : Addr} {o : HO} {d : D} (hn : r[n]? = some a) (hd : Le r H r (upd H a o) → CellAt G r (upd H a o) a d) : Le r H r (upd H a o) ∧ StOk G r (M.set n d) (upd H a o) := by
  have ha : a ∈ r := List.mem_of_getElem? hn
  have hlt : n < r.length := (List.getElem?_eq_some_iff.mp hn).1
  have l : Le r H r (upd H a o) := ⟨⟨[], by simp, fun _ z => nomatch z⟩, fun b u e hb => by rw [upd_ne (show b ≠ a from fun z => hb (by rw [z]; exact ha))]; exact e, fun b hb => by
    by_cases e : b = a
    · subst e; rw [upd_same]; intro z; cases z
    · rw [upd_ne e]; exact S.there b hb⟩
  refine ⟨l, by rw [List.length_set]; exact S.len, S.nd, fun m b o' h1 h2 => ?_, fun b hb => ⟨by
    by_cases e : b = a
    · subst e; rw [upd_same]; intro z; cases z
    · rw [upd_ne e]; exact (S.hid b hb).1, (S.hid b hb).2⟩⟩
  by_cases e : n = m
  · subst e
    rw [hn] at h1
    cases h1
    rw [List.getElem?_set_self (by rw [← S.len]; exact hlt)] at h2
    cases h2
    exact hd l
  · rw [List.getElem?_set_ne e] at h2
    have hne : b ≠ a := fun z => by
      subst z
      have h3 : m < r.length := (List.getElem?_eq_some_iff.mp h1).1
      rw [List.getElem?_eq_getElem hlt] at hn
      rw [List.getElem?_eq_getElem h3] at h1
      have q : r[n] = r[m] := by rw [Option.some.inj hn, Option.some.inj h1]
      exact e ((List.getElem_inj S.nd).mp q)
    exact (S.at_ m b o' h1 h2).le l (upd_ne hne)
/-- a list that is a cell -/
theorem cell_lst (S : StOk G r M H) {v : V} {n : Nat} {ds : List D} (h : Rep G r H v (.cell n)) (e : M[n]? = some (.lst ds)) : ∃ a vs, v = .ref a ∧ r[n]? = some a ∧ H a = some (.lst vs) ∧ Reps G r H vs ds := by
  cases h with
  | cell h1 =>
    obtain ⟨vs, q1, q2⟩ := S.at_ _ _ _ h1 e
    exact ⟨_, vs, rfl, h1, q1, q2⟩
end

section
variable {X : Cx} {G : Gd}
def mW (X : Cx) (id : String) (σ : L2.St) : V → List V → Hp → VK → Prop := fun x xs H Q => ∀ (pins : List (Addr × Obj)) (s : Shared) (v : Value) (us : List Value), Inv X pins σ H s → RelV x v → Vals xs us → wpAny (model X.prog X.w) X.A (call (.builtin id) (v :: us)) (EP X pins σ Q) X.xe s
theorem _root_.L2.MtR.mw {id : String} {rr : V → List V → Hp → VK → Prop} (h : MtR X id rr) {σ : L2.St} {x : V} {xs : List V} {H : Hp} {Q : VK} (q : rr x xs H Q) : mW X id σ x xs H Q := fun pins s v us I rx rs => h pins s σ H x xs v us Q I rx rs q
theorem _root_.L2.MtM.mw {id : String} {rr : V → List V → Hp → VK → Prop} (h : MtM X id rr) {σ : L2.St} {x : V} {xs : List V} {H : Hp} {Q : VK} (q : rr x xs H Q) : mW X id σ x xs H Q := fun pins s v us I rx rs => h pins s σ H x xs v us Q I rx rs q
def MtS (G : Gd) (X : Cx) (id : String) (g : D → List D → Ev D) : Prop := ∀ (W : WX), Takes X W → ∀ (σ : L2.St) (r : List Addr) (M : List D) (H : Hp) (x : V) (xs : List V) (d : D) (ds : List D) (Q : VK),
  StOk G r M H → Rep G r H x d → Reps G r H xs ds → Post G W σ (JE G Q) r H (g d ds M) → mW X id σ x xs H Q
def TyS (G : Gd) (X : Cx) (T : String) (ty : List D → D → Bool) : Prop := ∀ (r : List Addr) (M : List D) (H : Hp) (x : V) (d : D), StOk G r M H → Rep G r H x d → ty M d = true → tyV X.K T x H
/-- o.m(..) of a built-in type -/
def dMth (ty : List D → D → Bool) (g : D → List D → Ev D) (a : DE) (as : DA) : DE := fun δ => bnd (a δ) fun x => fun M => if ty M x then bnd (as δ) (g x) M else .stk
theorem SE.mth {o e : Expr} {es : List Expr} {name : Str} {apos cpos : Pos} {T id : String} {ty : List D → D → Bool} {g : D → List D → Ev D} {ma : DE} {ms : DA} (pa : PlainAttrs T) (slot : Slot T name id) (hty : typeOf (.builtin id) = pure (.type "method_descriptor"))
    (ht : TyS G X T ty) (hm : MtS G X id g) (ho : SE G X o ma) (ha : SA G X (e :: es) ms)
    (hbase : attributeBase o name X.env (eval o X.env) = eval o X.env)
    (hfew : ((backTo cpos (starEach (e :: es) X.env)).all (fun x => !x.1) && (backToKw cpos (keywordEach [] X.env)).all (fun x => x.1.isSome) && decide ((e :: es).length + ([] : List Keyword).length + (if ([] : List Keyword).isEmpty then 0 else 1) < 30)) = true)
    (hline : (apos.endLine == cpos.line) = true) (hs : starEach (e :: es) X.env = (false, eval e X.env) :: starEach es X.env) (hplain : (backTo cpos (starEach es X.env)).any (·.1) = false) :
    SE G X (.Call (.Attribute o name apos) (e :: es) [] cpos) (dMth ty g ma ms) := by
  refine ⟨?_⟩
  intro W tk δ M σ r H Q S E p
  intro pins s I
  have hh : WE X o σ H fun x H1 => tyV X.K T x H1 ∧ WA X (e :: es) σ H1 fun xs H2 => mW X id σ x xs H2 Q := by
    refine ho.ru W tk δ M σ r H _ S E (p.bnd.imp ?_)
    intro d1 M1 r1 H1 L1 S1 h1 v1 R1
    by_cases c : ty M1 d1 = true
    · simp only [c, if_true] at h1
      refine ⟨ht r1 M1 H1 v1 d1 S1 R1 c, ?_⟩
      refine ha.ru W tk δ M1 σ r1 H1 _ S1 (E.le L1) (h1.bnd.imp ?_)
      intro ds M2 r2 H2 L2 S2 h2 vs Rs
      exact hm W tk σ r2 M2 H2 v1 vs d1 ds Q S2 (R1.le L2) Rs h2
    · simp [c] at h1
      exact h1.elim
  refine wpAny_Call_method_late hbase hfew hline rfl (thn (hh pins s I) fun v s1 ⟨x, H1, I1, r1, t1, q1⟩ => ?_)
  obtain ⟨h1, h2⟩ := tyV_is I1 r1 t1
  refine ⟨T, id, pa, slot, hty, h1, h2, ?_⟩
  have hA := q1 cpos pins s1 I1
  rw [hs] at hA ⊢
  refine Calls.callWith_builtin (by show (false || (backTo cpos (starEach es X.env)).any (·.1)) = false; rw [hplain] <;> rfl) (Calls.evalArgs_plain ?_)
  exact thn hA fun us s2 ⟨vs, H2, I2, r2, q2⟩ => q2 pins s2 v us I2 r1 r2
theorem SE.mth0 {o : Expr} {name : Str} {apos cpos : Pos} {T id : String} {ty : List D → D → Bool} {g : D → List D → Ev D} {ma : DE} (pa : PlainAttrs T) (slot : Slot T name id) (hty : typeOf (.builtin id) = pure (.type "method_descriptor"))
    (ht : TyS G X T ty) (hm : MtS G X id g) (ho : SE G X o ma) (hbase : attributeBase o name X.env (eval o X.env) = eval o X.env) (hline : (apos.endLine == cpos.line) = true) : SE G X (.Call (.Attribute o name apos) [] [] cpos) (dMth ty g ma dNil) := by
  refine ⟨?_⟩
  intro W tk δ M σ r H Q S E p
  intro pins s I
  have hh : WE X o σ H fun x H1 => tyV X.K T x H1 ∧ mW X id σ x [] H1 Q := by
    refine ho.ru W tk δ M σ r H _ S E (p.bnd.imp ?_)
    intro d1 M1 r1 H1 L1 S1 h1 v1 R1
    by_cases c : ty M1 d1 = true
    · simp only [c, if_true] at h1
      exact ⟨ht r1 M1 H1 v1 d1 S1 R1 c, hm W tk σ r1 M1 H1 v1 [] d1 [] Q S1 R1 .nil h1⟩
    · simp [c] at h1
      exact h1.elim
  refine wpAny_Call_method0_late hbase hline (thn (hh pins s I) fun v s1 ⟨x, H1, I1, r1, t1, q1⟩ => ?_)
  obtain ⟨h1, h2⟩ := tyV_is I1 r1 t1
  exact ⟨T, id, pa, slot, hty, h1, h2, Calls.callWith_builtin rfl (PySem.evalArgs_none (q1 pins s1 v [] I1 r1 .nil))⟩

/-! ### which type -/
def isStrD (M : List D) (d : D) : Bool := match valD M d with
  | .str _ => true
  | _ => false
def isListD (M : List D) (d : D) : Bool := match valD M d with
  | .lst _ => true
  | .scr _ => true
  | _ => false
theorem TyS.str : TyS G X "str" isStrD := by
  intro r M H x d S h e
  unfold isStrD at e
  cases ev : valD M d with
  | str y =>
    have q := val_leaf S h (by rw [ev]; rfl)
    rw [ev] at q
    subst q
    cases h
    exact rfl
  | _ => rw [ev] at e; cases e
theorem TyS.list (hK : G.K = X.K) : TyS G X "list" isListD := by
  intro r M H x d S h e
  unfold isListD at e
  cases ev : valD M d with
  | lst ds => obtain ⟨a, vs, rfl, hq, _⟩ := val_lst S h ev; exact .inl ⟨rfl, vs, .of hq⟩
  | scr ds => obtain ⟨a, vs, rfl, hq, _⟩ := val_scr S h ev; exact .inl ⟨rfl, vs, hK ▸ hq⟩
  | _ => rw [ev] at e; cases e

/-! ### texts -/
def splitO : D → List D → Ev D := fun x ds M => match x, ds with
  | .str a, [.str b] => if (b.length == 0) = false ∧ a.length + 2 ≤ sizeLine then .ok (.lst ((Txt.split a b).map .str)) M else .stk
  | _, _ => .stk
theorem MtS.split : MtS G X "str.split" splitO := by
  intro W tk σ r M H x xs d ds Q S h hs p
  cases h with
  | str =>
    rename_i a
    cases hs with
    | nil => exact p.elim
    | cons h2 hs2 =>
      cases hs2 with
      | cons _ _ => cases h2 <;> exact p.elim
      | nil =>
        cases h2 with
        | str =>
          rename_i b
          have p' : Post G W σ (JE G Q) r H (if (b.length == 0) = false ∧ a.length + 2 ≤ sizeLine then .ok (.lst ((Txt.split a b).map .str)) M else .stk) := p
          by_cases c : (b.length == 0) = false ∧ a.length + 2 ≤ sizeLine
          · rw [if_pos c] at p'
            refine mt_split.mw ⟨a, b, rfl, rfl, c.1, c.2, fun o ho => ?_⟩
            obtain ⟨L, S'⟩ := S.new (o := .lst ((Txt.split a b).map V.str)) ho
            exact p' r _ L S' _ (.lst (off_new (S.fresh ho)) (Reps.strs rfl))
          · rw [if_neg c] at p'
            exact p'.elim
        | _ => exact p.elim
  | _ => exact p.elim
/-- items that are texts -/
def strsD : List D → Option (List Str)
  | [] => some []
  | .str x :: ds => (strsD ds).map (x :: ·)
  | _ :: _ => none
theorem strsD_eq : ∀ {ds : List D} {xs : List Str}, strsD ds = some xs → ds = xs.map D.str
  | [], _, h => by cases h; rfl
  | .str b :: ds, bs, h => by
    have h' : (strsD ds).map (b :: ·) = some bs := h
    cases e : strsD ds with
    | none => rw [e] at h'; cases h'
    | some cs =>
      rw [e] at h'
      cases h'
      rw [strsD_eq e]
      rfl
  | .non :: _, _, h => by cases h
  | .int _ :: _, _, h => by cases h
  | .bl _ :: _, _, h => by cases h
  | .lst _ :: _, _, h => by cases h
  | .tup _ :: _, _, h => by cases h
  | .dct _ _ :: _, _, h => by cases h
  | .ins _ _ _ :: _, _, h => by cases h
  | .scr _ :: _, _, h => by cases h
  | .cell _ :: _, _, h => by cases h
  | .fn _ :: _, _, h => by cases h
  | .cls _ :: _, _, h => by cases h
  | .ty _ :: _, _, h => by cases h
def joinM (M : List D) (a : Str) (d : D) : Option D := match seqD M d with
  | some ds => match strsD ds with
    | some ys => if (ys.map (·.length)).sum + ys.length * a.length ≤ 16777216 then some (.str (Txt.join a ys)) else none
    | none => none
  | none => none
def joinO : D → List D → Ev D := fun x ds M => match x, ds with
  | .str a, [d] => optE (joinM M a d) M
  | _, _ => .stk
theorem MtS.join (hK : G.K = X.K) : MtS G X "str.join" joinO := by
  intro W tk σ r M H x xs d ds Q S h hs p
  cases h with
  | str =>
    rename_i a
    cases hs with
    | nil => exact p.elim
    | cons h2 hs2 =>
      cases hs2 with
      | cons _ _ => exact p.elim
      | nil =>
        rename_i v d'
        have p' : Post G W σ (JE G Q) r H (optE (joinM M a d') M) := p
        unfold joinM at p'
        cases e : seqD M d' with
        | none => rw [e] at p'; exact p'.elim
        | some ds =>
          simp only [e] at p'
          cases e2 : strsD ds with
          | none => simp only [e2] at p'; exact p'.elim
          | some ys =>
            simp only [e2] at p'
            obtain ⟨q, vs, rfl, hq, hv⟩ := seq_at S h2 e
            rw [strsD_eq e2] at hv
            rw [hK, Reps.of_strs hv] at hq
            by_cases c : (ys.map (·.length)).sum + ys.length * a.length ≤ 16777216
            · rw [if_pos c] at p'
              exact mt_join.mw ⟨a, q, ys, rfl, rfl, hq, c, p' r H S.le S _ .str⟩
            · rw [if_neg c] at p'
              exact p'.elim
  | _ => exact p.elim

/-! ### lists that are cells -/
def appendO : D → List D → Ev D := fun x ds M => match x, ds with
  | .cell n, [d] => match M[n]? with
    | some (.lst xs) => if xs.length < sizeLine then .ok .non (M.set n (.lst (xs ++ [d]))) else .stk
    | _ => .stk
  | _, _ => .stk
theorem MtS.append : MtS G X "list.append" appendO := by
  intro W tk σ r M H x xs d ds Q S h hs p
  cases d with
  | cell n =>
    cases hs with
    | nil => exact p.elim
    | cons h2 hs2 =>
      cases hs2 with
      | cons _ _ => exact p.elim
      | nil =>
        rename_i v d'
        cases em : M[n]? with
        | none => simp only [appendO, em] at p; exact p.elim
        | some o =>
          cases o with
          | lst ds =>
            simp only [appendO, em] at p
            obtain ⟨a, vs, rfl, hn, ha, hv⟩ := cell_lst S h em
            by_cases c : ds.length < sizeLine
            · rw [if_pos c] at p
              refine mt_append.mw ⟨a, vs, v, rfl, rfl, ha, by rw [hv.length]; exact c, ?_⟩
              obtain ⟨L, S'⟩ := S.write (o := .lst (vs ++ [v])) (d := .lst (ds ++ [d'])) hn fun L => ⟨_, upd_same, (hv.le L).append (.cons (h2.le L) .nil)⟩
              exact p r _ L S' _ .non
            · rw [if_neg c] at p
              exact p.elim
          | _ => simp only [appendO, em] at p; exact p.elim
  | _ => exact p.elim
end
end Iv
/-! Statements; the end of a def; a def's promise and its call. -/
namespace Iv
open PySem PySem.Spec PyProof.Rows L2

/-! ### statements -/
/-- how a statement ends -/
inductive Fl where
  | nx (δ : DEnv) | rt (d : D) | bk (δ : DEnv) | ct (δ : DEnv) | ex (δ : DEnv) (e : D)
abbrev DS := DEnv → Ev Fl
abbrev DG := D → DEnv → Ev DEnv
/-- an expression within a statement -/
def lft {α : Type} (x : Ev α) (δ : DEnv) (f : α → Ev Fl) : Ev Fl := fun M => match x M with
  | .ok a M' => f a M'
  | .exc e M' => .ok (.ex δ e) M'
  | .stk => .stk
def WF : WX := fun _ _ _ _ => False
/-- what is wanted of a statement's end -/
def JS (G : Gd) (W : WX) (E : Ends) : Fl → List D → List Addr → Hp → Prop
  | .nx δ, _, r, H => ∀ σ, EnvOk G r H σ δ → E.nx σ H
  | .rt d, _, r, H => ∀ v, Rep G r H v d → E.rt v H
  | .bk δ, _, r, H => ∀ σ, EnvOk G r H σ δ → E.bk σ H
  | .ct δ, _, r, H => ∀ σ, EnvOk G r H σ δ → E.ct σ H
  | .ex δ e, _, r, H => ∀ σ cls dd, EnvOk G r H σ δ → ExcRep G r H cls dd e → W cls dd σ H
abbrev PostS (G : Gd) (W : WX) (E : Ends) (r : List Addr) (H : Hp) (x : R Fl) : Prop := Post G WF [] (JS G W E) r H x
section
variable {G : Gd} {W : WX} {σ : L2.St} {E : Ends} {r : List Addr} {H : Hp} {M : List D} {δ : DEnv}
theorem Post.lft {α : Type} {m : Ev α} {f : α → Ev Fl} (he : EnvOk G r H σ δ) (p : PostS G W E r H (lft m δ f M)) : Post G W σ (fun a M1 r1 H1 => PostS G W E r1 H1 (f a M1)) r H (m M) := by
  unfold Iv.lft at p
  cases e : m M with
  | ok a M' =>
    rw [e] at p
    exact fun r' H' l S => p.mono l
  | exc d M' =>
    rw [e] at p
    exact fun c dd r' H' l S q => p r' H' l S σ c dd (he.le l) q
  | stk =>
    rw [e] at p
    exact p
end
section
variable {X : Cx}
def WS (X : Cx) (st : Stmt) (σ : L2.St) (H : Hp) (E : Ends) : Prop := ∀ (pins : List (Addr × Obj)) (s : Shared), Inv X pins σ H s → wpAny (model X.prog X.w) X.A (exec st X.env) (SP X pins E) X.xe s
def WSs (X : Cx) (sts : List Stmt) (σ : L2.St) (H : Hp) (E : Ends) : Prop := ∀ (pins : List (Addr × Obj)) (s : Shared), Inv X pins σ H s → wpAny (model X.prog X.w) X.A (execs sts X.env) (SP X pins E) X.xe s
def WG (X : Cx) (tg : Expr) (v : V) (σ : L2.St) (H : Hp) (Q : L2.St → Hp → Prop) : Prop := ∀ (pins : List (Addr × Obj)) (s : Shared) (u : Value), Inv X pins σ H s → RelV v u →
  wpAny (model X.prog X.w) X.A (assign tg X.env u) (fun _ s' => ∃ σ' H', Inv X pins σ' H' s' ∧ Q σ' H') X.xe s
theorem psW (st : Stmt) : PS X st (fun E σ H => WS X st σ H E) := ⟨fun pins s _ _ _ I h => h pins s I⟩
theorem pssW (sts : List Stmt) : PSs X sts (fun E σ H => WSs X sts σ H E) := ⟨fun pins s _ _ _ I h => h pins s I⟩
theorem pgW (tg : Expr) : PG X tg (WG X tg) := ⟨fun pins s _ _ _ u _ I rv h => h pins s u I rv⟩
theorem _root_.L2.PS.ws {st : Stmt} {t : TS} (h : PS X st t) {σ : L2.St} {H : Hp} {E : Ends} (q : t E σ H) : WS X st σ H E := fun pins s I => h.run pins s σ H E I q
theorem _root_.L2.PSs.wss {sts : List Stmt} {t : TS} (h : PSs X sts t) {σ : L2.St} {H : Hp} {E : Ends} (q : t E σ H) : WSs X sts σ H E := fun pins s I => h.run pins s σ H E I q
theorem _root_.L2.PG.wg {tg : Expr} {t : TG} (h : PG X tg t) {v : V} {σ : L2.St} {H : Hp} {Q : L2.St → Hp → Prop} (q : t v σ H Q) : WG X tg v σ H Q := fun pins s u I rv => h.run pins s σ H v u Q I rv q
end
structure SS (G : Gd) (X : Cx) (st : Stmt) (m : DS) : Prop where
  ru : ∀ (W : WX), Takes X W → ∀ (δ : DEnv) (M : List D) (σ : L2.St) (r : List Addr) (H : Hp) (E : Ends),
  StOk G r M H → EnvOk G r H σ δ → PostS G W E r H (m δ M) → WS X st σ H E
structure SSs (G : Gd) (X : Cx) (sts : List Stmt) (m : DS) : Prop where
  ru : ∀ (W : WX), Takes X W → ∀ (δ : DEnv) (M : List D) (σ : L2.St) (r : List Addr) (H : Hp) (E : Ends),
  StOk G r M H → EnvOk G r H σ δ → PostS G W E r H (m δ M) → WSs X sts σ H E
structure SG (G : Gd) (X : Cx) (tg : Expr) (m : DG) : Prop where
  ru : ∀ (W : WX), Takes X W → ∀ (d : D) (v : V) (δ : DEnv) (M : List D) (σ : L2.St) (r : List Addr) (H : Hp) (Q : L2.St → Hp → Prop),
  StOk G r M H → Rep G r H v d → EnvOk G r H σ δ → Post G W σ (fun δ' _ r' H' => ∀ σ', EnvOk G r' H' σ' δ' → Q σ' H') r H (m d δ M) → WG X tg v σ H Q
def dNext : DS := fun δ => ret (.nx δ)
def dSeq (a b : DS) : DS := fun δ => bnd (a δ) fun f => match f with
  | .nx δ' => b δ'
  | x => ret x
section
variable {G : Gd} {X : Cx}
theorem SSs.nil : SSs G X [] dNext := ⟨fun W tk δ M σ r H E S e p => pss_nil.wss (p r H S.le S σ e)⟩
theorem SSs.cons {st : Stmt} {sts : List Stmt} {a b : DS} (ha : SS G X st a) (hb : SSs G X sts b) : SSs G X (st :: sts) (dSeq a b) := by
  refine ⟨?_⟩
  intro W tk δ M σ r H E S e p
  refine (pss_cons (psW st) (pssW sts)).wss ?_
  refine ha.ru W tk δ M σ r H _ S e (Post.imp p.bnd ?_)
  intro f M1 r1 H1 L1 S1 h1
  cases f with
  | nx δ' => exact fun σ' e' => hb.ru W tk δ' M1 σ' r1 H1 E S1 e' h1
  | rt d => exact h1 r1 H1 S1.le S1
  | bk δ' => exact h1 r1 H1 S1.le S1
  | ct δ' => exact h1 r1 H1 S1.le S1
  | ex δ' d => exact h1 r1 H1 S1.le S1
theorem SSs.one {st : Stmt} {a : DS} (ha : SS G X st a) : SSs G X [st] a := ⟨fun W tk δ M σ r H E S e p => (pss_one (psW st)).wss (ha.ru W tk δ M σ r H E S e p)⟩
theorem SS.pass {pos : Pos} : SS G X (.Pass pos) dNext := ⟨fun W tk δ M σ r H E S e p => ps_pass.ws (p r H S.le S σ e)⟩
theorem SS.brk {pos : Pos} : SS G X (.Break pos) (fun δ => ret (.bk δ)) := ⟨fun W tk δ M σ r H E S e p => ps_break.ws (p r H S.le S σ e)⟩
theorem SS.cont {pos : Pos} : SS G X (.Continue pos) (fun δ => ret (.ct δ)) := ⟨fun W tk δ M σ r H E S e p => ps_continue.ws (p r H S.le S σ e)⟩
theorem SS.doc {x : Str} {j : Nat} {pos pos' : Pos} : SS G X (.Expr (.Constant (.str x) j pos) pos') dNext := ⟨fun W tk δ M σ r H E S e p => ps_doc.ws (p r H S.le S σ e)⟩
def dDrop (a : DE) : DS := fun δ => lft (a δ) δ fun _ => ret (.nx δ)
theorem SS.expr {e : Expr} {pos : Pos} {a : DE} (ha : SE G X e a) (hs : swapsWith e none pos.line X.env = pure false) : SS G X (.Expr e pos) (dDrop a) := by
  refine ⟨?_⟩
  intro W tk δ M σ r H E S e p
  refine (ps_expr (peW _) hs).ws ?_
  refine ha.ru W tk δ M σ r H _ S e ((p.lft e).imp ?_)
  intro d M1 r1 H1 L1 S1 h1 v Rv
  exact h1 r1 H1 S1.le S1 σ (e.le L1)
def dRet (a : DE) : DS := fun δ => lft (a δ) δ fun d => ret (.rt d)
theorem SS.ret {e : Expr} {pos : Pos} {a : DE} (ha : SE G X e a) : SS G X (.Return (some e) pos) (dRet a) := by
  refine ⟨?_⟩
  intro W tk δ M σ r H E S e p
  refine (ps_ret (peW _)).ws ?_
  refine ha.ru W tk δ M σ r H _ S e ((p.lft e).imp ?_)
  intro d M1 r1 H1 L1 S1 h1 v Rv
  exact h1 r1 H1 S1.le S1 v Rv
theorem SS.retN {pos : Pos} : SS G X (.Return none pos) (fun _ => Iv.ret (.rt .non)) := ⟨fun W tk δ M σ r H E S e p => ps_retN.ws (p r H S.le S _ .non)⟩
def dIf (c : DT) (a b : DS) : DS := fun δ => lft (c δ) δ fun k => if k then a δ else b δ
theorem SS.if_ {c : Expr} {p q : List Stmt} {pos : Pos} {mc : DT} {ma mb : DS} (hc : ST G X c mc) (ha : SSs G X p ma) (hb : SSs G X q mb) : SS G X (.If c p q pos) (dIf mc ma mb) := by
  refine ⟨?_⟩
  intro W tk δ M σ r H E S e p
  refine (ps_if (ptW c) (pssW _) (pssW _)).ws ?_
  refine hc.ru W tk δ M σ r H _ S e ((p.lft e).imp ?_)
  intro k M1 r1 H1 L1 S1 h1
  cases k with
  | true => refine iteT ?_; exact ha.ru W tk δ M1 σ r1 H1 E S1 (e.le L1) h1
  | false => refine iteF ?_; exact hb.ru W tk δ M1 σ r1 H1 E S1 (e.le L1) h1

/-! ### stores -/
def gVar (i : Nat) : DG := fun d δ => Iv.ret (δ.set i (some d))
theorem SG.name {i : Nat} {x : Str} {pos : Pos} (hN : X.N.Nodup) (hi : X.N[i]? = some x) (hx : Loc X.env.scope x) (hf : X.fn x = true ∨ X.env.scope.names.lookup x = some .local) : SG G X (.Name x pos) (gVar i) := by
  refine ⟨?_⟩
  intro W tk d v δ M σ r H Q S Rv e p
  exact (pg_name hN hi hx hf).wg (p r H S.le S _ (e.set Rv))
def dAsg (a : DE) (g : DG) : DS := fun δ => lft (a δ) δ fun d => lft (g d δ) δ fun δ' => Iv.ret (.nx δ')
theorem SS.asg {tg e : Expr} {pos : Pos} {a : DE} {g : DG} (ha : SE G X e a) (hg : SG G X tg g) (hs : swapsWithSole [tg] e pos.line X.env = pure false) (hw : swappedStores [tg] e X.env = pure none) (h1 : (assignEach [tg] X.env).map (·.2) = [assign tg X.env]) : SS G X (.Assign [tg] e pos) (dAsg a g) := by
  refine ⟨?_⟩
  intro W tk δ M σ r H E S e p
  refine (ps_asg (peW _) (pgW tg) hs hw h1).ws ?_
  refine ha.ru W tk δ M σ r H _ S e ((p.lft e).imp ?_)
  intro d M1 r1 H1 L1 S1 h1 v Rv
  refine hg.ru W tk d v δ M1 σ r1 H1 _ S1 Rv (e.le L1) ((h1.lft (e.le L1)).imp ?_)
  intro δ' M2 r2 H2 L2 S2 h2 σ' e'
  exact h2 r2 H2 S2.le S2 σ' e'
/-- several names at once, the values in turn -/
def setAll : List Nat → List D → DEnv → Option DEnv
  | [], [], δ => some δ
  | i :: is, d :: ds, δ => setAll is ds (δ.set i (some d))
  | _, _, _ => none
def dPar (is : List Nat) (a : DA) : DS := fun δ => lft (a δ) δ fun ds => match setAll is ds δ with
  | some δ' => Iv.ret (.nx δ')
  | none => stuck
theorem SS.par2 {i j : Nat} {x y : Str} {a b : Expr} {m : DA} {px py pt pos : Pos} {kt k2 : Nat} {pt2 : Pos} (hc : X.calm = true) (hN : X.N.Nodup) (hi : X.N[i]? = some x) (hj : X.N[j]? = some y) (hij : i ≠ j)
    (hx : X.env.scope.names.lookup x = some .local) (hy : X.env.scope.names.lookup y = some .local) (ha : SA G X [a, b] m) (hw : swappedStores [.Tuple [.Name x px, .Name y py] kt pt] (.Tuple [a, b] k2 pt2) X.env = pure (some [x, y]))
    (hs : swapsWithSole [.Tuple [.Name x px, .Name y py] kt pt] (.Tuple [a, b] k2 pt2) pos.line X.env = pure false) : SS G X (.Assign [.Tuple [.Name x px, .Name y py] kt pt] (.Tuple [a, b] k2 pt2) pos) (dPar [i, j] m) := by
  refine ⟨?_⟩
  intro W tk δ M σ r H E S e p
  refine (ps_par hc hN hi hj hij hx hy (paW _) hw hs).ws ?_
  refine ha.ru W tk δ M σ r H _ S e ((p.lft e).imp ?_)
  intro ds M1 r1 H1 L1 S1 h1 vs Rs
  match ds, vs, Rs, h1 with
  | [d1, d2], [v1, v2], .cons R1 (.cons R2 .nil), h1 => exact ⟨v1, v2, rfl, h1 r1 H1 S1.le S1 _ (((e.le L1).set R1).set R2)⟩
  | [], _, _, h1 => exact h1.elim
  | [_], _, _, h1 => exact h1.elim
  | _ :: _ :: _ :: _, _, _, h1 => exact h1.elim
theorem SS.par3 {i j l : Nat} {x y z : Str} {a b c : Expr} {m : DA} {px py pz pt pos : Pos} {kt k2 : Nat} {pt2 : Pos} (hc : X.calm = true) (hN : X.N.Nodup) (hi : X.N[i]? = some x) (hj : X.N[j]? = some y) (hl : X.N[l]? = some z) (hij : i ≠ j) (hil : i ≠ l) (hjl : j ≠ l)
    (hx : X.env.scope.names.lookup x = some .local) (hy : X.env.scope.names.lookup y = some .local) (hz : X.env.scope.names.lookup z = some .local) (ha : SA G X [a, b, c] m)
    (hw : swappedStores [.Tuple [.Name x px, .Name y py, .Name z pz] kt pt] (.Tuple [a, b, c] k2 pt2) X.env = pure (some [x, y, z]))
    (hs : swapsWithSole [.Tuple [.Name x px, .Name y py, .Name z pz] kt pt] (.Tuple [a, b, c] k2 pt2) pos.line X.env = pure false) :
    SS G X (.Assign [.Tuple [.Name x px, .Name y py, .Name z pz] kt pt] (.Tuple [a, b, c] k2 pt2) pos) (dPar [i, j, l] m) := by
  refine ⟨?_⟩
  intro W tk δ M σ r H E S e p
  refine (ps_par3 hc hN hi hj hl hij hil hjl hx hy hz (paW _) hw hs).ws ?_
  refine ha.ru W tk δ M σ r H _ S e ((p.lft e).imp ?_)
  intro ds M1 r1 H1 L1 S1 h1 vs Rs
  match ds, vs, Rs, h1 with
  | [d1, d2, d3], [v1, v2, v3], .cons R1 (.cons R2 (.cons R3 .nil)), h1 => exact ⟨v1, v2, v3, rfl, h1 r1 H1 S1.le S1 _ ((((e.le L1).set R1).set R2).set R3)⟩
  | [], _, _, h1 => exact h1.elim
  | [_], _, _, h1 => exact h1.elim
  | [_, _], _, _, h1 => exact h1.elim
  | _ :: _ :: _ :: _ :: _, _, _, h1 => exact h1.elim
end
end Iv
/-! The end of a def, its promise, its call. -/
namespace Iv
open PySem PySem.Spec PyProof.Rows L2

/-! ### own cells go -/
mutual
/-- no cell from n on -/
def low (n : Nat) : D → Bool
  | .cell c => decide (c < n)
  | .lst xs => lows n xs
  | .tup xs => lows n xs
  | .scr xs => lows n xs
  | .dct _ vs => lows n vs
  | .ins _ _ vs => lows n vs
  | _ => true
def lows (n : Nat) : List D → Bool
  | [] => true
  | d :: ds => low n d && lows n ds
end
/-- the contents of the cells from n on, by value -/
def frzs (M : List D) (n : Nat) : Nat → List D → Option (List D)
  | 0, ds => if lows n ds then some ds else none
  | k + 1, ds => if lows n ds then some ds else match ds with
    | [] => some []
    | d :: r => match frzs M n k r with
      | none => none
      | some r' => match d with
        | .cell c => if c < n then some (d :: r') else match M[c]? with
          | some (.lst xs) => (frzs M n k xs).map fun ys => .lst ys :: r'
          | some (.dct ks xs) => (frzs M n k xs).map fun ys => .dct ks ys :: r'
          | some (.ins i ns xs) => (frzs M n k xs).map fun ys => .ins i ns ys :: r'
          | _ => none
        | .lst xs => (frzs M n k xs).map fun ys => .lst ys :: r'
        | .tup xs => (frzs M n k xs).map fun ys => .tup ys :: r'
        | .dct ks xs => (frzs M n k xs).map fun ys => .dct ks ys :: r'
        | .ins i ns xs => (frzs M n k xs).map fun ys => .ins i ns ys :: r'
        | d => if low n d then some (d :: r') else none
def closes (n : Nat) (ds M : List D) : Option (List D × List D) :=
  if M.length = n then some (ds, M) else if lows n (M.take n) then (frzs M n 60 ds).map fun ds' => (ds', M.take n) else none
section
variable {G : Gd} {r new : List Addr} {H : Hp} {M : List D}
theorem off_app {a : Addr} {o : HO} (h : off G (r ++ new) H a = some o) : off G r H a = some o := by
  obtain ⟨⟨h0, h1⟩, h2⟩ := off_some.mp h
  exact off_some.mpr ⟨⟨h0, fun z => h1 (List.mem_append_left _ z)⟩, h2⟩
theorem sqL_app {K : PySem.W.Frag} {a : Addr} {xs : List V} (h : SqL K (off G (r ++ new) H) a xs) : SqL K (off G r H) a xs := by
  rcases h with (h | ⟨o, h⟩) | h
  · exact .inl (.inl (off_app h))
  · exact .inl (.inr ⟨o, off_app h⟩)
  · exact .inr h
theorem sqT_app {K : PySem.W.Frag} {a : Addr} {xs : List V} (h : SqT K (off G (r ++ new) H) a xs) : SqT K (off G r H) a xs := by
  rcases h with (h | ⟨o, h⟩) | h
  · exact .inl (.inl (off_app h))
  · exact .inl (.inr ⟨o, off_app h⟩)
  · exact .inr h
mutual
theorem Rep.low : ∀ {v : V} {d : D}, Rep G (r ++ new) H v d → Iv.low r.length d = true → Rep G r H v d
  | _, _, .non, _ => .non
  | _, _, .bl, _ => .bl
  | _, _, .int, _ => .int
  | _, _, .str, _ => .str
  | _, _, .lst h hs, z => .lst (off_app h) (Reps.low hs z)
  | _, _, .scr h hs, z => .scr (sqL_app h) (Reps.low hs z)
  | _, _, .tup h hs, z => .tup (sqT_app h) (Reps.low hs z)
  | _, _, .dct h hs, z => .dct (off_app h) (Reps.low hs z)
  | _, _, .ins x h hs, z => .ins x (off_app h) (Reps.low hs z)
  | _, _, .exn x h h2 hs, z => .exn x (off_app h) (off_app h2) (Reps.low hs z)
  | _, _, .exn0 x h, _ => .exn0 x (off_app h)
  | _, _, .cell h, z => .cell (by rw [List.getElem?_append_left (of_decide_eq_true z)] at h; exact h)
  | _, _, .fn, _ => .fn
  | _, _, .cls, _ => .cls
  | _, _, .ty, _ => .ty
theorem Reps.low : ∀ {vs : List V} {ds : List D}, Reps G (r ++ new) H vs ds → lows r.length ds = true → Reps G r H vs ds
  | _, _, .nil, _ => .nil
  | _, _, .cons h hs, z => .cons (Rep.low h (Bool.and_eq_true_iff.mp z).1) (Reps.low hs (Bool.and_eq_true_iff.mp z).2)
end
theorem off_high (nd : (r ++ new).Nodup) {c : Nat} {a : Addr} {o : HO} (hc : ¬ c < r.length) (h : (r ++ new)[c]? = some a) (e : H a = some o) (nh : a ∉ G.hid) : off G r H a = some o := by
  refine off_some.mpr ⟨⟨nh, fun z => ?_⟩, e⟩
  have q : a ∈ new := by
    rw [List.getElem?_append_right (Nat.le_of_not_lt hc)] at h
    exact List.mem_of_getElem? h
  exact (List.nodup_append.mp nd).2.2 a z a q rfl
theorem frzs_ok (S : StOk G (r ++ new) M H) : ∀ (k : Nat) {ds ds' : List D} {vs : List V}, frzs M r.length k ds = some ds' → Reps G (r ++ new) H vs ds → Reps G r H vs ds'
  | 0, ds, ds', vs, e, h => by
    unfold frzs at e
    by_cases c : lows r.length ds = true
    · rw [if_pos c] at e; cases e; exact h.low c
    · rw [if_neg c] at e; cases e
  | k + 1, ds, ds', vs, e, h => by
    unfold frzs at e
    by_cases c : lows r.length ds = true
    · rw [if_pos c] at e; cases e; exact h.low c
    · rw [if_neg c] at e
      cases h with
      | nil => cases e; exact .nil
      | cons h1 h2 =>
        rename_i v d vs2 ds2
        dsimp only at e
        cases e2 : frzs M r.length k ds2 with
        | none => rw [e2] at e; cases e
        | some r' =>
          rw [e2] at e
          have R2 := frzs_ok S k e2 h2
          cases h1 with
          | cell hc =>
            rename_i a n
            dsimp only at e
            by_cases cn : n < r.length
            · rw [if_pos cn] at e
              cases e
              exact .cons (.cell (by rw [List.getElem?_append_left cn] at hc; exact hc)) R2
            · rw [if_neg cn] at e
              cases em : M[n]? with
              | none => rw [em] at e; cases e
              | some o =>
                rw [em] at e
                have q := S.at_ n a o hc em
                cases o with
                | lst xs =>
                  obtain ⟨ws, w1, w2⟩ := q
                  dsimp only at e
                  obtain ⟨ys, y1, y2⟩ := Option.map_eq_some_iff.mp e
                  cases y2
                  exact .cons (.lst (off_high S.nd cn hc w1 fun z => (S.hid a z).2 (List.mem_of_getElem? hc)) (frzs_ok S k y1 w2)) R2
                | dct ks xs =>
                  obtain ⟨ws, w1, rfl, w2⟩ := q
                  dsimp only at e
                  obtain ⟨ys, y1, y2⟩ := Option.map_eq_some_iff.mp e
                  cases y2
                  exact .cons (.dct (off_high S.nd cn hc w1 fun z => (S.hid a z).2 (List.mem_of_getElem? hc)) (frzs_ok S k y1 w2)) R2
                | ins i ns xs =>
                  obtain ⟨dx, fs, w1, rfl, w2, w3⟩ := q
                  dsimp only at e
                  obtain ⟨ys, y1, y2⟩ := Option.map_eq_some_iff.mp e
                  cases y2
                  exact .cons (.ins w3 (off_high S.nd cn hc w1 fun z => (S.hid a z).2 (List.mem_of_getElem? hc)) (frzs_ok S k y1 w2)) R2
                | _ => exact q.elim
          | lst q1 q2 =>
            obtain ⟨ys, y1, y2⟩ := Option.map_eq_some_iff.mp e
            cases y2
            exact .cons (.lst (off_app q1) (frzs_ok S k y1 q2)) R2
          | tup q1 q2 =>
            obtain ⟨ys, y1, y2⟩ := Option.map_eq_some_iff.mp e
            cases y2
            exact .cons (.tup (sqT_app q1) (frzs_ok S k y1 q2)) R2
          | dct q1 q2 =>
            obtain ⟨ys, y1, y2⟩ := Option.map_eq_some_iff.mp e
            cases y2
            exact .cons (.dct (off_app q1) (frzs_ok S k y1 q2)) R2
          | ins q0 q1 q2 =>
            obtain ⟨ys, y1, y2⟩ := Option.map_eq_some_iff.mp e
            cases y2
            exact .cons (.ins q0 (off_app q1) (frzs_ok S k y1 q2)) R2
          | exn q0 q1 q2 q3 =>
            obtain ⟨ys, y1, y2⟩ := Option.map_eq_some_iff.mp e
            cases y2
            exact .cons (.exn q0 (off_app q1) (off_app q2) (frzs_ok S k y1 q3)) R2
          | exn0 q0 q1 =>
            obtain ⟨ys, y1, y2⟩ := Option.map_eq_some_iff.mp e
            cases y2
            have z : ys = [] := by
              have w := frzs_ok S k y1 (.nil (G := G) (r := r ++ new) (H := H))
              cases w
              rfl
            subst z
            exact .cons (.exn0 q0 (off_app q1)) R2
          | scr q1 q2 =>
            rename_i ds3
            dsimp only at e
            by_cases cn : Iv.low r.length (.scr ds3) = true
            · rw [if_pos cn] at e; cases e; exact .cons (Rep.low (.scr q1 q2) cn) R2
            · rw [if_neg cn] at e; cases e
          | non => cases e; exact .cons .non R2
          | bl => cases e; exact .cons .bl R2
          | int => cases e; exact .cons .int R2
          | str => cases e; exact .cons .str R2
          | fn => cases e; exact .cons .fn R2
          | cls => cases e; exact .cons .cls R2
          | ty => cases e; exact .cons .ty R2
theorem lows_get {n : Nat} : ∀ {ds : List D} {i : Nat} {d : D}, lows n ds = true → ds[i]? = some d → low n d = true
  | [], _, _, _, e => by simp at e
  | d :: ds, 0, _, h, e => by
    simp at e
    subst e
    exact (Bool.and_eq_true_iff.mp h).1
  | d :: ds, i + 1, d', h, e => lows_get (ds := ds) (i := i) (Bool.and_eq_true_iff.mp h).2 (by simpa using e)
theorem CellAt.low {a : Addr} {o : D} (h : CellAt G (r ++ new) H a o) (z : Iv.low r.length o = true) : CellAt G r H a o := by
  cases o with
  | lst ds => obtain ⟨vs, e, hs⟩ := h; exact ⟨vs, e, hs.low z⟩
  | dct ks ds => obtain ⟨vs, e, e2, hs⟩ := h; exact ⟨vs, e, e2, hs.low z⟩
  | ins c ns ds => obtain ⟨dx, fs, e, e2, hs, hx⟩ := h; exact ⟨dx, fs, e, e2, hs.low z, hx⟩
  | _ => exact h.elim
theorem closes_ok {H0 : Hp} {r' : List Addr} {M' ds ds' : List D} (L : Le r H0 r' H) (S : StOk G r' M H) (e : closes r.length ds M = some (ds', M')) :
    Le r H0 r H ∧ StOk G r M' H ∧ (∀ vs, Reps G r' H vs ds → Reps G r H vs ds') ∧ (∀ a o, off G r' H a = some o → off G r H a = some o) := by
  obtain ⟨new, rfl, hn⟩ := L.pre
  have L' : Le r H0 r H := ⟨⟨[], by simp, fun _ z => nomatch z⟩, L.keep, L.there⟩
  refine ⟨L', ?_⟩
  unfold closes at e
  by_cases c : M.length = r.length
  · rw [if_pos c] at e
    cases e
    have z : new = [] := by
      have q := S.len
      rw [List.length_append, c] at q
      exact List.eq_nil_of_length_eq_zero (by omega)
    subst z
    rw [List.append_nil] at S ⊢
    exact ⟨S, fun _ h => h, fun _ _ h => h⟩
  · rw [if_neg c] at e
    by_cases z : lows r.length (M.take r.length) = true
    · rw [if_pos z] at e
      obtain ⟨ys, y1, y2⟩ := Option.map_eq_some_iff.mp e
      cases y2
      have hlen : r.length ≤ M.length := by rw [← S.len, List.length_append]; omega
      refine ⟨⟨by rw [List.length_take]; omega, (List.nodup_append.mp S.nd).1, fun n a o h1 h2 => ?_, fun a ha => ⟨(S.hid a ha).1, fun z => (S.hid a ha).2 (List.mem_append_left _ z)⟩⟩, fun vs h => frzs_ok S 60 y1 h, fun a o h => off_app h⟩
      have hlt : n < r.length := (List.getElem?_eq_some_iff.mp h1).1
      have h3 : M[n]? = some o := by rw [List.getElem?_take_of_lt hlt] at h2; exact h2
      exact (S.at_ n a o (by rw [List.getElem?_append_left hlt]; exact h1) h3).low (lows_get z h2)
    · rw [if_neg z] at e
      cases e
end
/-- a def's end: its own cells go; with keep they stay -/
def fin (keep : Bool) (n : Nat) : R Fl → R D
  | .ok (.rt d) M => if keep then .ok d M else match closes n [d] M with
    | some ([d'], M') => .ok d' M'
    | _ => .stk
  | .ok (.nx _) M => if keep then .ok .non M else match closes n [] M with
    | some (_, M') => .ok .non M'
    | _ => .stk
  | .ok (.ex _ (.ins c ns vs)) M => if keep then .exc (.ins c ns vs) M else match closes n vs M with
    | some (vs', M') => .exc (.ins c ns vs') M'
    | _ => .stk
  | _ => .stk
def entry (n : Nat) (ds : List D) : DEnv := ds.map some ++ List.replicate (n - ds.length) none
/-- what a def does: n its names -/
def runF (keep : Bool) (n : Nat) (m : DS) : List D → Ev D := fun ds M => fin keep M.length (m (entry n ds) M)
section
variable {G : Gd} {r : List Addr} {H : Hp}
theorem Post.fin {keep : Bool} {n : Nat} {x : R Fl} {Q : VK} {E : XK} (hn : r.length = n) (p : Post G (fun c d _ H' => E c d H') [] (JE G Q) r H (fin keep n x)) :
    PostS G (fun c d _ H' => E c d H') { nx := fun _ H' => Q .non H', rt := Q } r H x := by
  subst hn
  cases x with
  | stk => exact p.elim
  | exc e M => exact p.elim
  | ok f M =>
    cases f with
    | bk δ => exact p.elim
    | ct δ => exact p.elim
    | nx δ =>
      intro r' H' L S σ e
      cases keep with
      | true => exact p r' H' L S .non .non
      | false =>
        have p' : Post G (fun c d _ H' => E c d H') [] (JE G Q) r H (match closes r.length [] M with | some (_, M') => .ok .non M' | _ => .stk) := p
        cases ec : closes r.length [] M with
        | none => rw [ec] at p'; exact p'.elim
        | some y =>
          rw [ec] at p'
          obtain ⟨L', S', _, _⟩ := closes_ok L S ec
          exact p' r H' L' S' .non .non
    | rt d =>
      intro r' H' L S v Rv
      cases keep with
      | true => exact p r' H' L S v Rv
      | false =>
        have p' : Post G (fun c d _ H' => E c d H') [] (JE G Q) r H (match closes r.length [d] M with | some ([d'], M') => .ok d' M' | _ => .stk) := p
        cases ec : closes r.length [d] M with
        | none => rw [ec] at p'; exact p'.elim
        | some y =>
          obtain ⟨ys, M'⟩ := y
          rw [ec] at p'
          obtain ⟨L', S', h1, _⟩ := closes_ok L S ec
          have q := h1 [v] (.cons Rv .nil)
          cases q with
          | cons q1 q2 => cases q2; exact p' r H' L' S' v q1
    | ex δ d =>
      cases d with
      | ins c ns vs =>
        intro r' H' L S σ cls dd e X
        cases keep with
        | true => exact p cls dd r' H' L S X
        | false =>
          have p' : Post G (fun c d _ H' => E c d H') [] (JE G Q) r H (match closes r.length vs M with | some (vs', M') => .exc (.ins c ns vs') M' | _ => .stk) := p
          cases ec : closes r.length vs M with
          | none => rw [ec] at p'; exact p'.elim
          | some y =>
            obtain ⟨ys, M'⟩ := y
            rw [ec] at p'
            obtain ⟨L', S', h1, h2⟩ := closes_ok L S ec
            refine p' cls dd r H' L' S' ?_
            obtain ⟨c', ns', vs', e1, e2, e3⟩ := X
            cases e1
            refine ⟨c, ns, ys, rfl, e2, ?_⟩
            rcases e3 with ⟨a1, a2, a3⟩ | ⟨dx, fs, a1, a2, a3, a4⟩
            · subst a3
              have z : ys = [] := by have q := h1 [] .nil; cases q; rfl
              exact .inl ⟨a1, a2, z⟩
            · exact .inr ⟨dx, fs, a1, h2 _ _ a2, a3, h1 _ a4⟩
      | _ => exact p.elim
theorem env_entry {N : List Str} {vs : List V} {ds : List D} (h : Reps G r H vs ds) : EnvOk G r H (L2.start N vs) (entry N.length ds) := by
  have hl := h.length
  refine ⟨by unfold L2.start entry; simp [hl], fun i d e => ?_⟩
  unfold entry at e
  by_cases hi : i < ds.length
  · rw [List.getElem?_append_left (by simpa using hi), List.getElem?_map] at e
    have e' : ds[i]? = some d := by
      cases q : ds[i]? with
      | none => rw [q] at e; cases e
      | some d' => rw [q] at e; cases e; rfl
    obtain ⟨v, h1, h2⟩ := h.get e'
    refine ⟨v, ?_, h2⟩
    unfold L2.start
    rw [List.getElem?_append_left (by simpa [hl] using hi), List.getElem?_map, h1]
    rfl
  · rw [List.getElem?_append_right (by simpa using hi), List.getElem?_replicate] at e
    split at e <;> cases e
end

/-! ### a def's promise -/
def FnS (G : Gd) (P : Program) (w : World) (mg : Str → Option Value) (base : Heap) (k : Nat) (f : Addr) (fd : FuncData) (ps : List Str) (g : List D → Ev D) : Prop :=
  ∀ (A : Around) (outer : List Env) (s : Shared) (H : Hp) (args : Args) (us : List Value) (vs : List V) (ds : List D) (r : List Addr) (M : List D) (Q : VK) (E : XK),
    Room k A → A.guards = some [] → Env0 P w G.K mg base A outer s H → BindsTo s fd args (ps.zip us) → Vals vs us → vs.length = ps.length → StOk G r M H → Reps G r H vs ds →
    Post G (fun c d _ H' => E c d H') [] (JE G Q) r H (g ds M) → codeAny (model P w) A (.call (.ref f) args) (CR (CX P w) outer P w H s Q E) s
section
variable {G : Gd} {P : Program} {w : World} {mg : Str → Option Value} {base : Heap}
/-- the context of a def's body -/
abbrev bodyCx (G : Gd) (P : Program) (w : World) (mg : Str → Option Value) (base : Heap) (N : List Str) (qual : Str) (scope : Scope) (f : Addr) (cd : Value) (A : Around) (outer : List Env) (s : Shared) (H : Hp) (E : XK) : Cx :=
  cxOf (CX P w) P w G.K mg base N qual scope f cd A outer s H E
theorem FnS.of {x qual : Str} {params : Arguments} {body : List Stmt} {scope : Scope} {dvs : List V} {kws : List (Str × V)} {f : Addr} {fd : FuncData} {N ps : List Str} {k : Nat} {keep : Bool} {m : DS}
    (F : FunD G.K x qual params body scope dvs kws f fd) (S : FnScope N ps scope)
    (hb : ∀ (cd : Value) (A : Around) (outer : List Env) (s : Shared) (H : Hp) (E : XK), Room k (A.deeper (envOfC qual scope s.heap.objs.size f cd)) → A.guards = some [] → SSs G (bodyCx G P w mg base N qual scope f cd A outer s H E) body m) :
    FnS G P w mg base (k + 1) f fd ps (runF keep N.length m) := by
  obtain ⟨oc, od, dV, kV, doc, pm, an, cdv, ct, osl, rfl, lk, hcd, _, _⟩ := F.ex
  intro A outer s H args us vs ds r M Q E hr hgd e0 hbd rv hlen S0 R0 post
  have inK : G.K.In s.heap := e0.mod.kin.keeps fun b o e => (e0.bs b o e).1
  have noL : s.heap.NoLimit := e0.mod.nolimit.keeps fun b o e => (e0.bs b o e).1
  refine Att.call_fn inK noL lk hcd hr.depth hbd ?_ (fun s1 ic => ?_) S.co S.gen S.kind
  · rw [List.all_eq_true]
    rintro ⟨n, v⟩ hz
    rcases S.par n (List.of_mem_zip hz).1 with q | q <;> simp [q]
  · have I := inv_start (CX := CX P w) (E := E) S hr.hd e0 hlen rv ic
    have T : Takes (bodyCx G P w mg base N qual scope f cdv A outer s H E) (fun c d _ H' => E c d H') := takes_of rfl rfl rfl rfl
    have q := (hb cdv A outer s H E (hr.deeper _) hgd).ru _ T (entry N.length ds) M (L2.start N vs) r H { nx := fun _ H' => Q .non H', rt := Q } S0 (env_entry R0) (Post.fin S0.len post)
    have done : ∀ {s' : Shared} {σ : L2.St} {H' : Hp} {v : V} {u : Value}, Inv (bodyCx G P w mg base N qual scope f cdv A outer s H E) [] σ H' s' → RelV v u → Q v H' → CE outer P w H s Q u s' :=
      fun J rv q => ⟨_, _, J.os, J.bare, J.base, J.hok, rv, q⟩
    refine wpAny_mono (q [] s1 I) (fun fl s' h => ?_) fun e s' h => h
    cases fl with
    | ret u => obtain ⟨v, σ, H', J, r1, q1⟩ := h; exact done J r1 q1
    | next => obtain ⟨σ, H', J, q1⟩ := h; exact done (v := .non) (u := .none) J rfl q1
    | brk => obtain ⟨_, _, _, z⟩ := h; exact z.elim
    | cont => obtain ⟨_, _, _, z⟩ := h; exact z.elim
end

/-! ### its call -/
/-- the written arguments, the defaults -/
def dCall (n : Nat) (dd : List D) (g : List D → Ev D) (a : DA) : DE := fun δ => bnd (a δ) fun ds => if ds.length + dd.length = n then g (ds ++ dd) else stuck
section
variable {G : Gd} {X : Cx} {k : Nat} {f : Addr} {fd : FuncData} {ps : List Str} {g : List D → Ev D}
theorem FnS.call (F : FnS G X.prog X.w X.mg X.base k f fd ps g) (hr : Room k X.A) (hgd : X.A.guards = some []) (hK : G.K = X.K) {W : WX} (tk : Takes X W) {pins : List (Addr × Obj)} {σ : L2.St} {H : Hp} {s : Shared} {Q : VK} {us : List Value} {kw : List (Str × Value)} {as : List Value} {vs : List V} {ds : List D} {r : List Addr} {M : List D}
    (I : Inv X pins σ H s) (hb : BindsTo s fd ⟨as, kw⟩ (ps.zip us)) (rv : Vals vs us) (hl : vs.length = ps.length) (S : StOk G r M H) (Rs : Reps G r H vs ds) (p : Post G W σ (JE G Q) r H (g ds M)) :
    wpAny (model X.prog X.w) X.A (call (.ref f) as kw) (EP X pins σ Q) X.xe s := by
  have p' : Post G (fun c d _ H' => W c d σ H') [] (JE G Q) r H (g ds M) := by
    cases e : g ds M with
    | ok d M' => rw [e] at p; exact p
    | exc d M' => rw [e] at p; exact p
    | stk => rw [e] at p; exact p
  have e0 := I.env0
  rw [← hK] at e0
  refine wpAny_call (codeAny_mono (F X.A X.stack s H ⟨as, kw⟩ us vs ds r M Q (fun c d H' => W c d σ H') hr hgd e0 hb rv hl S Rs p') fun z s' h => ?_)
  cases z with
  | error e => exact tk e s' (XE.of_call (E := fun c d H' => W c d σ H') I (fun _ _ _ h => h) h)
  | ok fl =>
    cases fl with
    | ret u => exact I.after h
    | next => exact h.elim
    | brk => exact h.elim
    | cont => exact h.elim
theorem SE.call (F : FnS G X.prog X.w X.mg X.base k f fd ps g) (hr : Room k X.A) (hgd : X.A.guards = some []) (hK : G.K = X.K) {x : Str} {p pos : Pos} {e : Expr} {es : List Expr} {m : DA} {dvs : List V} {dv : List Value} {dd : List D} (hg : Gl X x) (hm : X.mg x = some (.ref f)) (hk : PySem.W.keepIn X.K (.ref f) = true)
    (hb : Binds X.K fd ps dv) (hd : Vals dvs dv) (hdd : ∀ r H, Reps G r H dvs dd) (ha : SA G X (e :: es) m) (hdb : (x == ("__debug__" : Str)) = false)
    (he : starEach (e :: es) X.env = (false, eval e X.env) :: starEach es X.env) (hpl : (backTo pos (starEach es X.env)).any (·.1) = false) : SE G X (.Call (.Name x p) (e :: es) [] pos) (dCall ps.length dd g m) := by
  refine ⟨?_⟩
  intro W tk δ M σ r H Q S E q pins s I
  refine wpAny_Call_Name_kw (ld_glob I hg hm ?_ hdb)
  have hA : WA X (e :: es) σ H fun vs H1 => ∀ (pins : List (Addr × Obj)) (s : Shared) (us : List Value), Inv X pins σ H1 s → Vals vs us → wpAny (model X.prog X.w) X.A (PySem.call (.ref f) us) (EP X pins σ Q) X.xe s := by
    refine ha.ru W tk δ M σ r H _ S E (q.bnd.imp ?_)
    intro ds M1 r1 H1 L1 S1 h1 vs Rs pins s us I1 ru
    by_cases c : ds.length + dd.length = ps.length
    · rw [if_pos c] at h1
      have hl : (vs ++ dvs).length = ps.length := by rw [List.length_append, Rs.length, (hdd r1 H1).length]; exact c
      have ru' : Vals (vs ++ dvs) (us ++ dv) := ru.append hd
      exact F.call hr hgd hK tk I1 (hb s us I1.kIn (by rw [← ru'.length]; exact hl)) ru' hl S1 (Rs.append (hdd r1 H1)) h1
    · rw [if_neg c] at h1
      exact h1.elim
  exact PySem.W.callWith_K (h₀ := X.base) I.ok.mod.kin hk (thn (hA pos pins s I) fun us s1 ⟨vs, H1, I1, r1, h⟩ => ⟨I1.kIn, h pins s1 us I1 r1⟩) he hpl
theorem SE.call0 (F : FnS G X.prog X.w X.mg X.base k f fd ps g) (hr : Room k X.A) (hgd : X.A.guards = some []) (hK : G.K = X.K) {x : Str} {p pos : Pos} {dvs : List V} {dv : List Value} {dd : List D} (hg : Gl X x) (hm : X.mg x = some (.ref f)) (hk : PySem.W.keepIn X.K (.ref f) = true)
    (hb : Binds X.K fd ps dv) (hd : Vals dvs dv) (hdd : ∀ r H, Reps G r H dvs dd) (hdb : (x == ("__debug__" : Str)) = false) : SE G X (.Call (.Name x p) [] [] pos) (dCall ps.length dd g dNil) := by
  refine ⟨?_⟩
  intro W tk δ M σ r H Q S E q pins s I
  refine wpAny_Call_Name_kw (ld_glob I hg hm ?_ hdb)
  refine PySem.W.callWith_K0 I.kIn hk ?_
  have q' : Post G W σ (JE G Q) r H (if dd.length = ps.length then g dd M else .stk) := by
    have e : dCall ps.length dd g dNil δ M = if dd.length = ps.length then g dd M else .stk := by
      unfold dCall dNil bnd Iv.ret
      simp only [List.length_nil, Nat.zero_add, List.nil_append]
      split <;> rfl
    rw [← e]
    exact q
  by_cases c : dd.length = ps.length
  · rw [if_pos c] at q'
    have hl : dvs.length = ps.length := by rw [(hdd r H).length]; exact c
    exact F.call hr hgd hK tk I (hb s [] I.kIn (by rw [List.nil_append, ← hd.length]; exact hl)) hd hl S (hdd r H) q'
  · rw [if_neg c] at q'
    exact q'.elim
end
end Iv
/-! What is walked; for; while; list comprehensions. -/
namespace Iv
open PySem PySem.Spec PyProof.Rows L2

/-! ### what is walked -/
inductive Src where
  | vals (ds : List D) | rng (lo : Int) (n : Nat) | cell (c n : Nat)
def Src.len : Src → Nat
  | .vals ds => ds.length
  | .rng _ n => n
  | .cell _ n => n
/-- the i-th item -/
def Src.get (M : List D) (i : Nat) : Src → Option D
  | .vals ds => ds[i]?
  | .rng lo _ => some (.int (lo + i))
  | .cell c _ => match M[c]? with
    | some (.lst xs) => xs[i]?
    | _ => none
/-- no item is left -/
def Src.fin (M : List D) : Src → Bool
  | .vals _ => true
  | .rng _ _ => true
  | .cell c n => match M[c]? with
    | some (.lst xs) => decide (xs.length ≤ n)
    | _ => false
def sgn (c : Nat) : D := .str ⟨#[c]⟩
/-- pairs of a number and an item -/
def enumL : Nat → List D → List D
  | _, [] => []
  | n, d :: ds => .tup [.int (n : Nat), d] :: enumL (n + 1) ds
theorem enumL_get : ∀ (ds : List D) (n i : Nat), (enumL n ds)[i]? = (ds[i]?).map fun d => .tup [.int ((n + i : Nat) : Int), d]
  | [], n, i => by simp [enumL]
  | d :: ds, n, 0 => by simp [enumL]
  | d :: ds, n, i + 1 => by
    show (enumL (n + 1) ds)[i]? = (ds[i]?).map fun d => .tup [.int ((n + (i + 1) : Nat) : Int), d]
    rw [enumL_get ds (n + 1) i, show n + 1 + i = n + (i + 1) by omega]
theorem enumL_len : ∀ (ds : List D) (n : Nat), (enumL n ds).length = ds.length
  | [], _ => rfl
  | _ :: ds, n => congrArg Nat.succ (enumL_len ds (n + 1))
/-- how a heap bears what is walked: by J -/
inductive RepI (G : Gd) (r : List Addr) (H : Hp) : It → Src → Prop
  | lst {a vs ds} : off G r H a = some (.lst vs) → Reps G r H vs ds → RepI G r H (Itl G.K a) (.vals ds)
  | scr {a vs ds} : SqL G.K (off G r H) a vs → Reps G r H vs ds → RepI G r H (Itl G.K a) (.vals ds)
  | tup {a vs ds} : SqT G.K (off G r H) a vs → Reps G r H vs ds → RepI G r H (Itt G.K a) (.vals ds)
  | str {x} : RepI G r H (Its x) (.vals (x.cps.toList.map sgn))
  | rng {lo n} : RepI G r H (Itr lo n) (.rng lo n)
  | cell {a c n} : r[c]? = some a → RepI G r H (Itl G.K a) (.cell c n)
  | enm {a vs ds} : off G r H a = some (.lst vs) → Reps G r H vs ds → RepI G r H (Ite G.K a) (.vals (enumL 0 ds))
section
variable {G : Gd} {r r1 : List Addr} {H H1 : Hp} {M : List D}
theorem RepI.le (l : Le r H r1 H1) {J : It} {z : Src} (h : RepI G r H J z) : RepI G r1 H1 J z := by
  cases h with
  | lst h1 h2 => exact .lst (l.off h1) (h2.le l)
  | scr h1 h2 => exact .scr (l.sqL h1) (h2.le l)
  | tup h1 h2 => exact .tup (l.sqT h1) (h2.le l)
  | str => exact .str
  | rng => exact .rng
  | cell h1 => exact .cell (l.get h1)
  | enm h1 h2 => exact .enm (l.off h1) (h2.le l)
theorem RepI.stop (S : StOk G r M H) {J : It} {z : Src} (h : RepI G r H J z) (e : z.fin M = true) : J.stop z.len H := by
  cases h with
  | lst h1 h2 => exact ⟨_, .of (off_some.mp h1).2, by rw [h2.length]; exact Nat.le_refl _⟩
  | scr h1 h2 => exact ⟨_, sqL_off h1, by rw [h2.length]; exact Nat.le_refl _⟩
  | tup h1 h2 => exact ⟨_, sqT_off h1, by rw [h2.length]; exact Nat.le_refl _⟩
  | str => show _ ≤ (List.map sgn _).length; simp
  | enm h1 h2 => exact ⟨_, .of (off_some.mp h1).2, by show _ ≤ (enumL 0 _).length; rw [enumL_len, h2.length]; exact Nat.le_refl _⟩
  | rng => exact Nat.le_refl _
  | cell h1 =>
    rename_i a c n
    cases em : M[c]? with
    | none => simp only [Src.fin, em] at e; cases e
    | some o =>
      simp only [Src.fin, em] at e
      have q := S.at_ _ _ _ h1 em
      cases o with
      | lst xs =>
        obtain ⟨vs, q1, q2⟩ := q
        exact ⟨vs, .of q1, by rw [q2.length]; exact of_decide_eq_true e⟩
      | _ => cases e
/-- a turn -/
theorem RepI.go (S : StOk G r M H) {J : It} {z : Src} (h : RepI G r H J z) {i : Nat} {d : D} (hi : i < z.len) (e : z.get M i = some d) :
    J.go i H ∧ ∀ x H', J.yld i H x H' → Le r H r H' ∧ StOk G r M H' ∧ Rep G r H' x d := by
  have same : ∀ {x : V} {H' : Hp}, H' = H → Rep G r H x d → Le r H r H' ∧ StOk G r M H' ∧ Rep G r H' x d := fun e R => by subst e; exact ⟨S.le, S, R⟩
  have L : ∀ {a : Addr} {vs : List V} {ds : List D}, SqL G.K H a vs → Reps G r H vs ds → ds[i]? = some d → (Itl G.K a).go i H ∧ ∀ x H', (Itl G.K a).yld i H x H' → Le r H r H' ∧ StOk G r M H' ∧ Rep G r H' x d := by
    intro a vs ds q1 q2 q3
    obtain ⟨v, e1, e2⟩ := q2.get q3
    refine ⟨⟨vs, v, q1, e1⟩, fun x H' y => same y.1 ?_⟩
    have z := y.2 vs q1
    rw [e1] at z
    cases z
    exact e2
  cases h with
  | lst h1 h2 => exact L (.of (off_some.mp h1).2) h2 e
  | scr h1 h2 => exact L (sqL_off h1) h2 e
  | tup h1 h2 =>
    obtain ⟨v, e1, e2⟩ := h2.get (show _ = some d from e)
    refine ⟨⟨_, v, sqT_off h1, e1⟩, fun x H' y => same y.1 ?_⟩
    have z := y.2 _ (sqT_off h1)
    rw [e1] at z
    cases z
    exact e2
  | str =>
    rename_i y
    have e' : (y.cps.toList.map sgn)[i]? = some d := e
    have hl : i < y.cps.size := by
      have q : i < (y.cps.toList.map sgn).length := hi
      simpa using q
    refine ⟨hl, fun x H' q => same q.1 ?_⟩
    obtain ⟨c, c1, rfl⟩ := q.2
    rw [List.getElem?_map, Array.getElem?_toList, c1] at e'
    cases e'
    exact .str
  | rng =>
    cases e
    exact ⟨hi, fun x H' q => same q.1 (by rw [q.2]; exact .int)⟩
  | enm h1 h2 =>
    have e' : (enumL 0 _)[i]? = some d := e
    rw [enumL_get] at e'
    obtain ⟨d0, e0, rfl⟩ := Option.map_eq_some_iff.mp e'
    obtain ⟨v, e1, e2⟩ := h2.get e0
    have q1 : SqL G.K H _ _ := .of (off_some.mp h1).2
    refine ⟨⟨_, v, q1, e1⟩, fun x H' y => ?_⟩
    obtain ⟨T, x', rfl, hT, rfl, hx⟩ := y
    have z := hx _ q1
    rw [e1] at z
    cases z
    obtain ⟨L, S'⟩ := S.new (o := .tup [.int (i : Nat), v]) hT
    exact ⟨L, S', .tup (.of (off_new (S.fresh hT))) (.cons (by rw [Nat.zero_add]; exact .int) (.cons (e2.le L) .nil))⟩
  | cell h1 =>
    rename_i a c n
    cases em : M[c]? with
    | none => simp only [Src.get, em] at e; cases e
    | some o =>
      simp only [Src.get, em] at e
      have q := S.at_ _ _ _ h1 em
      cases o with
      | lst xs =>
        obtain ⟨vs, q1, q2⟩ := q
        exact L (.of q1) q2 e
      | _ => cases e
end

/-! ### the iterable -/
abbrev DI := DEnv → Ev Src
def WI (X : Cx) (tg iter : Expr) (σ : L2.St) (H : Hp) (R : It → Hp → Prop) : Prop := ∀ (pins : List (Addr × Obj)) (s : Shared), Inv X pins σ H s →
  wpAny (model X.prog X.w) X.A (eval iter X.env) (fun v s1 => wpAny (model X.prog X.w) X.A (pyIter v) (PIE X pins σ tg R) X.xe s1) X.xe s
theorem piW {X : Cx} (tg iter : Expr) : PI X tg iter (WI X tg iter) := ⟨fun pins s _ _ _ I h => h pins s I⟩
theorem _root_.L2.PI.wi {X : Cx} {tg iter : Expr} {t : TI} (h : PI X tg iter t) {σ : L2.St} {H : Hp} {R : It → Hp → Prop} (q : t σ H R) : WI X tg iter σ H R := fun pins s I => h.run pins s σ H R I q
structure SI (G : Gd) (X : Cx) (tg iter : Expr) (m : DI) : Prop where
  ru : ∀ (W : WX), Takes X W → ∀ (δ : DEnv) (M : List D) (σ : L2.St) (r : List Addr) (H : Hp) (R : It → Hp → Prop),
  StOk G r M H → EnvOk G r H σ δ → Post G W σ (fun z M1 r1 H1 => ∀ J, RepI G r1 H1 J z → R J H1) r H (m δ M) → WI X tg iter σ H R
/-- a value that is walked -/
def srcM (M : List D) : D → Option Src
  | .lst ds => some (.vals ds)
  | .scr ds => some (.vals ds)
  | .tup ds => some (.vals ds)
  | .str x => some (.vals (x.cps.toList.map sgn))
  | .cell c => match M[c]? with
    | some (.lst xs) => some (.cell c xs.length)
    | _ => none
  | _ => none
def dIt (a : DE) : DI := fun δ => bnd (a δ) fun d M => optE (srcM M d) M
def dRng1 (a : DE) : DI := fun δ => bnd (a δ) fun d => match d with
  | .int j => if -(2 ^ 62) ≤ j ∧ j < 2 ^ 62 then ret (.rng 0 j.toNat) else stuck
  | _ => stuck
def dRng2 (a b : DE) : DI := fun δ => bnd (a δ) fun d => bnd (b δ) fun d' => match d, d' with
  | .int i, .int j => if -(2 ^ 62) ≤ i ∧ i < 2 ^ 62 ∧ -(2 ^ 62) ≤ j ∧ j < 2 ^ 62 then ret (.rng i (j - i).toNat) else stuck
  | _, _ => stuck
section
variable {G : Gd} {X : Cx}
theorem list_it {tg : Expr} {pins : List (Addr × Obj)} {σ : L2.St} {H : Hp} {s : Shared} {R : It → Hp → Prop} {a : Addr} {vs : List V} (I : Inv X pins σ H s) (hq : SqL X.K H a vs) (q : R (Itl X.K a) H) : wpAny (model X.prog X.w) X.A (pyIter (.ref a)) (PIE X pins σ tg R) X.xe s := by
  obtain ⟨its, _, p, _⟩ := I.list hq
  exact wpAny_pyIter_list p.isList (pi_one (tk := s.toks) I _ (turn_list a _) ⟨_, Heap.get?_push_size _ rfl, rfl, rfl⟩ q)
theorem tup_it {tg : Expr} {pins : List (Addr × Obj)} {σ : L2.St} {H : Hp} {s : Shared} {R : It → Hp → Prop} {a : Addr} {vs : List V} (I : Inv X pins σ H s) (hq : SqT X.K H a vs) (q : R (Itt X.K a) H) : wpAny (model X.prog X.w) X.A (pyIter (.ref a)) (PIE X pins σ tg R) X.xe s := by
  obtain ⟨its, _, p, _⟩ := I.tuple hq
  exact wpAny_pyIter_tuple (show s.heap.IsTuple a its.toArray from p) (pi_one (tk := s.toks) I _ (turn_tuple a _) ⟨_, Heap.get?_push_size _ rfl, rfl, rfl⟩ q)
theorem str_it {tg : Expr} {pins : List (Addr × Obj)} {σ : L2.St} {H : Hp} {s : Shared} {R : It → Hp → Prop} {x : Str} {t : Tok} (I : Inv X pins σ H s) (q : R (Its x) H) : wpAny (model X.prog X.w) X.A (pyIter (.str x t)) (PIE X pins σ tg R) X.xe s := by
  cases ha : x.cps.all (· < 128) with
  | false => exact wpAny_pyIter_wide ha (pi_one (tk := s.toks) I _ (turn_str _ x t "str_iterator" (.inr rfl)) ⟨_, Heap.get?_push_size _ rfl, rfl, rfl⟩ q)
  | true => exact wpAny_pyIter_ascii ha (pi_one (tk := s.toks) I _ (turn_str _ x t "str_ascii_iterator" (.inl rfl)) ⟨_, Heap.get?_push_size _ rfl, rfl, rfl⟩ q)
theorem SI.of (hK : G.K = X.K) {tg e : Expr} {m : DE} (h : SE G X e m) : SI G X tg e (dIt m) := by
  refine ⟨?_⟩
  intro W tk δ M σ r H R S E p pins s I
  refine thn (h.ru W tk δ M σ r H (fun x H1 => ∀ (pins : List (Addr × Obj)) (s : Shared) (v : Value), Inv X pins σ H1 s → RelV x v → wpAny (model X.prog X.w) X.A (pyIter v) (PIE X pins σ tg R) X.xe s) S E (p.bnd.imp ?_) pins s I) fun v s1 ⟨x, H1, I1, r1, q1⟩ => q1 pins s1 v I1 r1
  intro d M1 r1 H1 L1 S1 h1 x Rx pins s v I1 rv
  cases Rx with
  | lst q1 q2 =>
    cases rv
    exact list_it I1 (hK ▸ SqL.of (K := G.K) (off_some.mp q1).2) (hK ▸ h1 r1 H1 S1.le S1 _ (.lst q1 q2))
  | scr q1 q2 =>
    cases rv
    exact list_it I1 (hK ▸ sqL_off q1) (hK ▸ h1 r1 H1 S1.le S1 _ (.scr q1 q2))
  | tup q1 q2 =>
    cases rv
    exact tup_it I1 (hK ▸ sqT_off q1) (hK ▸ h1 r1 H1 S1.le S1 _ (.tup q1 q2))
  | str =>
    obtain ⟨t, rfl⟩ := rv
    exact str_it I1 (h1 r1 H1 S1.le S1 _ .str)
  | cell q1 =>
    rename_i a c
    cases rv
    cases em : M1[c]? with
    | none => simp only [srcM, em] at h1; exact h1.elim
    | some o =>
      cases o with
      | lst xs =>
        simp only [srcM, em] at h1
        obtain ⟨vs, w1, w2⟩ := S1.at_ _ _ _ q1 em
        exact list_it I1 (hK ▸ SqL.of (K := G.K) w1) (hK ▸ h1 r1 H1 S1.le S1 _ (.cell q1))
      | _ => simp only [srcM, em] at h1; exact h1.elim
  | _ => exact h1.elim
theorem SI.rng1 {tg a : Expr} {p pos : Pos} {m : DE} (hg : Gl X "range") (hm : X.mg "range" = none) (ha : SE G X a m) (hs : starEach [a] X.env = [(false, eval a X.env)]) : SI G X tg (.Call (.Name "range" p) [a] [] pos) (dRng1 m) := by
  refine ⟨?_⟩
  intro W tk δ M σ r H R S E q
  refine (pi_range1 hg hm (pa_cons (peW a) pa_nil hs) hs).wi ?_
  refine ha.ru W tk δ M σ r H _ S E (q.bnd.imp ?_)
  intro d M1 r1 H1 L1 S1 h1 x Rx
  cases Rx with
  | int =>
    rename_i j
    dsimp only at h1
    by_cases c : -(2 ^ 62) ≤ j ∧ j < 2 ^ 62
    · rw [if_pos c] at h1
      exact ⟨j, rfl, c.1, c.2, h1 r1 H1 S1.le S1 _ .rng⟩
    · rw [if_neg c] at h1
      exact h1.elim
  | _ => exact h1.elim
theorem SI.rng2 {tg a b : Expr} {p pos : Pos} {ma mb : DE} (hg : Gl X "range") (hm : X.mg "range" = none) (ha : SE G X a ma) (hb : SE G X b mb) (hs : starEach [a, b] X.env = [(false, eval a X.env), (false, eval b X.env)]) (hs2 : starEach [b] X.env = [(false, eval b X.env)]) :
    SI G X tg (.Call (.Name "range" p) [a, b] [] pos) (dRng2 ma mb) := by
  refine ⟨?_⟩
  intro W tk δ M σ r H R S E q
  refine (pi_range2 hg hm (pa_cons (peW a) (pa_cons (peW b) pa_nil hs2) (by rw [hs, hs2])) hs hs2).wi ?_
  refine ha.ru W tk δ M σ r H _ S E (q.bnd.imp ?_)
  intro d M1 r1 H1 L1 S1 h1 x Rx
  refine hb.ru W tk δ M1 σ r1 H1 _ S1 (E.le L1) (h1.bnd.imp ?_)
  intro d' M2 r2 H2 L2 S2 h2 x' Rx'
  cases Rx with
  | int =>
    rename_i i
    cases Rx' with
    | int =>
      rename_i j
      dsimp only at h2
      by_cases c : -(2 ^ 62) ≤ i ∧ i < 2 ^ 62 ∧ -(2 ^ 62) ≤ j ∧ j < 2 ^ 62
      · rw [if_pos c] at h2
        exact ⟨i, j, rfl, c, h2 r2 H2 S2.le S2 _ .rng⟩
      · rw [if_neg c] at h2
        exact h2.elim
    | _ => exact h2.elim
  | _ => exact h2.elim

/-- enumerate(list) -/
def dEnum (a : DE) : DI := fun δ => bnd (a δ) fun d => match d with
  | .lst ds => ret (.vals (enumL 0 ds))
  | _ => stuck
theorem SI.enm (hK : G.K = X.K) {elts : List Expr} {kk : Nat} {tpos : Pos} {e : Expr} {p pos : Pos} {m : DE} (hg : Gl X "enumerate") (hm : X.mg "enumerate" = none) (h : SE G X e m) (hs : starEach [e] X.env = [(false, eval e X.env)]) : SI G X (.Tuple elts kk tpos) (.Call (.Name "enumerate" p) [e] [] pos) (dEnum m) := by
  refine ⟨?_⟩
  intro W tk δ M σ r H R S E q
  refine (pi_enum hg hm (pa_cons (peW e) pa_nil hs) hs).wi ?_
  refine h.ru W tk δ M σ r H _ S E (q.bnd.imp ?_)
  intro d M1 r1 H1 L1 S1 h1 x Rx
  cases Rx with
  | lst q1 q2 => exact ⟨_, _, rfl, hK ▸ SqL.of (K := G.K) (off_some.mp q1).2, hK ▸ h1 r1 H1 S1.le S1 _ (.enm q1 q2)⟩
  | _ => exact h1.elim

/-! ### for -/
/-- the turns from the i-th on, n are left -/
def turns (z : Src) (g : DG) (body : DS) : Nat → Nat → DS
  | 0, _ => fun δ M => if z.fin M then .ok (.nx δ) M else .stk
  | n + 1, i => fun δ M => match z.get M i with
    | none => .stk
    | some d => lft (g d δ) δ (fun δ1 => bnd (body δ1) fun f => match f with
      | .nx δ2 => turns z g body n (i + 1) δ2
      | .ct δ2 => turns z g body n (i + 1) δ2
      | .bk δ2 => ret (.nx δ2)
      | x => ret x) M
def dFor (it : DI) (g : DG) (body : DS) : DS := fun δ => lft (it δ) δ fun z => turns z g body z.len 0 δ
theorem SS.for_ (hp : PassesOwn (model X.prog X.w) X.A X.env X.xe) (hc : X.calm = true) (hK : G.K = X.K) {tg iter : Expr} {sts : List Stmt} {pos : Pos} {it : DI} {g : DG} {body : DS} (hi : SI G X tg iter it) (hg : SG G X tg g) (hb : SSs G X sts body) (hs : ∀ x, foldedSetIterable iter X.env x = pure x) :
    SS G X (.For tg iter sts [] pos) (dFor it g body) := by
  refine ⟨?_⟩
  intro W tk δ M σ r H E S e p
  refine (ps_for hp hc (piW tg iter) (pgW tg) (pssW sts) hs).ws ?_
  refine hi.ru W tk δ M σ r H _ S e ((p.lft e).imp ?_)
  intro z M1 r1 H1 L1 S1 h1 J hJ
  refine ⟨fun i m σ H => i + m = z.len ∧ ∃ δ M r, StOk G r M H ∧ EnvOk G r H σ δ ∧ RepI G r H J z ∧ PostS G W E r H (turns z g body m i δ M), ⟨z.len, Nat.zero_add _, δ, M1, r1, S1, e.le L1, hJ, h1⟩, ?_⟩
  rintro i m σ H ⟨hz, δ, M, r, S, e, hJ, q⟩
  cases m with
  | zero =>
    have q' : PostS G W E r H (if z.fin M then .ok (.nx δ) M else .stk) := q
    by_cases c : z.fin M = true
    · rw [if_pos c] at q'
      obtain rfl : i = z.len := by omega
      exact .inl ⟨hJ.stop S c, q' r H S.le S σ e⟩
    · rw [if_neg c] at q'
      exact q'.elim
  | succ k =>
    unfold turns at q
    cases ed : z.get M i with
    | none => simp only [ed] at q; exact q.elim
    | some d =>
      simp only [ed] at q
      obtain ⟨go, yl⟩ := hJ.go S (show i < z.len by omega) ed
      refine .inr ⟨go, fun σ' H' => (i + 1) + k = z.len ∧ ∃ δ M r, StOk G r M H' ∧ EnvOk G r H' σ' δ ∧ RepI G r H' J z ∧ PostS G W E r H' (turns z g body k (i + 1) δ M), fun σ' H' h => ⟨k, Nat.lt_succ_self _, h⟩, fun x H' y => ?_⟩
      obtain ⟨Lx, S, Rx⟩ := yl x H' y
      have e := e.le Lx
      have hJ := hJ.le Lx
      have q := q.mono Lx
      refine hg.ru W tk d x δ M σ r _ _ S Rx e ((q.lft e).imp ?_)
      intro δ1 M2 r2 H2 L2 S2 h2 σ2 e2
      refine hb.ru W tk δ1 M2 σ2 r2 H2 _ S2 e2 (Post.imp h2.bnd ?_)
      intro f M3 r3 H3 L3 S3 h3
      cases f with
      | nx δ3 => exact fun σ3 e3 => ⟨by omega, δ3, M3, r3, S3, e3, hJ.le (L2.trans L3), h3⟩
      | ct δ3 => exact fun σ3 e3 => ⟨by omega, δ3, M3, r3, S3, e3, hJ.le (L2.trans L3), h3⟩
      | bk δ3 => exact fun σ3 e3 => h3 r3 H3 S3.le S3 σ3 e3
      | rt d3 => exact h3 r3 H3 S3.le S3
      | ex δ3 d3 => exact h3 r3 H3 S3.le S3

/-! ### while: at most n turns -/
def whiles (c : DT) (body : DS) : Nat → DS
  | 0 => fun _ => stuck
  | n + 1 => fun δ => lft (c δ) δ fun k => if k then bnd (body δ) fun f => match f with
      | .nx δ2 => whiles c body n δ2
      | .ct δ2 => whiles c body n δ2
      | .bk δ2 => ret (.nx δ2)
      | x => ret x
    else ret (.nx δ)
theorem SS.while_ (hp : PassesOwn (model X.prog X.w) X.A X.env X.xe) {c : Expr} {sts : List Stmt} {pos : Pos} {mc : DT} {body : DS} (n : Nat) (hc : ST G X c mc) (hb : SSs G X sts body) : SS G X (.While c sts [] pos) (whiles mc body n) := by
  refine ⟨?_⟩
  intro W tk δ M σ r H E S e p
  refine (ps_while hp (ptW c) (pssW sts)).ws ?_
  refine ⟨fun m σ H => ∃ δ M r, StOk G r M H ∧ EnvOk G r H σ δ ∧ PostS G W E r H (whiles mc body m δ M), ⟨n, δ, M, r, S, e, p⟩, ?_⟩
  rintro m σ H ⟨δ, M, r, S, e, q⟩
  cases m with
  | zero => exact q.elim
  | succ k =>
    refine hc.ru W tk δ M σ r H _ S e ((Post.lft (f := fun k' => if k' then bnd (body δ) fun f => match f with
      | .nx δ2 => whiles mc body k δ2
      | .ct δ2 => whiles mc body k δ2
      | .bk δ2 => Iv.ret (.nx δ2)
      | x => Iv.ret x
    else Iv.ret (.nx δ)) e q).imp ?_)
    intro b M1 r1 H1 L1 S1 h1
    cases b with
    | false =>
      refine iteF ?_
      exact h1 r1 H1 S1.le S1 σ (e.le L1)
    | true =>
      refine iteT ⟨fun σ' H' => ∃ δ M r, StOk G r M H' ∧ EnvOk G r H' σ' δ ∧ PostS G W E r H' (whiles mc body k δ M), fun σ' H' h => ⟨k, Nat.lt_succ_self _, h⟩, ?_⟩
      have h1' : PostS G W E r1 H1 (bnd (body δ) (fun f => match f with
        | .nx δ2 => whiles mc body k δ2
        | .ct δ2 => whiles mc body k δ2
        | .bk δ2 => Iv.ret (.nx δ2)
        | x => Iv.ret x) M1) := h1
      refine hb.ru W tk δ M1 σ r1 H1 _ S1 (e.le L1) (Post.imp h1'.bnd ?_)
      intro f M3 r3 H3 L3 S3 h3
      cases f with
      | nx δ3 => exact fun σ3 e3 => ⟨δ3, M3, r3, S3, e3, h3⟩
      | ct δ3 => exact fun σ3 e3 => ⟨δ3, M3, r3, S3, e3, h3⟩
      | bk δ3 => exact fun σ3 e3 => h3 r3 H3 S3.le S3 σ3 e3
      | rt d3 => exact h3 r3 H3 S3.le S3
      | ex δ3 d3 => exact h3 r3 H3 S3.le S3
end
end Iv
/-! List comprehensions. -/
namespace Iv
open PySem PySem.Spec PyProof.Rows L2

/-! ### an address is hidden -/
abbrev Gd.at (G : Gd) (h : List Addr) : Gd := { G with hid := h }
abbrev Gd.hide (G : Gd) (a : Addr) : Gd := G.at (a :: G.hid)
section
variable {G : Gd} {r r1 : List Addr} {H H1 H2 : Hp} {M : List D} {h2 : List Addr} {p : Addr} {o : HO} {σ : L2.St} {δ : DEnv}
theorem sqL_via (ho : ∀ a o, off G r H a = some o → off (G.at h2) r H2 a = some o) {K : PySem.W.Frag} {a : Addr} {xs : List V} (h : SqL K (off G r H) a xs) : SqL K (off (G.at h2) r H2) a xs := by
  rcases h with (h | ⟨o, h⟩) | h
  · exact .inl (.inl (ho _ _ h))
  · exact .inl (.inr ⟨o, ho _ _ h⟩)
  · exact .inr h
theorem sqT_via (ho : ∀ a o, off G r H a = some o → off (G.at h2) r H2 a = some o) {K : PySem.W.Frag} {a : Addr} {xs : List V} (h : SqT K (off G r H) a xs) : SqT K (off (G.at h2) r H2) a xs := by
  rcases h with (h | ⟨o, h⟩) | h
  · exact .inl (.inl (ho _ _ h))
  · exact .inl (.inr ⟨o, ho _ _ h⟩)
  · exact .inr h
mutual
theorem Rep.via (ho : ∀ a o, off G r H a = some o → off (G.at h2) r H2 a = some o) : ∀ {v : V} {d : D}, Rep G r H v d → Rep (G.at h2) r H2 v d
  | _, _, .non => .non
  | _, _, .bl => .bl
  | _, _, .int => .int
  | _, _, .str => .str
  | _, _, .lst h hs => .lst (ho _ _ h) (Reps.via ho hs)
  | _, _, .scr h hs => .scr (sqL_via ho h) (Reps.via ho hs)
  | _, _, .tup h hs => .tup (sqT_via ho h) (Reps.via ho hs)
  | _, _, .dct h hs => .dct (ho _ _ h) (Reps.via ho hs)
  | _, _, .ins z h hs => .ins z (ho _ _ h) (Reps.via ho hs)
  | _, _, .exn z h h2 hs => .exn z (ho _ _ h) (ho _ _ h2) (Reps.via ho hs)
  | _, _, .exn0 z h => .exn0 z (ho _ _ h)
  | _, _, .cell h => .cell h
  | _, _, .fn => .fn
  | _, _, .cls => .cls
  | _, _, .ty => .ty
theorem Reps.via (ho : ∀ a o, off G r H a = some o → off (G.at h2) r H2 a = some o) : ∀ {vs : List V} {ds : List D}, Reps G r H vs ds → Reps (G.at h2) r H2 vs ds
  | _, _, .nil => .nil
  | _, _, .cons h hs => .cons (Rep.via ho h) (Reps.via ho hs)
end
theorem RepI.via (ho : ∀ a o, off G r H a = some o → off (G.at h2) r H2 a = some o) {J : It} {z : Src} (h : RepI G r H J z) : RepI (G.at h2) r H2 J z := by
  cases h with
  | lst h1 h2 => exact .lst (ho _ _ h1) (h2.via ho)
  | scr h1 h2 => exact .scr (sqL_via ho h1) (h2.via ho)
  | tup h1 h2 => exact .tup (sqT_via ho h1) (h2.via ho)
  | str => exact .str
  | rng => exact .rng
  | cell h1 => exact .cell h1
  | enm h1 h2 => exact .enm (ho _ _ h1) (h2.via ho)
theorem EnvOk.via (ho : ∀ a o, off G r H a = some o → off (G.at h2) r H2 a = some o) (E : EnvOk G r H σ δ) : EnvOk (G.at h2) r H2 σ δ := ⟨E.len, fun i d h =>
  let ⟨v, e1, e2⟩ := E.at_ i d h
  ⟨v, e1, e2.via ho⟩⟩
theorem CellAt.via (ho : ∀ a o, off G r H a = some o → off (G.at h2) r H2 a = some o) {a : Addr} (e : H2 a = H a) {d : D} (h : CellAt G r H a d) : CellAt (G.at h2) r H2 a d := by
  cases d with
  | lst ds => obtain ⟨vs, e1, hs⟩ := h; exact ⟨vs, e.trans e1, hs.via ho⟩
  | dct ks ds => obtain ⟨kvs, e1, e2, hs⟩ := h; exact ⟨kvs, e.trans e1, e2, hs.via ho⟩
  | ins c ns ds => obtain ⟨dx, fs, e1, e2, hs, hx⟩ := h; exact ⟨dx, fs, e.trans e1, e2, hs.via ho, hx⟩
  | _ => exact h.elim
theorem off_hide (hp : H p = none) : ∀ a u, off G r H a = some u → off (G.hide p) r (upd H p o) a = some u := fun a u h => by
  obtain ⟨⟨h1, h2⟩, h3⟩ := off_some.mp h
  have ne : a ≠ p := ne_of_none h3 hp
  exact off_some.mpr ⟨⟨fun z => (List.mem_cons.mp z).elim ne h1, h2⟩, by rw [upd_ne ne]; exact h3⟩
theorem off_show : ∀ a u, off (G.hide p) r H a = some u → off G r H a = some u := fun a u h => by
  obtain ⟨⟨h1, h2⟩, h3⟩ := off_some.mp h
  exact off_some.mpr ⟨⟨fun z => h1 (List.mem_cons_of_mem _ z), h2⟩, h3⟩
theorem off_updH (hp : p ∈ G.hid) : ∀ a u, off G r H a = some u → off G r (upd H p o) a = some u := fun a u h => by
  obtain ⟨⟨h1, h2⟩, h3⟩ := off_some.mp h
  exact off_some.mpr ⟨⟨h1, h2⟩, by rw [upd_ne (show a ≠ p from fun z => h1 (by rw [z]; exact hp))]; exact h3⟩
/-- an object is laid and hidden -/
theorem StOk.hide (S : StOk G r M H) (hp : H p = none) : Le r H r (upd H p o) ∧ StOk (G.hide p) r M (upd H p o) := by
  obtain ⟨L, S'⟩ := S.new (o := o) hp
  have np := S.fresh hp
  refine ⟨L, S'.len, S'.nd, fun n a d h1 h2 => ?_, fun a ha => ?_⟩
  · exact (S.at_ n a d h1 h2).via (off_hide hp) (upd_ne (show a ≠ p from fun z => np.2 (by rw [← z]; exact List.mem_of_getElem? h1)))
  · rcases List.mem_cons.mp ha with e | h
    · subst e; exact ⟨by rw [upd_same]; exact (fun z => nomatch z), np.2⟩
    · exact S'.hid a h
theorem StOk.show_ (S : StOk (G.hide p) r M H) : StOk G r M H := ⟨S.len, S.nd, fun n a d h1 h2 => CellAt.via (G := G.hide p) (h2 := G.hid) off_show rfl (S.at_ n a d h1 h2), fun a ha => S.hid a (List.mem_cons_of_mem _ ha)⟩
theorem StOk.updH (S : StOk G r M H) (hp : p ∈ G.hid) : StOk G r M (upd H p o) := by
  refine ⟨S.len, S.nd, fun n a d h1 h2 => ?_, fun a ha => ⟨?_, (S.hid a ha).2⟩⟩
  · exact CellAt.via (h2 := G.hid) (off_updH hp) (upd_ne (show a ≠ p from fun z => (S.hid p hp).2 (by rw [← z]; exact List.mem_of_getElem? h1))) (S.at_ n a d h1 h2)
  · by_cases e : a = p
    · subst e; rw [upd_same]; exact (fun z => nomatch z)
    · rw [upd_ne e]; exact (S.hid a ha).1
theorem Le.updN (L : Le r1 H1 r H) (hp : H1 p = none) (np : p ∉ r) : Le r1 H1 r (upd H p o) := ⟨L.pre, fun a u e h => by rw [upd_ne (ne_of_none e hp)]; exact L.keep a u e h, fun a ha => by
  have ne : a ≠ p := fun z => np (by
    obtain ⟨new, rfl, _⟩ := L.pre
    rw [← z]
    exact List.mem_append_left _ ha)
  rw [upd_ne ne]
  exact L.there a ha⟩
theorem Le.out (L : Le r H r1 H1) {u : HO} (hp : H p = some u) (np : p ∉ r) : p ∉ r1 ∧ H1 p = some u := by
  refine ⟨fun z => ?_, L.keep p u hp np⟩
  obtain ⟨new, rfl, hn⟩ := L.pre
  rcases List.mem_append.mp z with z | z
  · exact np z
  · rw [hn p z] at hp; cases hp
/-- slots forgotten -/
def wipeD (δ : DEnv) : List Nat → DEnv
  | [] => δ
  | v :: vs => (wipeD δ vs).set v none
theorem EnvOk.wipe (E : EnvOk G r H σ δ) : ∀ vs : List Nat, EnvOk G r H (L2.wipe σ vs) (wipeD δ vs)
  | [] => E
  | i :: vs => by
    have I := EnvOk.wipe E vs
    show EnvOk G r H ((L2.wipe σ vs).set i none) ((wipeD δ vs).set i none)
    refine ⟨by rw [List.length_set, List.length_set]; exact I.len, fun j d e => ?_⟩
    by_cases h : i = j
    · subst h
      rw [List.getElem?_set] at e
      simp only [if_true] at e
      split at e <;> cases e
    · rw [List.getElem?_set_ne h] at e ⊢
      exact I.at_ j d e
end

/-! ### targets that touch certain slots alone -/
structure SGv (G : Gd) (X : Cx) (tg : Expr) (m : DG) (vs : List Nat) : Prop where
  ru : ∀ (W : WX), Takes X W → ∀ (d : D) (v : V) (δ : DEnv) (M : List D) (σ : L2.St) (r : List Addr) (H : Hp) (Q : L2.St → Hp → Prop),
  StOk G r M H → Rep G r H v d → EnvOk G r H σ δ → Post G W σ (fun δ' _ r' H' => ∀ σ', EnvOk G r' H' σ' δ' → L2.wipe σ' vs = L2.wipe σ vs → Q σ' H') r H (m d δ M) → WG X tg v σ H Q
theorem wipe_at {σ : L2.St} {i : Nat} : ∀ {vs : List Nat}, i ∈ vs → (L2.wipe σ vs).set i none = L2.wipe σ vs
  | v :: vs, h => by
    show (((L2.wipe σ vs).set v none).set i none) = (L2.wipe σ vs).set v none
    by_cases e : v = i
    · subst e
      exact List.set_set ..
    · rw [List.set_comm _ _ e, wipe_at ((List.mem_cons.mp h).resolve_left fun z => e z.symm)]
theorem wipe_set {σ : L2.St} {i : Nat} {x : Option V} : ∀ {vs : List Nat}, i ∈ vs → L2.wipe (σ.set i x) vs = L2.wipe σ vs
  | v :: vs, h => by
    show (L2.wipe (σ.set i x) vs).set v none = (L2.wipe σ vs).set v none
    by_cases e : i ∈ vs
    · rw [wipe_set e]
    · have e2 : i = v := (List.mem_cons.mp h).resolve_right e
      subst e2
      have q : ∀ {ws : List Nat} {τ : L2.St}, i ∉ ws → L2.wipe (τ.set i x) ws = (L2.wipe τ ws).set i x := by
        intro ws
        induction ws with
        | nil => intro τ _; rfl
        | cons w ws ih =>
          intro τ hn
          have hn' : i ≠ w ∧ i ∉ ws := by simpa using hn
          show (L2.wipe (τ.set i x) ws).set w none = ((L2.wipe τ ws).set w none).set i x
          rw [ih hn'.2, List.set_comm _ _ (show i ≠ w from hn'.1)]
      rw [q e]
      exact List.set_set ..
theorem wipe_wipe {σ : L2.St} {vs : List Nat} : ∀ {ws : List Nat}, (∀ w ∈ ws, w ∈ vs) → L2.wipe (L2.wipe σ ws) vs = L2.wipe σ vs
  | [], _ => rfl
  | w :: ws, h => by
    show L2.wipe ((L2.wipe σ ws).set w none) vs = _
    rw [wipe_set (h w List.mem_cons_self), wipe_wipe fun u hu => h u (List.mem_cons_of_mem _ hu)]
theorem SGv.name {G : Gd} {X : Cx} {i : Nat} {x : Str} {pos : Pos} {vs : List Nat} (hN : X.N.Nodup) (hi : X.N[i]? = some x) (hx : Loc X.env.scope x) (hf : X.fn x = true ∨ X.env.scope.names.lookup x = some .local) (hv : i ∈ vs) : SGv G X (.Name x pos) (gVar i) vs := by
  refine ⟨?_⟩
  intro W tk d v δ M σ r H Q S Rv e p
  exact (pg_name hN hi hx hf).wg (p r H S.le S _ (e.set Rv) (wipe_set hv))
/-- the conditions of a comprehension -/
def WTs (X : Cx) (ifs : List Expr) (σ : L2.St) (H : Hp) (Q : Bool → Hp → Prop) : Prop := ∃ t, PTs X ifs t ∧ t σ H Q
theorem ptsW {X : Cx} (ifs : List Expr) : PTs X ifs (WTs X ifs) := ⟨fun pins s σ H Q I ⟨_, h, q⟩ => h.run pins s σ H Q I q⟩
structure STs (G : Gd) (X : Cx) (ifs : List Expr) (m : DT) : Prop where
  ru : ∀ (W : WX), Takes X W → ∀ (δ : DEnv) (M : List D) (σ : L2.St) (r : List Addr) (H : Hp) (Q : Bool → Hp → Prop),
  StOk G r M H → EnvOk G r H σ δ → Post G W σ (JT Q) r H (m δ M) → WTs X ifs σ H Q
def dYes : DT := fun _ => ret true
theorem STs.nil {G : Gd} {X : Cx} : STs G X [] dYes := ⟨fun W tk δ M σ r H Q S E p => ⟨_, pts_nil, p r H S.le S⟩⟩
theorem STs.one {G : Gd} {X : Cx} {c : Expr} {m : DT} (h : ST G X c m) : STs G X [c] m := ⟨fun W tk δ M σ r H Q S E p => ⟨_, pts_one (ptW c), h.ru W tk δ M σ r H Q S E p⟩⟩

/-! ### the comprehension -/
def lcs (z : Src) (g : DG) (tt : DT) (te : DE) (δ : DEnv) : Nat → Nat → Ev (List D)
  | 0, _ => fun M => if z.fin M then .ok [] M else .stk
  | n + 1, i => fun M => match z.get M i with
    | none => .stk
    | some d => bnd (g d δ) (fun δ1 => bnd (tt δ1) fun b => if b then bnd (te δ1) (fun y => bnd (lcs z g tt te δ n (i + 1)) fun ys => ret (y :: ys)) else lcs z g tt te δ n (i + 1)) M
/-- no exception -/
def noX {α : Type} (x : Ev α) : Ev α := fun M => match x M with
  | .ok a M' => .ok a M'
  | _ => .stk
def dLc (it : DI) (g : DG) (tt : DT) (te : DE) (vs : List Nat) : DE := fun δ => bnd (it δ) fun z => if z.len ≤ sizeLine then noX (bnd (lcs z g tt te (wipeD δ vs) z.len 0) fun ys => ret (.lst ys)) else stuck
theorem bnd_ok {α β : Type} {x : Ev α} {f : α → Ev β} {M M' : List D} {b : β} (h : bnd x f M = .ok b M') : ∃ a M1, x M = .ok a M1 ∧ f a M1 = .ok b M' := by
  unfold bnd at h
  cases e : x M with
  | ok a M1 => rw [e] at h; exact ⟨a, M1, rfl, h⟩
  | exc _ _ => rw [e] at h; cases h
  | stk => rw [e] at h; cases h
theorem takesF {X : Cx} : Takes X WF := fun _ _ ⟨_, _, _, _, _, _, _, _, _, _, _, _, _, _, _, _, w⟩ => w.elim
section
variable {G : Gd} {X : Cx}
abbrev lcG (X : Cx) (scope : Scope) (tg : Expr) : TG := fun v σ H Q => ∀ (s : Shared) (H0 : Hp) (C : Addr) (cl : List (Str × Addr)) (fp : List Addr), WG (X.blk s H0 scope (compEnvC scope cl C X.env) fp) tg v σ H Q
abbrev lcT (X : Cx) (scope : Scope) (ifs : List Expr) : TT := fun σ H Q => ∀ (s : Shared) (H0 : Hp) (C : Addr) (cl : List (Str × Addr)) (fp : List Addr), WTs (X.blk s H0 scope (compEnvC scope cl C X.env) fp) ifs σ H Q
abbrev lcE (X : Cx) (scope : Scope) (elt : Expr) : TE := fun σ H Q => ∀ (s : Shared) (H0 : Hp) (C : Addr) (cl : List (Str × Addr)) (fp : List Addr), WE (X.blk s H0 scope (compEnvC scope cl C X.env) fp) elt σ H Q
theorem lc_post {elt tg iter : Expr} {ifs : List Expr} {scope : Scope} {own : List (Str × Nat)} {it : DI} {g : DG} {tt : DT} {te : DE} (hi : SI G X tg iter it)
    (hg : ∀ (D : Addr) (s : Shared) (H : Hp) (C : Addr) (cl : List (Str × Addr)) (fp : List Addr), SGv (G.hide D) (X.blk s H scope (compEnvC scope cl C X.env) fp) tg g (own.map (·.2)))
    (ht : ∀ (D : Addr) (s : Shared) (H : Hp) (C : Addr) (cl : List (Str × Addr)) (fp : List Addr), STs (G.hide D) (X.blk s H scope (compEnvC scope cl C X.env) fp) ifs tt)
    (he : ∀ (D : Addr) (s : Shared) (H : Hp) (C : Addr) (cl : List (Str × Addr)) (fp : List Addr), SE (G.hide D) (X.blk s H scope (compEnvC scope cl C X.env) fp) elt te) (W : WX) (tk : Takes X W) (δ : DEnv) (M : List D) (σ : L2.St) (r : List Addr) (H : Hp) (Q : VK) (S : StOk G r M H) (E : EnvOk G r H σ δ)
    (p : Post G W σ (JE G Q) r H (dLc it g tt te (own.map (·.2)) δ M)) : tLc (WI X tg iter) (lcG X scope tg) (lcT X scope ifs) (lcE X scope elt) (own.map (·.2)) σ H Q := by
  refine hi.ru W tk δ M σ r H _ S E (p.bnd.imp ?_)
  intro z M1 r1 H1 L1 S1 h1 J hJ D hD
  by_cases cz : z.len ≤ sizeLine
  case neg => rw [if_neg cz] at h1; exact h1.elim
  rw [if_pos cz] at h1
  generalize hvs : own.map (·.2) = vs at *
  have res : ∃ ys Me, lcs z g tt te (wipeD δ vs) z.len 0 M1 = .ok ys Me ∧ ∀ r' H', Le r1 H1 r' H' → StOk G r' Me H' → ∀ v, Rep G r' H' v (.lst ys) → Q v H' := by
    unfold noX bnd Iv.ret at h1
    cases e : lcs z g tt te (wipeD δ vs) z.len 0 M1 with
    | ok ys Me => rw [e] at h1; exact ⟨ys, Me, rfl, h1⟩
    | exc _ _ => rw [e] at h1; exact h1.elim
    | stk => rw [e] at h1; exact h1.elim
  obtain ⟨ys, Me, hl, hQ⟩ := res
  have nD := S1.fresh hD
  obtain ⟨Lh, Sh⟩ := S1.hide (o := .lst []) hD
  have hmem : D ∈ (G.hide D).hid := List.mem_cons_self
  refine ⟨fun i m H => i + m = z.len ∧ ∃ (M : List Iv.D) (r : List Addr) (acc rest : List Iv.D) (accV : List V), StOk (G.hide D) r M H ∧ EnvOk (G.hide D) r H (L2.wipe σ vs) (wipeD δ vs) ∧ RepI (G.hide D) r H J z ∧ H D = some (.lst accV) ∧
    Reps (G.hide D) r H accV acc ∧ acc.length ≤ i ∧ Le r1 H1 r H ∧ D ∉ r ∧ lcs z g tt te (wipeD δ vs) m i M = .ok rest Me ∧ ys = acc ++ rest,
    ⟨z.len, Nat.zero_add _, M1, r1, [], ys, [], Sh, ((E.le L1).via (off_hide hD)).wipe vs, hJ.via (off_hide hD), upd_same, .nil, Nat.le_refl _, Lh, nD.2, hl, rfl⟩, ?_⟩
  rintro i m H ⟨hz, M, r, acc, rest, accV, S, E, hJ, hA, hR, hlen, L, nr, hl, hys⟩
  cases m with
  | zero =>
    have hl' : (if z.fin M then R.ok [] M else .stk) = .ok rest Me := hl
    by_cases c : z.fin M = true
    · rw [if_pos c] at hl'
      cases hl'
      obtain rfl : i = z.len := by omega
      rw [List.append_nil] at hys
      subst hys
      exact .inl ⟨hJ.stop S c, hQ r H L S.show_ _ (.lst (off_some.mpr ⟨⟨nD.1, nr⟩, hA⟩) (Reps.via (G := G.hide D) (h2 := G.hid) off_show hR))⟩
    · rw [if_neg c] at hl'; cases hl'
  | succ k =>
    unfold lcs at hl
    cases ed : z.get M i with
    | none => simp only [ed] at hl; cases hl
    | some d =>
      simp only [ed] at hl
      obtain ⟨δ1, Ma, ea, hl⟩ := bnd_ok hl
      obtain ⟨b, Mb, eb, hl⟩ := bnd_ok hl
      obtain ⟨go, yl⟩ := hJ.go S (show i < z.len by omega) ed
      refine .inr ⟨go, fun H => (i + 1) + k = z.len ∧ ∃ (M : List Iv.D) (r : List Addr) (acc rest : List Iv.D) (accV : List V), StOk (G.hide D) r M H ∧ EnvOk (G.hide D) r H (L2.wipe σ vs) (wipeD δ vs) ∧ RepI (G.hide D) r H J z ∧ H D = some (.lst accV) ∧
        Reps (G.hide D) r H accV acc ∧ acc.length ≤ i + 1 ∧ Le r1 H1 r H ∧ D ∉ r ∧ lcs z g tt te (wipeD δ vs) k (i + 1) M = .ok rest Me ∧ ys = acc ++ rest, fun H' h => ⟨k, Nat.lt_succ_self _, h⟩, fun x H' y => ?_⟩
      obtain ⟨Lx, S, Rx⟩ := yl x H' y
      have hA := Lx.keep D _ hA nr
      have E := E.le Lx
      have hJ := hJ.le Lx
      have hR := hR.le Lx
      have L := L.trans Lx
      intro s0 H0 C0 cl0 fp0
      refine (hg D s0 H0 C0 cl0 fp0).ru WF takesF d x (wipeD δ vs) M _ r _ _ S Rx E ?_
      rw [ea]
      intro r2 H2 L2' S2 σ2 E2 hw
      refine ⟨hw.trans (wipe_wipe fun _ h => h), fun s0 H0 C0 cl0 fp0 => ?_⟩
      refine (ht D s0 H0 C0 cl0 fp0).ru WF takesF δ1 Ma σ2 r2 H2 _ S2 E2 ?_
      rw [eb]
      intro r3 H3 L3 S3
      have nr2 := L2'.out hA nr
      have nr3 := L3.out nr2.2 nr2.1
      cases b with
      | false =>
        refine iteF ?_
        have T := L2'.trans L3
        exact ⟨by omega, Mb, r3, acc, rest, accV, S3, E.le T, hJ.le T, nr3.2, hR.le T, by omega, L.trans T, nr3.1, hl, hys⟩
      | true =>
        rw [if_pos rfl] at hl
        obtain ⟨yd, Mc, ec, hl⟩ := bnd_ok hl
        obtain ⟨ys', Md, ed', hl⟩ := bnd_ok hl
        cases hl
        refine iteT fun s0 H0 C0 cl0 fp0 => ?_
        refine (he D s0 H0 C0 cl0 fp0).ru WF takesF δ1 Mb σ2 r3 H3 _ S3 (E2.le L3) ?_
        rw [ec]
        intro r4 H4 L4 S4 yv Ry
        have nr4 := L4.out nr3.2 nr3.1
        have T := (L2'.trans L3).trans L4
        refine ⟨accV, nr4.2, by rw [hR.length]; omega, by omega, Mc, r4, acc ++ [yd], ys', accV ++ [yv], S4.updH hmem, EnvOk.via (G := G.hide D) (h2 := (G.hide D).hid) (off_updH hmem) (E.le T), RepI.via (G := G.hide D) (h2 := (G.hide D).hid) (off_updH hmem) (hJ.le T), upd_same,
          Reps.via (G := G.hide D) (h2 := (G.hide D).hid) (off_updH hmem) ((hR.le T).append (.cons Ry .nil)), by rw [List.length_append]; exact Nat.succ_le_succ hlen, (L.trans T).updN hD nr4.1, nr4.1, ed', by rw [hys]; simp⟩
section
variable (hc : X.calm = true) (hN : X.N.Nodup) {elt tg iter : Expr} {ifs : List Expr} {scope : Scope} {pos spos py : Pos} {i : Nat} {y : Str} {own : List (Str × Nat)} {it : DI} {g : DG} {tt : DT} {te : DE} (hi : SI G X tg iter it)
    (hg : ∀ (D : Addr) (s : Shared) (H : Hp) (C : Addr) (cl : List (Str × Addr)) (fp : List Addr), SGv (G.hide D) (X.blk s H scope (compEnvC scope cl C X.env) fp) tg g (own.map (·.2)))
    (ht : ∀ (D : Addr) (s : Shared) (H : Hp) (C : Addr) (cl : List (Str × Addr)) (fp : List Addr), STs (G.hide D) (X.blk s H scope (compEnvC scope cl C X.env) fp) ifs tt)
    (he : ∀ (D : Addr) (s : Shared) (H : Hp) (C : Addr) (cl : List (Str × Addr)) (fp : List Addr), SE (G.hide D) (X.blk s H scope (compEnvC scope cl C X.env) fp) elt te) (ok : BlkOk X.N X.env.scope scope own) (hs : ∀ x, foldedSetIterable iter X.env x = pure x)
include hc hN hi hg ht he ok hs
theorem SE.lc : SE G X (.ListComp elt [⟨tg, iter, ifs, 0⟩] scope pos) (dLc it g tt te (own.map (·.2))) := by
  refine ⟨?_⟩
  intro W tk δ M σ r H Q S E p
  exact (pe_lc (g := lcG X scope tg) (tt := lcT X scope ifs) (te := lcE X scope elt) hc hN (piW tg iter) ok
    (fun s H0 C cl fp => ⟨fun pins s' σ H v u Q I rv h => (pgW tg).run pins s' σ H v u Q I rv (h s H0 C cl fp)⟩)
    (fun s H0 C cl fp => ⟨fun pins s' σ H Q I h => (ptsW ifs).run pins s' σ H Q I (h s H0 C cl fp)⟩)
    (fun s H0 C cl fp => ⟨fun pins s' σ H Q I h => (peW elt).run pins s' σ H Q I (h s H0 C cl fp)⟩) hs).we (lc_post hi hg ht he W tk δ M σ r H Q S E p)
/-- y = [.. for ..] on one row -/
theorem SS.setLc (hy : X.N[i]? = some y) (hyl : X.env.scope.names.lookup y = some .local) (hsw : swapsWith (.ListComp elt [⟨tg, iter, ifs, 0⟩] scope pos) (some (.Name y py)) spos.line X.env = pure true) :
    SS G X (.Assign [.Name y py] (.ListComp elt [⟨tg, iter, ifs, 0⟩] scope pos) spos) (dAsg (dLc it g tt te (own.map (·.2))) (gVar i)) := by
  refine ⟨?_⟩
  intro W tk δ M σ r H E S e p
  refine (ps_setLc (g := lcG X scope tg) (tt := lcT X scope ifs) (te := lcE X scope elt) hc hN hy hyl hsw (piW tg iter) ok
    (fun s H0 C cl fp => ⟨fun pins s' σ H v u Q I rv h => (pgW tg).run pins s' σ H v u Q I rv (h s H0 C cl fp)⟩)
    (fun s H0 C cl fp => ⟨fun pins s' σ H Q I h => (ptsW ifs).run pins s' σ H Q I (h s H0 C cl fp)⟩)
    (fun s H0 C cl fp => ⟨fun pins s' σ H Q I h => (peW elt).run pins s' σ H Q I (h s H0 C cl fp)⟩) hs).ws ?_
  refine lc_post hi hg ht he W tk δ M σ r H _ S e ((p.lft e).imp ?_)
  intro d M1 r1 H1 L1 S1 h1 v Rv
  exact h1 r1 H1 S1.le S1 _ ((e.le L1).set Rv)
end
end
end Iv
/-! How many texts of a list differ: len(set(..)). -/
namespace Iv
open PySem PySem.Spec PyProof.Rows L2

/-- how many of the first i texts did not stand ahead of themselves -/
def cntN (xs : List Str) : Nat → Nat
  | 0 => 0
  | i + 1 => if (xs.take i).contains (xs.getD i Str.empty) then cntN xs i else cntN xs i + 1
theorem cntN_le (xs : List Str) : ∀ i, cntN xs i ≤ i
  | 0 => Nat.le_refl _
  | i + 1 => by
    have := cntN_le xs i
    unfold cntN
    split <;> omega
theorem take_next {xs : List Str} {i : Nat} (h : i < xs.length) : xs.take (i + 1) = xs.take i ++ [xs.getD i Str.empty] := by
  rw [List.take_add_one, List.getD_eq_getElem?_getD, List.getElem?_eq_getElem h]
  rfl
section
variable {prog : Program} {w : World} {A : Around}
abbrev sk (prog : Program) (w : World) := PySem.strKind prog w
/-- the texts go into the set, in turn -/
theorem setTurns {R : Result → Shared → Prop} {it S : Addr} {fp wr : List Addr} {G : Array GenState → Array GenState → Prop} {P : Nat → Value → Prop} {St : Nat → Shared → Prop} {xs : List Str}
    (W : WalksS prog w A.in1 it fp wr G xs.length P St) (nS : S ∉ fp) (val : ∀ i v, P i v → ∃ t, v = .str (xs.getD i Str.empty) t) (room : xs.length + 1 < scanBound) :
    ∀ (m i : Nat) (s : Shared), i + m = xs.length → St i s → s.heap.SetOf (sk prog w) S (fun z => (xs.take i).contains z) (cntN xs i) →
      (∀ s', Moved (S :: wr) G s s' → s'.heap.SetOf (sk prog w) S (fun z => (xs.take xs.length).contains z) (cntN xs xs.length) → R (.ok (.ret .none)) s') →
      codeAny (model prog w) A (.builtin "set.update.loop" ⟨[.ref S, .ref it], []⟩) R s := by
  have nW : S ∉ wr := fun z => nS (W.sub S z)
  have up : ∀ b ∈ wr, b ∈ S :: wr := fun b z => .tail _ z
  have stays : ∀ {s s' : Shared} {f : Str → Bool} {c : Nat}, Moved wr G s s' → s.heap.SetOf (sk prog w) S f c → s'.heap.SetOf (sk prog w) S f c := fun mv ⟨o, es, ep, t, e, q⟩ => ⟨o, es, ep, t, mv.heap S o nW e, q⟩
  intro m
  induction m with
  | zero =>
    intro i s e st hS out
    obtain rfl : i = xs.length := e
    refine codeAny_builtin PyProof.Rows.F.entry_set_update_loop ?_
    rw [Around.under_plainId PyProof.Rows.F.plain_set_update_loop _]
    exact wpAny_bind (W.done s _ _ st fun s' mv => wpAny_pure (out s' (mv.mono up) (stays mv hS)))
  | succ m ih =>
    intro i s e st hS out
    have lt : i < xs.length := by omega
    refine codeAny_builtin PyProof.Rows.F.entry_set_update_loop ?_
    rw [Around.under_plainId PyProof.Rows.F.plain_set_update_loop _]
    refine wpAny_bind (W.item i s _ _ lt st fun v s' p st' mv => ?_)
    obtain ⟨t, rfl⟩ := val i v p
    have hS' := stays mv hS
    show wpAny _ A.in1 (holding [Value.str (xs.getD i Str.empty) t] (setAdd S (.str (xs.getD i Str.empty) t)) >>= _) _ _ s'
    refine wpAny_bind (wpAny_holding ?_)
    unfold setAdd
    refine wpAny_holding (wpAny_bind ((sk prog w).pyHash (k := xs.getD i Str.empty) (strKind_is _ _ _ _) ?_))
    refine wpAny_setAddHashed_of (knd := sk prog w) (s := { s' with toks := s'.toks + 1 }) (strKind_is _ _ _ _) rfl hS' (by have := cntN_le xs i; omega) fun h2 sb hS2 => ?_
    have e2 : h2.SetOf (sk prog w) S (fun z => (xs.take (i + 1)).contains z) (cntN xs (i + 1)) := by
      refine SetOf_congr hS2 (fun z => ?_) ?_
      · rw [take_next lt, List.contains_append]
        simp [List.contains_eq_mem]
      · rw [cntN]
    have step : Moved (S :: wr) G s { s' with heap := h2, toks := s'.toks + 1 } := (mv.mono up).then_heap (Nat.le_succ _) fun b o hb q => by rw [sb.2 b fun z => hb (by rw [z]; exact .head _)]; exact q
    refine wpAny_pure ⟨plainId_quiet PyProof.Rows.F.plain_set_update_loop _, ih (i + 1) _ (by omega) (W.frame _ s' _ _ st' (Nat.le_succ _) fun b hb o q => ?_) e2 fun s3 mv3 hS3 => out s3 (Moved.trans W.gtrans step mv3) hS3⟩
    rw [sb.2 b fun z => nS (by rw [← z]; exact hb)]
    exact q
/-- an empty set -/
abbrev set0 (led : Bool) : Obj := { cls := .type "set", dict := none, data := .set #[] 0 (.fresh 0 0 led) }
/-- set(l), l a list of texts -/
theorem setCall {E : Value → Shared → Prop} {s : Shared} {l : Addr} {items : Array Value} {xs : List Str} {Q : Value → Shared → Prop} (hh : A.handled = none) (isl : s.heap.IsList l items) (tx : StrsAre items.toList xs) (room : xs.length + 1 < scanBound)
    (out : ∀ (h' : Heap) (tk : Nat), h'.SetOf (sk prog w) s.heap.objs.size (fun z => (xs.take xs.length).contains z) (cntN xs xs.length) → (∀ b o, s.heap.get? b = some o → h'.get? b = some o) → Q (.ref s.heap.objs.size) { s with heap := h', toks := tk }) :
    wpAny (model prog w) A (call (.type "set") [.ref l]) Q E s := by
  obtain ⟨mc, mt, mro⟩ := PySem.F.called_set.mro
  have f1 := PySem.F.called_set.made
  have f2 := PySem.F.called_set.sub
  have f3 := PySem.F.called_set.notType
  have f4 := PySem.F.called_set.canCreate
  have f5 := PySem.F.typeCall_set_1 (.ref l)
  refine wpAny_call (codeAny_of_tree ?_)
  show wpAny _ _ (callAny (.type "set") _) _ _ _
  refine wpAny_pure ⟨Code.quiet_builtin _ (by decide +kernel), codeAny_builtin PySem.F.entry_type_call ?_⟩
  rw [Around.under_plain (weight_type_call_type "set" [.ref l] []) rfl]
  repeat (any_goals (first | wp_step | assumption))
  refine codeAny_mono (code_set_new_1 (.ref l) (E := E) (Q₁ := fun o s1 => ∃ led, o = .ref s.heap.objs.size ∧ s1 = { s with heap := s.heap.push (set0 led) }) fun led => ⟨led, rfl, rfl⟩) fun x s1 hx => ?_
  cases x with
  | error e => exact hx
  | ok fl =>
    cases fl with
    | ret o =>
      obtain ⟨led, rfl, rfl⟩ := hx
      have at0 : (s.heap.push (set0 led)).get? s.heap.objs.size = some (set0 led) := Heap.get?_push_size _ rfl
      have ty0 : Shared.TypeIs { s with heap := s.heap.push (set0 led) } (.ref s.heap.objs.size) "set" := ⟨_, at0, rfl⟩
      have g1 := PySem.F.called_set.init.lookup
      have g2 := PySem.F.called_set.init.bind (.ref s.heap.objs.size)
      repeat (any_goals (first | wp_step | assumption))
      refine codeAny_mono (codeAny_call_builtin (R := wants (fun y s2 => y = .none ∧ ∃ h' tk, s2 = { s with heap := h', toks := tk } ∧ h'.SetOf (sk prog w) s.heap.objs.size (fun z => (xs.take xs.length).contains z) (cntN xs xs.length) ∧ ∀ b o, s.heap.get? b = some o → h'.get? b = some o) E)
        PySem.F.called_set.init.plain PySem.F.entry_set_init (check_set_init_1 ty0 ?_)) fun y s2 hy => ?_
      · obtain ⟨ol, il, cl, nl, dl⟩ := isl
        obtain ⟨c0, d0, da, sl⟩ := ol
        simp only at cl dl
        subst cl
        subst dl
        have il2 : (s.heap.push (set0 led)).get? l = some { cls := .type "list", dict := d0, data := .seq items nl, slots := sl } := Heap.get?_push_of_some _ il
        have g3 := PySem.F.sub_list_set
        have g4 := PySem.F.sub_list_frozenset
        have g5 : (Value.type "list" == Value.type "dict") = false := by decide
        have isl2 : (s.heap.push (set0 led)).IsList l items := ⟨_, il2, rfl, nl, rfl⟩
        have lt := Heap.lt_size il
        have sz : (s.heap.push (set0 led)).objs.size = s.heap.objs.size + 1 := Heap.size_push ..
        have len : xs.length = items.size := by rw [← StrsAre.len_eq tx, Array.length_toList]
        unfold Builtin.«set.__init__» noKeywords Builtin.Frozenset.updateFrom
        generalize hPI : pyIter = PI
        wp_walk
        subst hPI
        refine wpAny_pyIter_list isl2 (wpAny_bind (wpAny_runValue ?_))
        have ne : l ≠ (s.heap.push (set0 led)).objs.size := by rw [sz]; exact Nat.ne_of_lt (Nat.lt_succ_of_lt lt)
        have out3 : A.in1.in1.in1.handled = none := by simp [hh]
        have W := (Walks.list (prog := prog) (w := w) out3 _ l ne items).toS
        rw [← len] at W
        refine setTurns W ?_ (fun i v hv => SS.strs_at tx i v (by rw [Array.getElem?_toList]; exact hv)) room xs.length 0 _ (Nat.zero_add _) ⟨⟨_, Heap.get?_push_size _ rfl, rfl, rfl⟩, isl2.push _⟩ ?_ fun s3 mv hS => ?_
        · rw [sz]
          simp only [List.mem_cons, List.not_mem_nil, or_false, not_or]
          exact ⟨Nat.ne_of_lt (Nat.lt_succ_self _), Nat.ne_of_gt lt⟩
        · exact SetOf_congr ((PyProof.Rows.setObjOf_fresh (knd := sk prog w) led).setOf (Heap.get?_push_of_some _ at0) (by unfold scanBound; omega)) (fun _ => rfl) rfl
        · obtain ⟨h3, ge, dr, tk, os⟩ := s3
          obtain rfl : ge = s.gens := mv.gens
          obtain rfl : dr = s.drawn := mv.drawn
          obtain rfl : os = s.os := mv.os
          refine wpAny_pure (wpAny_pure ⟨rfl, h3, tk, rfl, hS, fun b o q => mv.heap b o ?_ (Heap.get?_push_of_some _ (Heap.get?_push_of_some _ q))⟩)
          have lb := Heap.lt_size q
          rw [sz]
          simp only [List.mem_cons, List.not_mem_nil, or_false, not_or]
          exact ⟨Nat.ne_of_lt lb, Nat.ne_of_lt (Nat.lt_succ_of_lt lb)⟩
      · cases y with
        | error e => exact hy
        | ok f2 =>
          cases f2 with
          | ret r =>
            obtain ⟨rfl, h3, tk, rfl, hS, kp⟩ := hy
            repeat (any_goals (first | wp_step | assumption))
            exact out _ _ hS kp
          | _ => exact hy.elim
    | _ => exact hx.elim
end
end Iv
/-! New cells; stores into cells; calls with keywords; small dicts; repr; how many differ; the law's end. -/
namespace Iv
open PySem PySem.Spec PyProof.Rows L2

/-! ### new cells -/
section
variable {G : Gd} {r : List Addr} {H : Hp} {M : List D}
theorem StOk.more (S : StOk G r M H) {p : Addr} {o : HO} {d : D} (hp : H p = none) (hd : Le r H (r ++ [p]) (upd H p o) → CellAt G (r ++ [p]) (upd H p o) p d) : Le r H (r ++ [p]) (upd H p o) ∧ StOk G (r ++ [p]) (M ++ [d]) (upd H p o) := by
  have np := S.fresh hp
  have ne : ∀ {a}, a ∈ r → a ≠ p := fun ha z => np.2 (by rw [← z]; exact ha)
  have L : Le r H (r ++ [p]) (upd H p o) := ⟨⟨[p], rfl, fun b hb => by rw [List.mem_singleton.mp hb]; exact hp⟩, fun a u e _ => by rw [upd_ne (ne_of_none e hp)]; exact e, fun a ha => by rw [upd_ne (ne ha)]; exact S.there a ha⟩
  refine ⟨L, by simp [S.len], ?_, fun n a d' h1 h2 => ?_, fun a ha => ?_⟩
  · rw [List.nodup_append]
    exact ⟨S.nd, by simp, fun a ha b hb => by rw [List.mem_singleton.mp hb]; exact ne ha⟩
  · by_cases c : n < r.length
    · rw [List.getElem?_append_left c] at h1
      rw [List.getElem?_append_left (by rw [← S.len]; exact c)] at h2
      exact (S.at_ n a d' h1 h2).le L (upd_ne (ne (List.mem_of_getElem? h1)))
    · rw [List.getElem?_append_right (Nat.le_of_not_lt c)] at h1
      rw [List.getElem?_append_right (by rw [← S.len]; exact Nat.le_of_not_lt c), ← S.len] at h2
      cases e : n - r.length with
      | zero =>
        rw [e] at h1 h2
        cases h1
        cases h2
        exact hd L
      | succ k => rw [e] at h1; simp at h1
  · obtain ⟨q1, q2⟩ := S.hid a ha
    have nq : a ≠ p := fun z => q1 (by rw [z]; exact hp)
    exact ⟨by rw [upd_ne nq]; exact q1, by simp only [List.mem_append, List.mem_singleton, not_or]; exact ⟨q2, nq⟩⟩
end
section
variable {G : Gd} {X : Cx}
/-- [..], to be changed -/
def dCel (a : DA) : DE := fun δ => bnd (a δ) fun xs M => if xs.length ≤ sizeLine then .ok (.cell M.length) (M ++ [.lst xs]) else .stk
theorem SE.cel {es : List Expr} {pos : Pos} {m : DA} (h : SA G X es m) : SE G X (.List es pos) (dCel m) := by
  refine ⟨?_⟩
  intro W tk δ M σ r H Q S E p
  refine (pe_lst (paW es)).we ?_
  refine h.ru W tk δ M σ r H _ S E (p.bnd.imp ?_)
  intro ds M1 r1 H1 L1 S1 h1 vs Rs
  by_cases c : ds.length ≤ sizeLine
  · rw [if_pos c] at h1
    refine ⟨by rw [Rs.length]; exact c, fun q hq => ?_⟩
    obtain ⟨L, S'⟩ := S1.more (o := .lst vs) (d := .lst ds) hq fun L => ⟨vs, upd_same, Rs.le L⟩
    exact h1 _ _ L S' _ (.cell (by rw [← S1.len, List.getElem?_append_right (Nat.le_refl _)]; simp))
  · rw [if_neg c] at h1
    exact h1.elim

/-! ### stores -/
def setLO (o i d : D) (M : List D) : Option (List D) := match o, i with
  | .cell n, .int k => match M[n]? with
    | some (.lst xs) => match ixN xs.length k with
      | some j => some (M.set n (.lst (xs.set j d)))
      | none => none
    | _ => none
  | _, _ => none
def gIx (a b : DE) : DG := fun d δ => bnd (a δ) fun x => bnd (b δ) fun y M => match setLO x y d M with
  | some M' => .ok δ M'
  | none => .stk
theorem SG.sub {o i : Expr} {pos : Pos} {ma mb : DE} (ho : SE G X o ma) (hi : SE G X i mb)
    (ha : ∀ v, assign (.Subscript o i pos) X.env v = (do
      let x ← holding [v] (eval o X.env)
      let y ← holding [v, x] (eval i X.env)
      standAt pos
      holding [v, x, y] (setItem x y v)
      release [v, x, y] [])) : SG G X (.Subscript o i pos) (gIx ma mb) := by
  refine ⟨?_⟩
  intro W tk d v δ M σ r H Q S Rv E p
  refine (pg_sub (peW o) (peW i) set_list ha).wg ?_
  refine ho.ru W tk δ M σ r H _ S E (p.bnd.imp ?_)
  intro d1 M1 r1 H1 L1 S1 h1 v1 R1
  refine hi.ru W tk δ M1 σ r1 H1 _ S1 (E.le L1) (h1.bnd.imp ?_)
  intro d2 M2 r2 H2 L2 S2 h2 v2 R2
  have R1' := R1.le L2
  cases e : setLO d1 d2 d M2 with
  | none => rw [e] at h2; exact h2.elim
  | some M' =>
    rw [e] at h2
    unfold setLO at e
    cases R1' with
    | cell hc =>
      rename_i a n
      cases R2 with
      | int =>
        rename_i k
        dsimp only at e
        cases em : M2[n]? with
        | none => rw [em] at e; cases e
        | some u =>
          rw [em] at e
          cases u with
          | lst xs =>
            dsimp only at e
            cases ex : ixN xs.length k with
            | none => rw [ex] at e; cases e
            | some j =>
              rw [ex] at e
              cases e
              obtain ⟨vs, q1, q2⟩ := S2.at_ n a _ hc em
              refine ⟨a, vs, k, j, rfl, rfl, q1, by rw [q2.length]; exact ex, ?_⟩
              obtain ⟨L, S'⟩ := S2.write (o := .lst (vs.set j v)) (d := .lst (xs.set j d)) hc fun L => ⟨_, upd_same, Reps.set (((Rv.le L1).le L2).le L) j (q2.le L)⟩
              exact h2 r2 _ L S' σ (((E.le L1).le L2).le L)
          | _ => cases e
      | _ => cases e
    | _ => cases e

/-! ### keywords -/
def WK (X : Cx) (kws : List Keyword) (σ : L2.St) (H : Hp) (Q : List V → Hp → Prop) : Prop := ∃ t, PK X kws t ∧ t σ H Q
theorem pkW (kws : List Keyword) : PK X kws (WK X kws) := ⟨fun pos pins s σ H Q I ⟨_, h, q⟩ => h.run pos pins s σ H Q I q⟩
structure SK (G : Gd) (X : Cx) (kws : List Keyword) (m : DA) : Prop where
  ru : ∀ (W : WX), Takes X W → ∀ (δ : DEnv) (M : List D) (σ : L2.St) (r : List Addr) (H : Hp) (Q : List V → Hp → Prop),
  StOk G r M H → EnvOk G r H σ δ → Post G W σ (JA G Q) r H (m δ M) → WK X kws σ H Q
theorem SK.nil : SK G X [] dNil := ⟨fun W tk δ M σ r H Q S E p => ⟨_, pk_nil, p r H S.le S _ .nil⟩⟩
theorem SK.cons {nm : Option Str} {e : Expr} {kpos : Pos} {kws : List Keyword} {ma : DE} {mb : DA} (ha : SE G X e ma) (hb : SK G X kws mb) : SK G X (⟨nm, e, kpos⟩ :: kws) (dCons ma mb) := by
  refine ⟨?_⟩
  intro W tk δ M σ r H Q S E p
  refine ⟨_, pk_cons (peW e) (pkW kws), ?_⟩
  refine ha.ru W tk δ M σ r H _ S E (p.bnd.imp ?_)
  intro d1 M1 r1 H1 L1 S1 h1 v1 R1
  refine hb.ru W tk δ M1 σ r1 H1 _ S1 (E.le L1) (h1.bnd.imp ?_)
  intro d2 M2 r2 H2 L2 S2 h2 v2 R2
  exact h2 r2 H2 S2.le S2 _ (.cons (R1.le L2) R2)
/-- gD puts the arguments into the parameters' order -/
def dCallK (n : Nat) (gD : List D → List D → List D) (g : List D → Ev D) (a k : DA) : DE := fun δ => bnd (a δ) fun ds => bnd (k δ) fun es => if (gD ds es).length = n then g (gD ds es) else stuck
variable {k : Nat} {f : Addr} {fd : FuncData} {ps ks : List Str} {g : List D → Ev D}
theorem SE.callK0 (F : FnS G X.prog X.w X.mg X.base k f fd ps g) (hr : Room k X.A) (hgd : X.A.guards = some []) (hK : G.K = X.K) {x : Str} {p pos : Pos} {kws : List Keyword} {mk : DA} {gs : List Value → List Value → List Value} {gV : List V → List V → List V} {gD : List D → List D → List D}
    (hg : Gl X x) (hm : X.mg x = some (.ref f)) (hk : PySem.W.keepIn X.K (.ref f) = true) (hb : KBinds X.K fd ps ks gs gV) (hD : ∀ {r H vs ds zs es}, Reps G r H vs ds → Reps G r H zs es → Reps G r H (gV vs zs) (gD ds es))
    (hkw : SK G X kws mk) (hall : (backToKw pos (keywordEach kws X.env)).all (·.1.isSome) = true) (hks : (backToKw pos (keywordEach kws X.env)).filterMap (·.1) = ks) (hdb : (x == ("__debug__" : Str)) = false)
    (hpl : ((backTo pos (starEach [] X.env)).any (·.1) || (backToKw pos (keywordEach kws X.env)).any (·.1.isNone)) = false) : SE G X (.Call (.Name x p) [] kws pos) (dCallK ps.length gD g dNil mk) := by
  refine ⟨?_⟩
  intro W tk δ M σ r H Q S E q pins s I
  refine wpAny_Call_Name_kw (ld_glob I hg hm ?_ hdb)
  have hA : WK X kws σ H fun zs H1 => ∀ (pins : List (Addr × Obj)) (s : Shared) (ws : List Value), Inv X pins σ H1 s → Vals zs ws → wpAny (model X.prog X.w) X.A (PySem.call (.ref f) [] (ks.zip ws)) (EP X pins σ Q) X.xe s := by
    refine hkw.ru W tk δ M σ r H _ S E ((show Post G W σ (JE G Q) r H (bnd (mk δ) (fun es => if (gD [] es).length = ps.length then g (gD [] es) else stuck) M) from q).bnd.imp ?_)
    intro es M1 r1 H1 L1 S1 h1 zs Rz pins s ws I1 rz
    by_cases c : (gD [] es).length = ps.length
    · rw [if_pos c] at h1
      have R := hD (.nil (G := G) (r := r1) (H := H1)) Rz
      have rv := hb.rel .nil rz
      have hl : (gV [] zs).length = ps.length := by rw [R.length]; exact c
      exact F.call hr hgd hK tk I1 (hb.to s [] ws I1.kIn (by rw [← rv.length]; exact hl)) rv hl S1 R h1
    · rw [if_neg c] at h1
      exact h1.elim
  refine PySem.W.callWith_KW0 (h₀ := X.base) I.ok.mod.kin hk hall ?_ hpl
  obtain ⟨t, ht, hA⟩ := hA
  refine thn (ht.run pos pins s σ H _ I hA) fun ws s1 ⟨zs, H1, I1, r1, h⟩ => ⟨I1.kIn, ?_⟩
  rw [hks]
  exact h pins s1 ws I1 r1

/-! ### small dicts -/
def dDic0 : DE := fun _ => ret (.dct [] [])
theorem SE.dic0 {pos : Pos} : SE G X (.Dict [] [] pos) dDic0 := by
  refine ⟨?_⟩
  intro W tk δ M σ r H Q S E p
  refine pe_dnewK.we fun q hq => ?_
  obtain ⟨L, S'⟩ := S.new (o := .dK []) hq
  exact p r _ L S' _ (.dct (off_new (S.fresh hq)) .nil)
/-- {'k': c}, c a constant -/
theorem SE.dic1 {x : Str} {j : Nat} {kp pos : Pos} {e : Expr} {v : V} {d : D} (he : PE X e (tC v)) (hr : ∀ r H, Rep G r H v d) : SE G X (.Dict [some (.Constant (.str x) j kp)] [e] pos) (dLit (.dct [.str x] [d])) := by
  refine ⟨?_⟩
  intro W tk δ M σ r H Q S E p
  refine (pe_disp (pps_cons pe_str he pps_nil) rfl rfl (by simp) (by simp)).we fun q hq => ?_
  refine ⟨upd_same, [(.inr x, v)], rfl, by simp, ?_⟩
  rw [upd_upd]
  obtain ⟨L, S'⟩ := S.new (o := .dK (mergeK [] [(.inr x, v)])) hq
  exact p r _ L S' _ (.dct (kvs := [(.inr x, v)]) (off_new (S.fresh hq)) (.cons (hr _ _) .nil))

/-! ### repr -/
mutual
def pyD : D → Option PyData
  | .non => some .none
  | .bl b => some (.bool b)
  | .int i => some (.int i)
  | .str x => some (.str x)
  | .lst xs => (pyDs xs).map .list
  | .tup xs => (pyDs xs).map .tuple
  | _ => none
def pyDs : List D → Option (List PyData)
  | [] => some []
  | d :: ds => match pyD d, pyDs ds with
    | some x, some xs => some (x :: xs)
    | _, _ => none
end
section
variable {pins : List (Addr × Obj)} {σ : L2.St} {H : Hp} {s : Shared} {r : List Addr}
mutual
theorem reads_of (hK : G.K = X.K) (I : Inv X pins σ H s) : ∀ {v : V} {d : D} {u : Value} {y : PyData}, Rep G r H v d → RelV v u → pyD d = some y → ∃ as, Reads s.heap u y as
  | _, _, _, _, .non, rv, e => by cases rv; cases e; exact ⟨_, .none⟩
  | _, _, _, _, .bl, rv, e => by cases rv; cases e; exact ⟨_, .bool _⟩
  | _, _, _, _, .int, rv, e => by obtain ⟨t, rfl⟩ := rv; cases e; exact ⟨_, .int _ _⟩
  | _, _, _, _, .str, rv, e => by obtain ⟨t, rfl⟩ := rv; cases e; exact ⟨_, .str _ _⟩
  | _, _, _, _, .lst h hs, rv, e => by
    cases rv
    obtain ⟨ys, e1, rfl⟩ := Option.map_eq_some_iff.mp e
    obtain ⟨z, its, n, r1, q⟩ := I.hok _ _ (off_some.mp h).2
    obtain ⟨as, ra⟩ := readss_of hK I hs r1 e1
    exact ⟨_, .list q rfl rfl (by simpa using ra)⟩
  | _, _, _, _, .tup h hs, rv, e => by
    cases rv
    obtain ⟨ys, e1, rfl⟩ := Option.map_eq_some_iff.mp e
    obtain ⟨its, r1, ⟨o, q1, q2, n, q3⟩, z⟩ := I.tuple (hK ▸ sqT_off h)
    obtain ⟨as, ra⟩ := readss_of hK I hs r1 e1
    exact ⟨_, .tuple q1 q2 q3 (by simpa using ra)⟩
  | _, _, _, _, .scr _ _, _, e => by cases e
  | _, _, _, _, .dct _ _, _, e => by cases e
  | _, _, _, _, .ins _ _ _, _, e => by cases e
  | _, _, _, _, .exn _ _ _ _, _, e => by cases e
  | _, _, _, _, .exn0 _ _, _, e => by cases e
  | _, _, _, _, .cell _, _, e => by cases e
  | _, _, _, _, .fn, _, e => by cases e
  | _, _, _, _, .cls, _, e => by cases e
  | _, _, _, _, .ty, _, e => by cases e
theorem readss_of (hK : G.K = X.K) (I : Inv X pins σ H s) : ∀ {vs : List V} {ds : List D} {us : List Value} {ys : List PyData}, Reps G r H vs ds → Vals vs us → pyDs ds = some ys → ∃ as, ReadsAll s.heap us ys as
  | _, _, _, _, .nil, .nil, e => by cases e; exact ⟨_, .nil⟩
  | _, _, _, _, .cons (d := d) (ds := ds) h hs, .cons q qs, e => by
    unfold pyDs at e
    cases e1 : pyD d with
    | none => rw [e1] at e; cases e
    | some y =>
      cases e2 : pyDs ds with
      | none => rw [e1, e2] at e; cases e
      | some ys =>
        rw [e1, e2] at e
        cases e
        obtain ⟨as, a1⟩ := reads_of hK I h q e1
        obtain ⟨bs, b1⟩ := readss_of hK I hs qs e2
        exact ⟨_, .cons a1 b1⟩
end
end
def reprD (u : Nat) (d : D) : Option D := match d with
  | .tup _ => match pyD d with
    | some y => if y.showable = true ∧ y.hasDict = false ∧ y.depth ≤ u ∧ y.shown.length ≤ sizeLine then some (.str y.shown) else none
    | none => none
  | _ => none
theorem CaS.repr (hK : G.K = X.K) (hgd : X.A.guards = some []) {n : Nat} (hu : X.A.units + (n + 1) < cLine) : CaS G X (.builtin "repr") (oneO (reprD n)) := CaS.one fun r H x d z Q h e k => by
  intro pins s σ us I rx
  cases rx with
  | cons rv rs =>
    cases rs
    rename_i u
    unfold reprD at e
    cases d with
    | tup ds =>
      dsimp only at e
      cases ey : pyD (.tup ds) with
      | none => rw [ey] at e; cases e
      | some y =>
        rw [ey] at e
        dsimp only at e
        by_cases c : y.showable = true ∧ y.hasDict = false ∧ y.depth ≤ n ∧ y.shown.length ≤ sizeLine
        · rw [if_pos c] at e
          cases e
          obtain ⟨as, ra⟩ := reads_of hK I h rv ey
          cases h with
          | tup h1 h2 =>
            cases rv
            refine repr_of_reads' ra c.1 (PyData.noDict_hsm c.2.1) hgd (by have := c.2.2.1; omega) (fun b o q => q) (fun h' u tk kp => ⟨.str y.shown, H, I.kept kp, ⟨_, rfl⟩, k _ .str⟩) c.2.2.2
        · rw [if_neg c] at e; cases e
    | _ => cases e

/-! ### how many differ -/
def lenSetO (M : List D) (d : D) : Option D := match valD M d with
  | .lst ds => match strsD ds with
    | some xs => if xs.length + 1 < scanBound then some (.int (cntN xs xs.length : Nat)) else none
    | none => none
  | _ => none
def dLenSet (a : DE) : DE := fun δ => bnd (a δ) fun d M => optE (lenSetO M d) M
theorem SE.lenSet (hc : X.calm = true) {a : Expr} {p p2 q pos : Pos} {m : DE} (hg : Gl X "len") (hm : X.mg "len" = none) (hg2 : Gl X "set") (hm2 : X.mg "set" = none) (ha : SE G X a m) (na : starEach [a] X.env = (false, eval a X.env) :: starEach [] X.env) :
    SE G X (.Call (.Name "len" p) [.Call (.Name "set" p2) [a] [] q] [] pos) (dLenSet m) := by
  refine ⟨?_⟩
  intro W tk δ M σ r H Q S E pq pins s I
  have hA : WE X a σ H fun x H1 => ∃ l, ∃ xs : List Str, x = .ref l ∧ H1 l = some (.lst (xs.map V.str)) ∧ xs.length + 1 < scanBound ∧ Q (.int (cntN xs xs.length : Nat)) H1 := by
    refine ha.ru W tk δ M σ r H _ S E (pq.bnd.imp ?_)
    intro d M1 r1 H1 L1 S1 h1 v Rv
    unfold lenSetO at h1
    cases ev : valD M1 d with
    | lst ds =>
      simp only [ev] at h1
      cases es : strsD ds with
      | none => simp only [es] at h1; exact h1.elim
      | some xs =>
        simp only [es] at h1
        by_cases c : xs.length + 1 < scanBound
        · rw [if_pos c] at h1
          obtain ⟨l, vs, rfl, q1, q2⟩ := val_lst S1 Rv ev
          rw [strsD_eq es] at q2
          rw [Reps.of_strs q2] at q1
          exact ⟨l, xs, rfl, q1, c, h1 r1 H1 S1.le S1 _ .int⟩
        · rw [if_neg c] at h1; exact h1.elim
    | _ => simp only [ev] at h1; exact h1.elim
  refine Call_ (ld_blt I hg hm boot_len (PyProof.Rows.callWith_builtin1 (PyProof.Rows.args_cons ?_ rfl) rfl rfl))
  refine Call_ (ld_blt I hg2 hm2 boot_set (PyProof.Rows.callWith_type1 (PyProof.Rows.args_cons (thn (hA pins s I) fun v s1 ⟨x, H1, I1, r1, l, xs, e, hl, room, fin⟩ => PyProof.Rows.args_nil ?_) na) na rfl))
  subst e
  cases r1
  obtain ⟨its, rv, pl, _⟩ := I1.list (SqL.of (K := X.K) hl)
  refine setCall (I1.ok.hd hc) pl.isList (by simpa using strsAre_of rv) room fun h' tk hS kp => PyProof.Rows.args_nil ?_
  obtain ⟨o, es, ep, t, ho, ex, hd, _, _, _, hf, hn⟩ := hS
  have le := cntN_le xs xs.length
  have sb : scanBound = 4096 := rfl
  exact call_len_set ho ex hd hf (by rw [hn]; omega) ⟨.int (cntN xs xs.length : Nat), H1, (I1.kept (t' := tk) kp).tok _, ⟨_, by rw [hn]⟩, fin⟩
end

/-! ### the law's end -/
/-- the script alone is known -/
def scrH (a : Addr) (o : Obj) (u : HO) : Hp := fun b => if b = a then some (.frz o u) else none
theorem scrH_at {a b : Addr} {o : Obj} {u z : HO} (e : scrH a o u b = some z) : b = a ∧ z = .frz o u := by
  unfold scrH at e
  split at e
  · rename_i q; exact ⟨q, (Option.some.inj e).symm⟩
  · cases e
abbrev EndR (s1 : Shared) : Result → Shared → Prop := fun r s' => r = .ok (.ret (.bool true)) ∧ OldK s1.heap s'.heap ∧ s'.os = s1.os ∧ AllBare s'.gens
section
variable {G : Gd} {P : Program} {w : World} {mg mb : Str → Option Value} {k : Nat} {fa a : Addr} {fd : FuncData} {x : Str} {g : List D → Ev D} {s1 : Shared} {vs : List Value} {ns : List Int}
/-- from any heap in which at most the script is known -/
theorem end_at (H : Hp) (oh : H = (fun _ => none) ∨ ∃ o u, H = scrH a o u ∧ G.K.lookup a = none) (hh : G.hid = []) (inK : G.K.In s1.heap) (nm : s1.heap.Ns mainGlobals mg) (nb : s1.heap.Ns builtinsNs mb) (bb : ∀ x : Str, x ≠ "__name__" → mb x = bootBuiltins x) (lim : s1.heap.NoLimit) (ng : s1.gens = #[])
    (ol : ∃ o : Obj, s1.heap.get? a = some o ∧ ∃ its n, o.data = .seq its n) (hok : HOk P w H s1.heap) (hS : SqL G.K H a (ns.map V.int)) (hr : Room k callerA)
    (F : ∀ base : Heap, G.K.In base → base.Ns mainGlobals mg → FnS G P w mg base k fa fd [x] g) (hb : ∀ (s : Shared) (u : Value), BindsTo s fd ⟨[u], []⟩ [(x, u)]) (M' : List D) (law : g [.scr (ns.map .int)] [] = .ok (.bl true) M') :
    codeAny (model P w) callerA (.call (.ref fa) ⟨[.ref a], []⟩) (EndR s1) s1 := by
  have only : ∀ {b z}, H b = some z → b = a ∧ G.K.lookup a = none ∧ ∃ o u, z = .frz o u := fun {b z} e => by
    rcases oh with q | ⟨o, u, q, q2⟩
    · rw [q] at e; cases e
    · rw [q] at e
      obtain ⟨e1, e2⟩ := scrH_at e
      exact ⟨e1, q2, o, u, e2⟩
  have none_at : ∀ {b : Addr} {o : Obj} {es : Array DictEntry} {ep : Nat}, s1.heap.get? b = some o → o.data = .dict es ep → H b = none := fun {b o es ep} e d => by
    cases q : H b with
    | none => rfl
    | some z =>
      obtain ⟨rfl, _⟩ := only q
      obtain ⟨o', e', its, n, d'⟩ := ol
      rw [e] at e'
      cases e'
      rw [d] at d'
      cases d'
  have nsT : ∀ {b : Addr} {m : Str → Option Value}, s1.heap.Ns b m → (hidT s1.heap H).Ns b m := fun ⟨o, es, ep, e, d, q⟩ => ⟨o, es, ep, hidT_get e (none_at e d), d, q⟩
  have inT : G.K.In (hidT s1.heap H) := fun b o e => hidT_get (inK b o e) (by
    cases q : H b with
    | none => rfl
    | some z => obtain ⟨rfl, z2, _⟩ := only q; rw [z2] at e; cases e)
  obtain ⟨ml, l1, l2⟩ := lim
  have e0 : Env0 P w G.K mg (hidT s1.heap H) callerA [] s1 H :=
    ⟨rfl, ⟨inT, nsT nm, ⟨mb, nsT nb, bb⟩, ⟨ml, nsT l1, l2⟩⟩, fun b o e => of_hidT e, Nat.le_of_eq (hidT_size _ _), trivial, (fun b z => nomatch z), hok, .of_eq ng⟩
  have offE : off G [] H = H := by
    funext b
    unfold off
    rw [hh]
    simp
  have S0 : StOk G [] [] H := ⟨rfl, List.nodup_nil, (fun n a o z => by simp at z), fun b z => by rw [hh] at z; cases z⟩
  have R0 : Reps G [] H [.ref a] [.scr (ns.map .int)] := .cons (.scr (by rw [offE]; exact hS) Reps.ints) .nil
  refine codeAny_mono (F _ inT (nsT nm) callerA [] s1 H ⟨[.ref a], []⟩ [.ref a] [.ref a] [.scr (ns.map .int)] [] [] (fun v _ => v = .bl true) (fun _ _ _ => False) hr rfl e0 (hb s1 (.ref a)) (.cons rfl .nil) rfl S0 R0 ?_) fun r s' h => ?_
  · rw [law]
    intro r' H' L S v Rv
    cases Rv
    rfl
  · cases r with
    | error e =>
      obtain ⟨_, _, _, _, _, _, _, _, _, _, _, _, z⟩ := h
      exact z.elim
    | ok fl =>
      cases fl with
      | next => exact h.elim
      | brk => exact h.elim
      | cont => exact h.elim
      | ret u =>
        obtain ⟨v, H', os, bare, un, hok', rv, q⟩ := h
        have q' : v = .bl true := q
        subst q'
        obtain rfl : u = Value.bool true := rv
        refine ⟨rfl, OldK.of_keep fun b o e => ?_, os, bare⟩
        cases q : H b with
        | none => exact un.keep b o e q (by intro z; cases z) (by simp)
        | some z =>
          obtain ⟨_, _, o2, u2, rfl⟩ := only q
          obtain ⟨e1, _⟩ := hok b _ q
          obtain ⟨e2, _⟩ := hok' b _ (un.frzs b o2 _ q)
          rw [e] at e1
          cases e1
          exact e2
theorem end_call (hh : G.hid = []) (inK : G.K.In s1.heap) (nm : s1.heap.Ns mainGlobals mg) (nb : s1.heap.Ns builtinsNs mb) (bb : ∀ x : Str, x ≠ "__name__" → mb x = bootBuiltins x) (lim : s1.heap.NoLimit) (ng : s1.gens = #[])
    (ha : s1.heap.get? a = some { cls := .type "list", data := .seq vs.toArray }) (hi : PyProof.Rows.IntsAre vs ns) (hl : ns.length ≤ sizeLine) (hr : Room k callerA)
    (F : ∀ base : Heap, G.K.In base → base.Ns mainGlobals mg → FnS G P w mg base k fa fd [x] g) (hb : ∀ (s : Shared) (u : Value), BindsTo s fd ⟨[u], []⟩ [(x, u)]) (M' : List D) (law : g [.scr (ns.map .int)] [] = .ok (.bl true) M') :
    codeAny (model P w) callerA (.call (.ref fa) ⟨[.ref a], []⟩) (EndR s1) s1 := by
  have rv := vals_ints hi
  have ol : ∃ o : Obj, s1.heap.get? a = some o ∧ ∃ its n, o.data = .seq its n := ⟨_, ha, vs.toArray, _, rfl⟩
  cases hk : G.K.lookup a with
  | some o =>
    have e := inK a o hk
    rw [ha] at e
    cases e
    exact end_at (fun _ => none) (.inl rfl) hh inK nm nb bb lim ng ol (fun b u z => by cases z) (.inr ⟨_, vs.toArray, _, hk, rfl, rfl, rfl, by rw [List.size_toArray, hi.length]; exact hl, by simpa using rv⟩) hr F hb M' law
  | none =>
    refine end_at (scrH a { cls := .type "list", data := .seq vs.toArray } (.lst (ns.map V.int))) (.inr ⟨_, _, rfl, hk⟩) hh inK nm nb bb lim ng ol (fun b u z => ?_) (.inl (.inr ⟨_, if_pos rfl⟩)) hr F hb M' law
    obtain ⟨rfl, rfl⟩ := scrH_at z
    exact ⟨ha, by rw [List.length_map]; exact hl, vs, _, rv, ha⟩
end
/-- THE END of a law -/
theorem walkIv {l : PySem.W.OpenLaw} {n k : Nat} {q : Program} {loose : List Str} {XP : (Str → Option Value) → Heap → Prop} {YP : World → Heap → Prop} {d : DefRec} {x : Str}
    (hn : l.most = some n) (hn2 : n ≤ sizeLine) (hdf : d.params.defaults = []) (hr : Room k callerA)
    (F : ∀ (w : World) (mg : Str → Option Value) (fa : Addr) (h : Heap), YP w h → h.Ns mainGlobals mg → mg d.name = some (.ref fa) →
      ∃ (G : Gd) (fd : FuncData) (g : List D → Ev D), G.hid = [] ∧ G.K.In h ∧ (∀ (s : Shared) (u : Value), BindsTo s fd ⟨[u], []⟩ [(x, u)]) ∧
        (∀ ns : List Int, ns.length ≤ n → ∃ M', g [.scr (ns.map .int)] [] = .ok (.bl true) M') ∧ ∀ base : Heap, G.K.In base → base.Ns mainGlobals mg → FnS G l.prog w mg base k fa fd [x] g) :
    PySem.W.WalkO q loose XP YP l.row.toRowW d [] (fun f vs => PySem.call f vs) := by
  refine Att.attach_call hn hdf fun w s₀ s1 mg mb fa o pm cd doc a vs ns T Y _ _ _ hmg hobj hints hlen hg => ?_
  obtain ⟨G, fd, g, hh, inK, hb, law, hF⟩ := F w mg fa _ Y T.T.g hmg
  obtain ⟨M', law⟩ := law ns hlen
  exact end_call hh inK T.T.g T.T.b T.T.builtins T.T.nolimit hg hobj hints (Nat.le_trans hlen hn2) hr hF hb M' law
end Iv
/-! Several names at once; short words for a def's derivation. -/
namespace Iv
open PySem PySem.Spec PyProof.Rows L2

/-! ### a tuple of names -/
inductive Nms (X : Cx) : List Expr → List Nat → Prop
  | nil : Nms X [] []
  | cons {i : Nat} {x : Str} {pos : Pos} {es : List Expr} {is : List Nat} : X.N[i]? = some x → Loc X.env.scope x → (X.fn x = true ∨ X.env.scope.names.lookup x = some .local) → Nms X es is → Nms X (.Name x pos :: es) (i :: is)
def gNs : List Nat → TGs
  | [] => gNil
  | i :: is => gCons (gName i) (gNs is)
section
variable {G : Gd} {X : Cx}
theorem Nms.pgs (hN : X.N.Nodup) {es : List Expr} {is : List Nat} (h : Nms X es is) : PGs X es (gNs is) := by
  induction h with
  | nil => exact pgs_nil
  | cons hi hx hf _ ih => exact pgs_cons (pg_name hN hi hx hf) ih rfl
theorem gNs_ok {r : List Addr} {H : Hp} {Q : L2.St → Hp → Prop} : ∀ {is : List Nat} {ds : List D} {vs : List V} {σ : L2.St} {δ δ' : DEnv}, setAll is ds δ = some δ' → Reps G r H vs ds → EnvOk G r H σ δ → (∀ σ', EnvOk G r H σ' δ' → Q σ' H) → gNs is vs σ H Q
  | [], [], _, _, _, _, e, .nil, E, q => by cases e; exact ⟨rfl, q _ E⟩
  | i :: is, d :: ds, _, _, _, _, e, .cons h hs, E, q => ⟨_, _, rfl, gNs_ok (is := is) (ds := ds) e hs (E.set h) q⟩
  | [], _ :: _, _, _, _, _, e, _, _, _ => by cases e
  | _ :: _, [], _, _, _, _, e, _, _, _ => by cases e
def gTupN (is : List Nat) : DG := fun d δ M => match d with
  | .tup ds => match setAll is ds δ with
    | some δ' => .ok δ' M
    | none => .stk
  | _ => .stk
theorem setAll_len : ∀ {is : List Nat} {ds : List D} {δ δ' : DEnv}, setAll is ds δ = some δ' → ds.length = is.length
  | [], [], _, _, _ => rfl
  | i :: is, d :: ds, δ, δ', e => congrArg Nat.succ (setAll_len (is := is) (ds := ds) e)
  | [], _ :: _, _, _, e => by cases e
  | _ :: _, [], _, _, e => by cases e
theorem SG.tupN (hc : X.calm = true) (hK : G.K = X.K) (hN : X.N.Nodup) {es : List Expr} {is : List Nat} {kt : Nat} {pos : Pos} (h : Nms X es is) (hn : (assignEach es X.env).length = is.length) (hst : (assignEach es X.env).findIdx? (·.1) = none) : SG G X (.Tuple es kt pos) (gTupN is) := by
  refine ⟨?_⟩
  intro W tk d v δ M σ r H Q S Rv E p
  refine (pg_tup hc (h.pgs hN) hn hst).wg ?_
  cases Rv with
  | tup q1 q2 =>
    rename_i a vs ds
    have p' : Post G W σ (fun δ' _ r' H' => ∀ σ', EnvOk G r' H' σ' δ' → Q σ' H') r H (match setAll is ds δ with | some δ' => .ok δ' M | none => .stk) := p
    cases e : setAll is ds δ with
    | none => rw [e] at p'; exact p'.elim
    | some δ' =>
      rw [e] at p'
      exact ⟨a, vs, rfl, hK ▸ sqT_off q1, by rw [q2.length, setAll_len e], gNs_ok e q2 E (p' r H S.le S)⟩
  | _ => exact p.elim
theorem setAll_wipe {r : List Addr} {H : Hp} {Q : L2.St → Hp → Prop} {ws : List Nat} : ∀ {is : List Nat} {ds : List D} {vs : List V} {σ : L2.St} {δ δ' : DEnv}, (∀ i ∈ is, i ∈ ws) → setAll is ds δ = some δ' → Reps G r H vs ds → EnvOk G r H σ δ → (∀ σ', EnvOk G r H σ' δ' → L2.wipe σ' ws = L2.wipe σ ws → Q σ' H) → gNs is vs σ H Q
  | [], [], _, _, _, _, _, e, .nil, E, q => by cases e; exact ⟨rfl, q _ E rfl⟩
  | i :: is, d :: ds, _, _, _, _, hw, e, .cons h hs, E, q => ⟨_, _, rfl, setAll_wipe (is := is) (ds := ds) (fun j hj => hw j (.tail _ hj)) e hs (E.set h) fun σ' e' w => q σ' e' (w.trans (wipe_set (hw i (.head _))))⟩
  | [], _ :: _, _, _, _, _, _, e, _, _, _ => by cases e
  | _ :: _, [], _, _, _, _, _, e, _, _, _ => by cases e
theorem SGv.tupN (hc : X.calm = true) (hK : G.K = X.K) (hN : X.N.Nodup) {es : List Expr} {is ws : List Nat} {kt : Nat} {pos : Pos} (h : Nms X es is) (hw : ∀ i ∈ is, i ∈ ws) (hn : (assignEach es X.env).length = is.length) (hst : (assignEach es X.env).findIdx? (·.1) = none) : SGv G X (.Tuple es kt pos) (gTupN is) ws := by
  refine ⟨?_⟩
  intro W tk d v δ M σ r H Q S Rv E p
  refine (pg_tup hc (h.pgs hN) hn hst).wg ?_
  cases Rv with
  | tup q1 q2 =>
    rename_i a vs ds
    have p' : Post G W σ (fun δ' _ r' H' => ∀ σ', EnvOk G r' H' σ' δ' → L2.wipe σ' ws = L2.wipe σ ws → Q σ' H') r H (match setAll is ds δ with | some δ' => .ok δ' M | none => .stk) := p
    cases e : setAll is ds δ with
    | none => rw [e] at p'; exact p'.elim
    | some δ' =>
      rw [e] at p'
      exact ⟨a, vs, rfl, hK ▸ sqT_off q1, by rw [q2.length, setAll_len e], setAll_wipe hw e q2 E (p' r H S.le S)⟩
  | _ => exact p.elim

/-! ### built-in classes alone -/
def ktB : Kt := ⟨fun _ => false, fun a b => match a, b with
  | .b x, .b y => subB x y
  | _, _ => none⟩
theorem ktB_ok {G : Gd} : KtOk G ktB := ⟨(fun _ h => by cases h), (fun _ h => by cases h), fun a b v h => by
  cases a with
  | b x =>
    cases b with
    | b y => exact kit_ty (subB_kit h)
    | o _ => cases h
  | o _ => cases h⟩

/-! ### arguments without a star -/
def noStar : Expr → Bool
  | .Starred .. => false
  | _ => true
theorem star_cons {e : Expr} {es : List Expr} {env : Env} (h : (e :: es).all noStar = true) : starEach (e :: es) env = (false, eval e env) :: starEach es env := by
  have h' := (Bool.and_eq_true_iff.mp h).1
  cases e <;> first | rfl | cases h'
theorem star_none {env : Env} {pos : Pos} : ∀ {es : List Expr}, es.all noStar = true → (backTo pos (starEach es env)).any (·.1) = false
  | [], _ => rfl
  | e :: es, h => by
    rw [star_cons h]
    show (false || (backTo pos (starEach es env)).any (·.1)) = false
    rw [Bool.false_or]
    exact star_none (Bool.and_eq_true_iff.mp h).2
theorem star_tail {e : Expr} {es : List Expr} (h : (e :: es).all noStar = true) : es.all noStar = true := (Bool.and_eq_true_iff.mp h).2

/-! ### what holds of a context -/
structure Cf (G : Gd) (X : Cx) : Prop where
  hK : G.K = X.K
  calm : X.calm = true
  nd : X.N.Nodup
  gd : X.A.guards = some []
  un : X.A.units + 64 < cLine
theorem Cf.blk (c : Cf G X) {D : Addr} {s : Shared} {H : Hp} {scope : Scope} {C : Addr} {cl : List (Str × Addr)} {fp : List Addr} : Cf (G.hide D) (X.blk s H scope (compEnvC scope cl C X.env) fp) := ⟨c.hK, c.calm, c.nd, c.gd, c.un⟩
theorem FnS.zero {P : Program} {w : World} {mg : Str → Option Value} {base : Heap} {k : Nat} {f : Addr} {fd : FuncData} {ps : List Str} : FnS G P w mg base k f fd ps (fun _ => stuck) := fun _ _ _ _ _ _ _ _ _ _ _ _ _ _ _ _ _ _ _ _ p => p.elim
section
variable (c : Cf G X) {e a b : Expr} {es : List Expr} {pos apos p : Pos} {m ma mb : DE} {ms : DA}
include c
theorem sAdd (ha : SE G X a ma) (hb : SE G X b mb) : SE G X (.BinOp a .Add b pos) (dOp (pureO addO) ma mb) := .bin (OpP.add c.hK).s ha hb
omit c in
theorem sSub (ha : SE G X a ma) (hb : SE G X b mb) : SE G X (.BinOp a .Sub b pos) (dOp (pureO subO) ma mb) := .bin OpP.sub.s ha hb
omit c in
theorem sMul (ha : SE G X a ma) (hb : SE G X b mb) : SE G X (.BinOp a .Mult b pos) (dOp (pureO mulO) ma mb) := .bin OpP.mul.s ha hb
omit c in
theorem sDiv (ha : SE G X a ma) (hb : SE G X b mb) : SE G X (.BinOp a .FloorDiv b pos) (dOp (pureO fdivO) ma mb) := .bin OpP.fdiv.s ha hb
omit c in
theorem sMod (ha : SE G X a ma) (hb : SE G X b mb) : SE G X (.BinOp a .Mod b pos) (dOp (pureO modO) ma mb) := .bin OpP.mod.s ha hb
omit c in
theorem sPow (ha : SE G X a ma) (hb : SE G X b mb) : SE G X (.BinOp a .Pow b pos) (dOp (pureO powO) ma mb) := .bin OpP.pow.s ha hb
omit c in
theorem oLt : OpP G X (compareOp .Lt) ltO := OpP.lt
omit c in
theorem oLe : OpP G X (compareOp .LtE) leO := OpP.le
omit c in
theorem oGt : OpP G X (compareOp .Gt) gtO := OpP.gt
omit c in
theorem oGe : OpP G X (compareOp .GtE) geO := OpP.ge
omit c in
theorem oIs : OpP G X (compareOp .Is) isO := OpP.is_
omit c in
theorem oIsn : OpP G X (compareOp .IsNot) isnO := OpP.isn
theorem oEq : OpP G X (compareOp .Eq) eqO := OpP.eq c.hK c.un
theorem oNe : OpP G X (compareOp .NotEq) neO := OpP.ne c.hK c.un
theorem oIn : OpP G X (compareOp .In) inO := OpP.in_ c.hK c.un
theorem oNin : OpP G X (compareOp .NotIn) ninO := OpP.nin c.hK c.un
omit c in
theorem sCmp {op : CmpOp} {g : List D → D → D → Option D} (ho : OpP G X (compareOp op) g) (ha : SE G X a ma) (hb : SE G X b mb) (hm : behindInMarks op b = false := by rfl) : SE G X (.Compare a [op] [b] pos) (dOp (pureO g) ma mb) := .cmp hm ho.s ha hb
theorem tCmp {op : CmpOp} {g : List D → D → D → Option D} (ho : OpP G X (compareOp op) g) (ha : SE G X a ma) (hb : SE G X b mb) (hm : behindInMarks op b = false := by rfl) : ST G X (.Compare a [op] [b] pos) (dTru truO (dOp (pureO g) ma mb)) := .cmp hm ho.s (.pure c.hK) ha hb
theorem tVal (ha : SE G X e m) (he : ∀ whole, isTrue e X.env whole = (do let v ← whole; standAt e.pos; holding [v] (truthy v)) := by intro _; rfl) : ST G X e (dTru truO m) := .truth (.pure c.hK) ha he
theorem sNot (ha : SE G X a ma) : SE G X (.UnaryOp .Not a pos) (dNot truO ma) := .not (.pure c.hK) ha
theorem sAnd {rest : List Expr} (ha : SE G X a ma) (hb : SE G X (.BoolOp .And (b :: rest) pos) mb) : SE G X (.BoolOp .And (a :: b :: rest) pos) (dAnd truO ma mb) := .and (.pure c.hK) ha hb
theorem sOr {rest : List Expr} (ha : SE G X a ma) (hb : SE G X (.BoolOp .Or (b :: rest) pos) mb) : SE G X (.BoolOp .Or (a :: b :: rest) pos) (dOr truO ma mb) := .or (.pure c.hK) ha hb
theorem sIx (ha : SE G X a ma) (hb : SE G X b mb) (hs : PlainIx b := by intro _ _; rfl) : SE G X (.Subscript a b pos) (dOp (pureO idxM) ma mb) := .sub (.seq c.hK hs) ha hb
omit c in
theorem sBF {x : Str} {id : String} {g : List D → Ev D} (hc : CaS G X (.builtin id) g) (hg : Gl X x) (hm : X.mg x = none) (hv : bootBuiltins x = some (.builtin id)) (ha : SA G X (e :: es) ms)
    (hn : x ≠ "__name__" := by decide) (hdb : (x == ("__debug__" : Str)) = false := by decide) (hst : (e :: es).all noStar = true := by rfl) : SE G X (.Call (.Name x p) (e :: es) [] pos) (dBlt g ms) := .bltF hc hg hm hv ha hn hdb (star_cons hst) (star_none (star_tail hst))
omit c in
theorem sBT {x : Str} {T : String} {g : List D → Ev D} (hc : CaS G X (.type T) g) (hg : Gl X x) (hm : X.mg x = none) (hv : bootBuiltins x = some (.type T)) (ha : SA G X (e :: es) ms)
    (hn : x ≠ "__name__" := by decide) (hdb : (x == ("__debug__" : Str)) = false := by decide) (hst : (e :: es).all noStar = true := by rfl) : SE G X (.Call (.Name x p) (e :: es) [] pos) (dBlt g ms) := .bltT hc hg hm hv ha hn hdb (star_cons hst) (star_none (star_tail hst))
omit c in
theorem sVar {i : Nat} {x : Str} (hN : X.N[i]? = some x) (hv : Vis X.env.scope x) (hd : (x == ("__debug__" : Str)) = false := by decide) (hcd : (x == ("__classdict__" : Str)) = false := by decide) : SE G X (.Name x pos) (dVar i) := .var hN hv hd hcd
omit c in
theorem sInt {i : Int} {j : Nat} : SE G X (.Constant (.int i) j pos) (dLit (.int i)) := .lit pe_int fun _ _ => .int
omit c in
theorem sStr {x : Str} {j : Nat} : SE G X (.Constant (.str x) j pos) (dLit (.str x)) := .lit pe_str fun _ _ => .str
omit c in
theorem sBl {x : Bool} {j : Nat} : SE G X (.Constant (.bool x) j pos) (dLit (.bl x)) := .lit pe_bl fun _ _ => .bl
omit c in
theorem sNon {j : Nat} : SE G X (.Constant .none j pos) (dLit .non) := .lit pe_non fun _ _ => .non
omit c in
theorem sGlo {x : Str} {v : V} {u : Value} {d : D} (hg : Gl X x) (hm : X.mg x = some u) (r : RelV v u) (hr : ∀ r H, Rep G r H v d) (hd : (x == ("__debug__" : Str)) = false := by decide) : SE G X (.Name x pos) (dLit d) := .lit (pe_glob hg hm r hd) hr
omit c in
theorem aCons (ha : SE G X e m) (hb : SA G X es ms) (hst : noStar e = true := by rfl) : SA G X (e :: es) (dCons m ms) := .cons ha hb (by cases e <;> first | rfl | cases hst)
/-- a call of an own def, all parameters written -/
theorem sCall {k : Nat} {f : Addr} {fd : FuncData} {ps : List Str} {g : List D → Ev D} (F : FnS G X.prog X.w X.mg X.base k f fd ps g) (hr : Room k X.A) {x : Str} {dvs : List V} {dv : List Value} {dd : List D} (hg : Gl X x) (hm : X.mg x = some (.ref f)) (hk : PySem.W.keepIn X.K (.ref f) = true)
    (hb : Binds X.K fd ps dv) (hd : Vals dvs dv) (hdd : ∀ r H, Reps G r H dvs dd) (ha : SA G X (e :: es) ms) (hdb : (x == ("__debug__" : Str)) = false := by decide)
    (hst : (e :: es).all noStar = true := by rfl) : SE G X (.Call (.Name x p) (e :: es) [] pos) (dCall ps.length dd g ms) := .call F hr c.gd c.hK hg hm hk hb hd hdd ha hdb (star_cons hst) (star_none (star_tail hst))
theorem sCall0 {k : Nat} {f : Addr} {fd : FuncData} {ps : List Str} {g : List D → Ev D} (F : FnS G X.prog X.w X.mg X.base k f fd ps g) (hr : Room k X.A) {x : Str} {dvs : List V} {dv : List Value} {dd : List D} (hg : Gl X x) (hm : X.mg x = some (.ref f)) (hk : PySem.W.keepIn X.K (.ref f) = true)
    (hb : Binds X.K fd ps dv) (hd : Vals dvs dv) (hdd : ∀ r H, Reps G r H dvs dd) (hdb : (x == ("__debug__" : Str)) = false := by decide) : SE G X (.Call (.Name x p) [] [] pos) (dCall ps.length dd g dNil) := .call0 F hr c.gd c.hK hg hm hk hb hd hdd hdb
omit c in
theorem mAppend {o : Expr} (ho : SE G X o m) (ha : SA G X (e :: es) ms) (hbase : attributeBase o "append" X.env (eval o X.env) = eval o X.env := by rfl)
    (hfew : ((backTo pos (starEach (e :: es) X.env)).all (fun x => !x.1) && (backToKw pos (keywordEach [] X.env)).all (fun x => x.1.isSome) && decide ((e :: es).length + ([] : List Keyword).length + (if ([] : List Keyword).isEmpty then 0 else 1) < 30)) = true := by rfl)
    (hline : (apos.endLine == pos.line) = true := by rfl) (hs : starEach (e :: es) X.env = (false, eval e X.env) :: starEach es X.env := by rfl) (hplain : (backTo pos (starEach es X.env)).any (·.1) = false := by rfl) (hK : G.K = X.K := by rfl) :
    SE G X (.Call (.Attribute o "append" apos) (e :: es) [] pos) (dMth isListD appendO m ms) := .mth PySem.F.plainAttrs_list PySem.F.slot_list_append PySem.F.type_list_append (.list hK) .append ho ha hbase hfew hline hs hplain
omit c in
theorem mSplit {o : Expr} (ho : SE G X o m) (ha : SA G X (e :: es) ms) (hbase : attributeBase o "split" X.env (eval o X.env) = eval o X.env := by rfl)
    (hfew : ((backTo pos (starEach (e :: es) X.env)).all (fun x => !x.1) && (backToKw pos (keywordEach [] X.env)).all (fun x => x.1.isSome) && decide ((e :: es).length + ([] : List Keyword).length + (if ([] : List Keyword).isEmpty then 0 else 1) < 30)) = true := by rfl)
    (hline : (apos.endLine == pos.line) = true := by rfl) (hs : starEach (e :: es) X.env = (false, eval e X.env) :: starEach es X.env := by rfl) (hplain : (backTo pos (starEach es X.env)).any (·.1) = false := by rfl) :
    SE G X (.Call (.Attribute o "split" apos) (e :: es) [] pos) (dMth isStrD splitO m ms) := .mth PySem.F.plainAttrs_str PySem.F.slot_str_split PySem.F.type_str_split .str .split ho ha hbase hfew hline hs hplain
theorem mJoin {o : Expr} (ho : SE G X o m) (ha : SA G X (e :: es) ms) (hbase : attributeBase o "join" X.env (eval o X.env) = eval o X.env := by rfl)
    (hfew : ((backTo pos (starEach (e :: es) X.env)).all (fun x => !x.1) && (backToKw pos (keywordEach [] X.env)).all (fun x => x.1.isSome) && decide ((e :: es).length + ([] : List Keyword).length + (if ([] : List Keyword).isEmpty then 0 else 1) < 30)) = true := by rfl)
    (hline : (apos.endLine == pos.line) = true := by rfl) (hs : starEach (e :: es) X.env = (false, eval e X.env) :: starEach es X.env := by rfl) (hplain : (backTo pos (starEach es X.env)).any (·.1) = false := by rfl) :
    SE G X (.Call (.Attribute o "join" apos) (e :: es) [] pos) (dMth isStrD joinO m ms) := .mth PySem.F.plainAttrs_str PySem.F.slot_str_join PySem.F.type_str_join .str (.join c.hK) ho ha hbase hfew hline hs hplain
end
end
end Iv
/-! A head's Hook with one more Bool; keywords of defs of one parameter. -/
namespace Iv
open PySem PySem.Spec PyProof.Rows L2

abbrev AlB : Type := He.AlD × Bool
def obsB (n : Nat) (fa : List He.Fa) (fn : List He.DefD) (ex : PySem.W.Frag → Bool) (g : Addr → Option Obj) : AlB := (He.obsDG n fa fn g, ex (He.frG g (He.asD g n)))
structure SaysB (fa : List He.Fa) (fn : List He.DefD) (ex : PySem.W.Frag → Bool) (K : PySem.W.Frag) : Prop where
  d : He.SaysD fa fn K
  more : ex K = true
def hookB (n : Nat) (fa : List He.Fa) (fn : List He.DefD) (ex : PySem.W.Frag → Bool) : PySem.W.Hook where
  α := AlB
  obs := fun s => obsB n fa fn ex s.heap.get?
  val := fun _ => (He.valD fn, true)
  says := fun _ h => ∃ K : PySem.W.Frag, K.In h ∧ SaysB fa fn ex K
  of := fun _ _ e => ⟨_, He.frG_in, congrArg (fun z : AlB => z.1) e, congrArg (fun z : AlB => z.2) e⟩
  keeps := fun _ _ _ ⟨K, hK, c⟩ k => ⟨K, PySem.W.Frag.In.keeps hK k, c⟩
theorem obsB_eq {n : Nat} {fa : List He.Fa} {fn : List He.DefD} {ex : PySem.W.Frag → Bool} {g : Addr → Option Obj} {s : Shared} (h : ∀ a, g a = s.heap.get? a) : obsB n fa fn ex g = (hookB n fa fn ex).obs s := by
  obtain rfl : g = s.heap.get? := funext h
  rfl
section
variable {K : PySem.W.Frag} {x qual : Str} {params : Arguments} {body : List Stmt} {scope : Scope} {kws : List (Str × V)} {f : Addr} {fd : FuncData}
/-- f(v) and f(p = v) of a def of one parameter p -/
theorem kb1 {p : Str} (F : FunD K x qual params body scope [] kws f fd)
    (h1 : ∀ (kV doc pm : Value) (an : Option Addr) (cdv ct v : Value), bindArgs (PySem.W.fnOf x qual params body scope .none kV doc pm an cdv ct) ⟨[v], []⟩ = pure [(p, v)])
    (h2 : ∀ (kV doc pm : Value) (an : Option Addr) (cdv ct v : Value), bindArgs (PySem.W.fnOf x qual params body scope .none kV doc pm an cdv ct) ⟨[], [(p, v)]⟩ = pure [(p, v)]) : KBinds K fd [p] [p] (fun us ws => us ++ ws) (fun vs zs => vs ++ zs) := by
  obtain ⟨oc, od, dV, kV, doc, pm, an, cdv, ct, osl, rfl, lk, hcd, hD, hK⟩ := F.ex
  rcases hD with ⟨_, rfl⟩ | ⟨e, _⟩
  · refine ⟨fun s us ws _ hl => ?_, fun r1 r2 => r1.append r2⟩
    match us, ws, hl with
    | [v], [], _ => exact .of_eq (h1 kV doc pm an cdv ct v)
    | [], [v], _ => exact .of_eq (h2 kV doc pm an cdv ct v)
    | [], [], hl => cases hl
    | _ :: _ :: _, _, hl => simp at hl
    | [_], _ :: _, hl => simp at hl
    | [], _ :: _ :: _, hl => simp at hl
  · exact absurd rfl e
end
end Iv
/-! What a run of the evaluator comes to: a calculus for the plain laws. -/
namespace Iv
def wp {α : Type} (x : R α) (Q : α → List D → Prop) (E : D → List D → Prop) : Prop := match x with
  | .ok a M => Q a M
  | .exc e M => E e M
  | .stk => False
section
variable {α β : Type} {Q : α → List D → Prop} {E : D → List D → Prop} {M M' : List D}
theorem wp_ok {a : α} : wp (.ok a M) Q E = Q a M := rfl
theorem wp_exc {e : D} : wp (.exc e M) Q E = E e M := rfl
theorem wp_ret {a : α} : wp (ret a M) Q E = Q a M := rfl
theorem wp_bnd {x : Ev β} {f : β → Ev α} : wp (bnd x f M) Q E = wp (x M) (fun a M' => wp (f a M') Q E) E := by
  unfold bnd
  cases x M <;> rfl
theorem wp_lft {x : Ev β} {δ : DEnv} {f : β → Ev Fl} {Q : Fl → List D → Prop} : wp (lft x δ f M) Q E = wp (x M) (fun a M' => wp (f a M') Q E) (fun e M' => Q (.ex δ e) M') := by
  unfold lft
  cases x M <;> rfl
theorem wp_of {x : R α} {a : α} (h : x = .ok a M) (q : Q a M) : wp x Q E := by rw [h]; exact q
theorem wp.mono {Q' : α → List D → Prop} {E' : D → List D → Prop} {x : R α} (h : wp x Q E) (hq : ∀ a M, Q a M → Q' a M) (he : ∀ e M, E e M → E' e M) : wp x Q' E' := by
  cases x with
  | ok a M => exact hq a M h
  | exc e M => exact he e M h
  | stk => exact h
theorem wp.imp {Q' : α → List D → Prop} {x : R α} (h : wp x Q E) (hq : ∀ a M, Q a M → Q' a M) : wp x Q' E := h.mono hq fun _ _ h => h
/-- nothing is raised -/
abbrev wp0 {α : Type} (x : R α) (Q : α → List D → Prop) : Prop := wp x Q fun _ _ => False
theorem wp0.to {Q' : α → List D → Prop} {E' : D → List D → Prop} {x : R α} (h : wp0 x Q) (hq : ∀ a M, Q a M → Q' a M) : wp x Q' E' := h.mono hq fun _ _ h => h.elim
theorem wp0.get {x : R α} (h : wp0 x Q) : ∃ a M, x = .ok a M ∧ Q a M := by
  cases x with
  | ok a M => exact ⟨a, M, rfl, h⟩
  | exc e M => exact h.elim
  | stk => exact h.elim
/-- a def's end, no own cells -/
theorem wp_fin {x : R Fl} {n : Nat} {Q : D → List D → Prop} (h : wp0 x fun f M => M.length = n ∧ match f with
    | .rt d => Q d M
    | .nx _ => Q .non M
    | .ex _ (.ins c ns vs) => E (.ins c ns vs) M
    | _ => False) : wp (fin false n x) Q E := by
  cases x with
  | ok f M =>
    obtain ⟨hn, h⟩ := h
    cases f with
    | rt d => simp only [fin, closes, hn, if_true]; exact h
    | nx d => simp only [fin, closes, hn, if_true]; exact h
    | ex δ e =>
      cases e with
      | ins c ns vs => simp only [fin, closes, hn, if_true]; exact h
      | _ => exact h.elim
    | _ => exact h.elim
  | exc _ _ => exact h.elim
  | stk => exact h.elim
theorem wp_run {m : DS} {n : Nat} {ds : List D} {Q : D → List D → Prop} (h : wp0 (m (entry n ds) M) fun f M' => M'.length = M.length ∧ match f with
    | .rt d => Q d M'
    | .nx _ => Q .non M'
    | .ex _ (.ins c ns vs) => E (.ins c ns vs) M'
    | _ => False) : wp (runF false n m ds M) Q E := wp_fin h
end
/-- a for loop, by what holds ahead of each turn -/
theorem wp_turns {z : Src} {g : DG} {body : DS} {Q : Fl → List D → Prop} {E : D → List D → Prop} (I : Nat → DEnv → List D → Prop)
    (step : ∀ i δ M, I i δ M → i < z.len → ∃ d, z.get M i = some d ∧ wp (g d δ M) (fun δ1 M1 => wp (body δ1 M1) (fun f M2 => match f with
      | .nx δ2 => I (i + 1) δ2 M2
      | .ct δ2 => I (i + 1) δ2 M2
      | .bk δ2 => Q (.nx δ2) M2
      | x => Q x M2) E) (fun e M' => Q (.ex δ e) M'))
    (fini : ∀ δ M, I z.len δ M → z.fin M = true ∧ Q (.nx δ) M) : ∀ (n i : Nat) (δ : DEnv) (M : List D), i + n = z.len → I i δ M → wp (turns z g body n i δ M) Q E
  | 0, i, δ, M, hi, h => by
    obtain rfl : i = z.len := by omega
    obtain ⟨h1, h2⟩ := fini δ M h
    show wp (if z.fin M then .ok (.nx δ) M else .stk) Q E
    rw [if_pos h1]
    exact h2
  | n + 1, i, δ, M, hi, h => by
    obtain ⟨d, e, h1⟩ := step i δ M h (by omega)
    unfold turns
    simp only [e]
    rw [wp_lft]
    refine h1.mono (fun δ1 M1 h2 => ?_) fun _ _ h => h
    rw [wp_bnd]
    refine h2.mono (fun f M2 h3 => ?_) fun _ _ h => h
    cases f with
    | nx δ2 => exact wp_turns I step fini n (i + 1) δ2 M2 (by omega) h3
    | ct δ2 => exact wp_turns I step fini n (i + 1) δ2 M2 (by omega) h3
    | bk δ2 => exact h3
    | rt d => exact h3
    | ex δ2 e => exact h3
theorem wp_for {it : DI} {g : DG} {body : DS} {Q : Fl → List D → Prop} {E : D → List D → Prop} {δ : DEnv} {M : List D} (h : wp0 (it δ M) fun z M1 => ∃ I : Nat → DEnv → List D → Prop, I 0 δ M1 ∧
    (∀ i δ M, I i δ M → i < z.len → ∃ d, z.get M i = some d ∧ wp (g d δ M) (fun δ1 M1 => wp (body δ1 M1) (fun f M2 => match f with
      | .nx δ2 => I (i + 1) δ2 M2
      | .ct δ2 => I (i + 1) δ2 M2
      | .bk δ2 => Q (.nx δ2) M2
      | x => Q x M2) E) (fun e M' => Q (.ex δ e) M')) ∧ (∀ δ M, I z.len δ M → z.fin M = true ∧ Q (.nx δ) M)) : wp (dFor it g body δ M) Q E := by
  unfold dFor
  rw [wp_lft]
  refine h.mono (fun z M1 ⟨I, i0, st, fi⟩ => wp_turns I st fi z.len 0 δ M1 (Nat.zero_add _) i0) fun _ _ h => h.elim
/-- a comprehension, by what holds ahead of each turn of what is made so far -/
theorem wp_lcs {z : Src} {g : DG} {tt : DT} {te : DE} {δ : DEnv} {Q : List D → List D → Prop} (I : Nat → List D → List D → Prop)
    (step : ∀ i acc M, I i acc M → i < z.len → ∃ d, z.get M i = some d ∧ wp0 (g d δ M) (fun δ1 M1 => wp0 (tt δ1 M1) (fun b M2 => if b = true then wp0 (te δ1 M2) (fun y M3 => I (i + 1) (acc ++ [y]) M3) else I (i + 1) acc M2)))
    (fini : ∀ acc M, I z.len acc M → z.fin M = true ∧ Q acc M) : ∀ (n i : Nat) (acc M : List D), i + n = z.len → I i acc M → wp0 (lcs z g tt te δ n i M) (fun ys M' => Q (acc ++ ys) M')
  | 0, i, acc, M, hi, h => by
    obtain rfl : i = z.len := by omega
    obtain ⟨h1, h2⟩ := fini acc M h
    show wp (if z.fin M then .ok [] M else .stk) _ _
    rw [if_pos h1]
    show Q (acc ++ []) M
    rw [List.append_nil]
    exact h2
  | n + 1, i, acc, M, hi, h => by
    obtain ⟨d, e, h1⟩ := step i acc M h (by omega)
    unfold lcs
    simp only [e]
    rw [wp0, wp_bnd]
    refine h1.imp fun δ1 M1 h2 => ?_
    rw [wp_bnd]
    refine h2.imp fun b M2 h3 => ?_
    cases b with
    | true =>
      simp only [if_true] at h3 ⊢
      rw [wp_bnd]
      refine h3.imp fun y M3 h4 => ?_
      rw [wp_bnd]
      refine (wp_lcs I step fini n (i + 1) (acc ++ [y]) M3 (by omega) h4).imp fun ys M4 h5 => ?_
      show Q (acc ++ y :: ys) M4
      simpa using h5
    | false =>
      simp only [Bool.false_eq_true, if_false] at h3 ⊢
      exact wp_lcs I step fini n (i + 1) acc M2 (by omega) h3
theorem wp_lc {it : DI} {g : DG} {tt : DT} {te : DE} {vs : List Nat} {δ : DEnv} {M : List D} {Q : D → List D → Prop} {E : D → List D → Prop} (h : wp0 (it δ M) fun z M1 => z.len ≤ PySem.sizeLine ∧ ∃ I : Nat → List D → List D → Prop, I 0 [] M1 ∧
    (∀ i acc M, I i acc M → i < z.len → ∃ d, z.get M i = some d ∧ wp0 (g d (wipeD δ vs) M) (fun δ1 M1 => wp0 (tt δ1 M1) (fun b M2 => if b = true then wp0 (te δ1 M2) (fun y M3 => I (i + 1) (acc ++ [y]) M3) else I (i + 1) acc M2))) ∧
    (∀ acc M, I z.len acc M → z.fin M = true ∧ Q (.lst acc) M)) : wp (dLc it g tt te vs δ M) Q E := by
  unfold dLc
  rw [wp_bnd]
  refine h.mono (fun z M1 ⟨hz, I, i0, st, fi⟩ => ?_) fun _ _ h => h.elim
  rw [if_pos hz]
  obtain ⟨ys, M2, e, q⟩ := (wp_lcs (Q := fun ys M => Q (.lst ys) M) I st fi z.len 0 [] M1 (Nat.zero_add _) i0).get
  unfold noX bnd
  simp only [e]
  exact q
/-! ### the rules that simp takes -/
section
variable {Q : D → List D → Prop} {E : D → List D → Prop} {δ : DEnv} {M : List D}
theorem wp_opt {α : Type} {o : Option α} {a : α} {Q : α → List D → Prop} (h : o = some a) (q : Q a M) : wp (optE o M) Q E := by rw [h]; exact q
theorem wp_dOp {g : D → D → Ev D} {a b : DE} : wp (dOp g a b δ M) Q E = wp (a δ M) (fun x M1 => wp (b δ M1) (fun y M2 => wp (g x y M2) Q E) E) E := by unfold dOp; rw [wp_bnd]; simp only [wp_bnd]
theorem wp_dTru {g : D → Ev Bool} {a : DE} {Q : Bool → List D → Prop} : wp (dTru g a δ M) Q E = wp (a δ M) (fun x M1 => wp (g x M1) Q E) E := by unfold dTru; rw [wp_bnd]
theorem wp_dCons {a : DE} {b : DA} {Q : List D → List D → Prop} : wp (dCons a b δ M) Q E = wp (a δ M) (fun x M1 => wp (b δ M1) (fun xs M2 => Q (x :: xs) M2) E) E := by unfold dCons; rw [wp_bnd]; simp only [wp_bnd, wp_ret]
theorem wp_dNil {Q : List D → List D → Prop} : wp (dNil δ M) Q E = Q [] M := rfl
theorem wp_dCall {n : Nat} {dv : List D} {f : List D → Ev D} {a : DA} : wp (dCall n dv f a δ M) Q E = wp (a δ M) (fun xs M1 => wp ((if xs.length + dv.length = n then f (xs ++ dv) else stuck) M1) Q E) E := by unfold dCall; rw [wp_bnd]
theorem wp_dSeq {a b : DS} {Q : Fl → List D → Prop} : wp (dSeq a b δ M) Q E = wp (a δ M) (fun f M1 => match f with | .nx δ' => wp (b δ' M1) Q E | x => Q x M1) E := by
  unfold dSeq
  rw [wp_bnd]
  congr 1
  funext f M1
  cases f <;> rfl
theorem wp_dAsg {a : DE} {g : DG} {Q : Fl → List D → Prop} : wp (dAsg a g δ M) Q E = wp (a δ M) (fun d M1 => wp (g d δ M1) (fun δ' M2 => Q (.nx δ') M2) (fun e M' => Q (.ex δ e) M')) (fun e M' => Q (.ex δ e) M') := by
  unfold dAsg
  rw [wp_lft]
  simp only [wp_lft, wp_ret]
theorem wp_dIf {c : DT} {a b : DS} {Q : Fl → List D → Prop} : wp (dIf c a b δ M) Q E = wp (c δ M) (fun k M1 => if k = true then wp (a δ M1) Q E else wp (b δ M1) Q E) (fun e M' => Q (.ex δ e) M') := by
  unfold dIf
  rw [wp_lft]
  congr 1
  funext k M1
  cases k <;> rfl
theorem wp_dRet {a : DE} {Q : Fl → List D → Prop} : wp (dRet a δ M) Q E = wp (a δ M) (fun d M1 => Q (.rt d) M1) (fun e M' => Q (.ex δ e) M') := by
  unfold dRet
  rw [wp_lft]
  simp only [wp_ret]
theorem wp_dDrop {a : DE} {Q : Fl → List D → Prop} : wp (dDrop a δ M) Q E = wp (a δ M) (fun d M1 => Q (.nx δ) M1) (fun e M' => Q (.ex δ e) M') := by
  unfold dDrop
  rw [wp_lft]
  simp only [wp_ret]
theorem wp_dNext {Q : Fl → List D → Prop} : wp (dNext δ M) Q E = Q (.nx δ) M := rfl
theorem wp_dAndT {a b : DT} {Q : Bool → List D → Prop} : wp (dAndT a b δ M) Q E = wp (a δ M) (fun c M1 => if c = true then wp (b δ M1) Q E else Q false M1) E := by
  unfold dAndT
  rw [wp_bnd]
  congr 1
  funext k M1
  cases k <;> rfl
theorem wp_dOrT {a b : DT} {Q : Bool → List D → Prop} : wp (dOrT a b δ M) Q E = wp (a δ M) (fun c M1 => if c = true then Q true M1 else wp (b δ M1) Q E) E := by
  unfold dOrT
  rw [wp_bnd]
  congr 1
  funext k M1
  cases k <;> rfl
theorem wp_dNotT {a : DT} {Q : Bool → List D → Prop} : wp (dNotT a δ M) Q E = wp (a δ M) (fun c M1 => Q (!c) M1) E := by unfold dNotT; rw [wp_bnd]; simp only [wp_ret]
theorem wp_dNot {g : D → Ev Bool} {a : DE} : wp (dNot g a δ M) Q E = wp (a δ M) (fun x M1 => wp (g x M1) (fun c M2 => Q (.bl (!c)) M2) E) E := by unfold dNot; rw [wp_bnd]; simp only [wp_bnd, wp_ret]
theorem wp_dAnd {g : D → Ev Bool} {a b : DE} : wp (dAnd g a b δ M) Q E = wp (a δ M) (fun x M1 => wp (g x M1) (fun c M2 => if c = true then wp (b δ M2) Q E else Q x M2) E) E := by
  unfold dAnd
  rw [wp_bnd]
  congr 1
  funext x M1
  rw [wp_bnd]
  congr 1
  funext c M2
  cases c <;> rfl
theorem wp_dOr {g : D → Ev Bool} {a b : DE} : wp (dOr g a b δ M) Q E = wp (a δ M) (fun x M1 => wp (g x M1) (fun c M2 => if c = true then Q x M2 else wp (b δ M2) Q E) E) E := by
  unfold dOr
  rw [wp_bnd]
  congr 1
  funext x M1
  rw [wp_bnd]
  congr 1
  funext c M2
  cases c <;> rfl
theorem wp_dIte {c : DT} {a b : DE} : wp (dIte c a b δ M) Q E = wp (c δ M) (fun k M1 => if k = true then wp (a δ M1) Q E else wp (b δ M1) Q E) E := by
  unfold dIte
  rw [wp_bnd]
  congr 1
  funext k M1
  cases k <;> rfl
theorem wp_dTup {a : DA} : wp (dTup a δ M) Q E = wp (a δ M) (fun xs M1 => xs.length ≤ PySem.sizeLine ∧ Q (.tup xs) M1) E := by
  unfold dTup
  rw [wp_bnd]
  congr 1
  funext xs M1
  by_cases c : xs.length ≤ PySem.sizeLine
  · rw [if_pos c]; simp [wp_ret, c]
  · rw [if_neg c]; simp [stuck, wp, c]
theorem wp_dLst {a : DA} : wp (dLst a δ M) Q E = wp (a δ M) (fun xs M1 => xs.length ≤ PySem.sizeLine ∧ Q (.lst xs) M1) E := by
  unfold dLst
  rw [wp_bnd]
  congr 1
  funext xs M1
  by_cases c : xs.length ≤ PySem.sizeLine
  · rw [if_pos c]; simp [wp_ret, c]
  · rw [if_neg c]; simp [stuck, wp, c]
theorem wp_dMth {ty : List D → D → Bool} {g : D → List D → Ev D} {a : DE} {as : DA} : wp (dMth ty g a as δ M) Q E = wp (a δ M) (fun x M1 => ty M1 x = true ∧ wp (as δ M1) (fun ds M2 => wp (g x ds M2) Q E) E) E := by
  unfold dMth
  rw [wp_bnd]
  congr 1
  funext x M1
  by_cases c : ty M1 x = true
  · simp only [c, if_true, wp_bnd, true_and]
  · simp only [c, Bool.false_eq_true, if_false, false_and]; rfl
theorem wp_dPar {is : List Nat} {a : DA} {Q : Fl → List D → Prop} : wp (dPar is a δ M) Q E = wp (a δ M) (fun ds M1 => wp ((match setAll is ds δ with | some δ' => ret (.nx δ') | none => stuck : Ev Fl) M1) Q E) (fun e M' => Q (.ex δ e) M') := by
  unfold dPar
  rw [wp_lft]
  first | done | congr 1
theorem wp_dNoP {Q : Option Int → List D → Prop} : wp (dNoP δ M) Q E = Q none M := rfl
theorem wp_dPart {a : DE} {Q : Option Int → List D → Prop} : wp (dPart a δ M) Q E = wp (a δ M) (fun x M1 => wp ((match x with | .int i => ret (some i) | _ => stuck : Ev (Option Int)) M1) Q E) E := by
  unfold dPart
  rw [wp_bnd]
  first | done | congr 1
theorem wp_dSli {a : DE} {lo hi : DO} : wp (dSli a lo hi δ M) Q E = wp (a δ M) (fun x M1 => wp (lo δ M1) (fun l M2 => wp (hi δ M2) (fun h M3 => wp (optE (sliM M3 x l h) M3) Q E) E) E) E := by
  unfold dSli
  simp only [wp_bnd]
theorem wp_dCel {a : DA} : wp (dCel a δ M) Q E = wp (a δ M) (fun xs M1 => xs.length ≤ PySem.sizeLine ∧ Q (.cell M1.length) (M1 ++ [.lst xs])) E := by
  unfold dCel
  rw [wp_bnd]
  congr 1
  funext xs M1
  by_cases c : xs.length ≤ PySem.sizeLine
  · simp [wp, c]
  · simp [wp, c]
theorem wp_dNeg {a : DE} : wp (dNeg a δ M) Q E = wp (a δ M) (fun x M1 => wp ((match x with | .int i => ret (.int (-i)) | _ => stuck : Ev D) M1) Q E) E := by
  unfold dNeg
  rw [wp_bnd]
  first | done | congr 1
theorem wp_dBlt {g : List D → Ev D} {a : DA} : wp (dBlt g a δ M) Q E = wp (a δ M) (fun xs M1 => wp (g xs M1) Q E) E := by unfold dBlt; rw [wp_bnd]
end
end Iv
/-! super() in a method of the text: exceptions' __init__. -/
namespace Iv
open PySem PySem.Spec PyProof.Rows L2 NdefX

/-- what the written part has of a method that says super(): D its class -/
structure SupK (P : Program) (K : PySem.W.Frag) (F : NF) (D : Addr) : Prop where
  cell : ∃ cc cl cld csl, F.cl = [(("__class__" : Str), cc)] ∧ K.lookup cc = some ⟨cl, cld, .cell (some (.ref D)), csl⟩
  code : ∃ ccl cdd vs ccs file tf, K.lookup F.c = some ⟨ccl, cdd, .fields vs, ccs⟩ ∧ vs[2]? = some (.str file tf) ∧ ((P.main.file : Str) == file) = true
  cls : ∃ cdD, PySem.W.clsIn K D = some cdD
  sup : PySem.W.nsIn K mainGlobals "super" = some none
  any : PySem.W.nsIn K cStatics "thirdparty.any" = some none
  top : (P.main.scope.names.lookup ("super" : Str)).isSome = false
  nS : F.scope.names.lookup ("super" : Str) = some .globalImplicit
  nC : F.scope.names.lookup ("__class__" : Str) = some .free
  kd : F.scope.kind = .function
section
variable {X : Cx} {pins : List (Addr × Obj)} {σ : L2.St} {H : Hp} {s : Shared}
/-- super() at the head of a call: a new object of super(D, x) -/
theorem super_base {body : List Stmt} {F : NF} {f L D C x : Addr} {oc : Value} {od : Option Addr} {osl : Array (Option Value)} {fd : FuncData} {ar : Arg} {ox : Obj} {odx : Option Obj} {p0 p1 : Pos} {attr : Str} {whole : Sem Value} {Q : Value → Shared → Prop} {E : Value → Shared → Prop}
    (I : Inv X pins σ H s) (hE : X.env = envF F f L) (SK : SupK X.prog X.K F D) (hf : X.K.lookup f = some ⟨oc, od, .func fd, osl⟩) (hp : (fd.params.posonlyargs ++ fd.params.args).head? = some ar)
    (hN : X.N[0]? = some ar.arg) (hl : F.scope.names.lookup ar.arg = some .local) (h0 : σ[0]? = some (some (.ref x))) (IA : PySem.W.InstAt s.heap x ox C odx) (hsub : PySem.W.mroIn X.K C (.ref D) = some true) (hat : (attr == ("__class__" : Str)) = false)
    (q : ∀ so h', (∀ b o, s.heap.get? b = some o → h'.get? b = some o) → h'.get? so = some (PySem.W.ks_superObj D x C) → Q (.ref so) { s with heap := h' }) :
    PySem.wpAt (model X.prog X.w) X.A (.func body X.env) (attributeBase (.Call (.Name "super" p0) [] [] p1) attr X.env whole) Q E s := by
  obtain ⟨cc, cl, cld, csl, ecl, hcell⟩ := SK.cell
  obtain ⟨ccl, cdd, vs, ccs, file, tf, hcode, hvs, hfile⟩ := SK.code
  obtain ⟨cdD, hD⟩ := SK.cls
  have XI : X.K.In s.heap := I.kIn
  obtain ⟨m, hm, hlk⟩ := I.loc
  have kind : ∀ y, X.env.kindOf y = F.scope.names.lookup y := fun y => by rw [hE]; rfl
  have vis : Vis X.env.scope ar.arg := by
    rw [hE]
    exact .inl hl
  obtain ⟨u, ru, lk⟩ := hlk 0 ar.arg (.ref x) hN h0 vis
  cases ru
  have hmx : m ar.arg = some (.ref x) := by
    rcases lk with ⟨_, z⟩ | ⟨z, _⟩
    · exact z
    · rw [kind, hl] at z
      rcases z with z | z <;> cases z
  obtain ⟨mb, hb1, hb2⟩ := I.ok.mod.blt
  have hmg : X.mg "super" = none := PySem.W.mg_none_of I.ok.mod.kin I.ok.mod.glob SK.sup
  obtain ⟨oD, hD1, hD2⟩ : ∃ oD, s.heap.get? D = some oD ∧ oD.data = .cls cdD := by
    unfold PySem.W.clsIn at hD
    split at hD
    · rename_i c d cd' sl ho
      cases hD
      exact ⟨_, XI _ _ ho, rfl⟩
    · cases hD
  rw [hE]
  have hloc : (envF F f L).locals = X.env.locals := by rw [hE]
  refine ks_wpAt_super_base (env := envF F f L) (f := f) (cc := F.c) SK.nS SK.nC hat rfl (XI _ _ hf) rfl hp rfl (XI _ _ hcode) rfl hvs hfile SK.top ?_
  refine PySem.W.ks_loadName_global SK.kd SK.nS (PySem.Calls.loadGlobal_builtin (env := envF F f L) (I.ok.mod.glob.keeps I.bk) hmg (hb1.keeps I.bk) ((hb2 _ (by decide +kernel)).trans (by decide +kernel)) ⟨rfl, ?_⟩)
  refine wpAny_loadName_free (v := .ref D) SK.kd SK.nC (c := cc) (by rw [show (envF F f L).cells = F.cl from rfl, ecl]; rfl) ⟨_, XI _ _ hcell, rfl⟩ ?_
  refine wpAny_loadName_local SK.kd hl (by rw [hloc]; exact hm) hmx ?_
  refine ks_wpAny_isType_cls hD1 hD2 ⟨rfl, ?_⟩
  refine ks_wpAny_call_super hD1 hD2 IA.at_ IA.cls (fun c e => ?_) (PySem.W.looks_mroIn XI hsub) (fun h' e k => ?_)
  · have := IA.no
    unfold PySem.W.notCls at this
    rw [e] at this
    exact Bool.noConfusion this
  · exact q _ h' k e
/-- super().__init__('..') in an exception's __init__ -/
theorem sup_exc {body : List Stmt} {F : NF} {f L D C x : Addr} {oc : Value} {od : Option Addr} {osl : Array (Option Value)} {fd : FuncData} {ar : Arg} {p0 p1 p2 p3 p4 p5 : Pos} {z : Str} {j : Nat} {Q : Flow → Shared → Prop} {E : Value → Shared → Prop}
    (I : Inv X pins σ H s) (hE : X.env = envF F f L) (SK : SupK X.prog X.K F D) (hf : X.K.lookup f = some ⟨oc, od, .func fd, osl⟩) (hp : (fd.params.posonlyargs ++ fd.params.args).head? = some ar)
    (hN : X.N[0]? = some ar.arg) (hl : F.scope.names.lookup ar.arg = some .local) (h0 : σ[0]? = some (some (.ref x))) (hsub : PySem.W.mroIn X.K C (.ref D) = some true)
    (T : OexC X.K C) (hm : PySem.W.ks_superIn X.K C D "__init__" = some (some (.builtin "ValueError.__init__"))) (hB : PySem.W.subIn X.K (.ref C) (.type "ValueError") = some true) (e : H x = some (exo x C none))
    (q : ∀ s', Inv X pins σ H s' → Q .next s') (pl : Sem Bool)
    (he : eval (.Call (.Attribute (.Call (.Name "super" p0) [] [] p1) "__init__" p2) [.Constant (.str z) j p3] [] p4) X.env = (do
      let ov ← attributeBase (.Call (.Name "super" p0) [] [] p1) "__init__" X.env (eval (.Call (.Name "super" p0) [] [] p1) X.env)
      standAt p2.atName
      let (f, first) ← holding [ov] (getMethod ov "__init__" pl)
      callWith p4 f first (backTo p4 (starEach [.Constant (.str z) j p3] X.env)) []))
    (hi : interactive X.env = false) (hs : swapsWith (.Call (.Attribute (.Call (.Name "super" p0) [] [] p1) "__init__" p2) [.Constant (.str z) j p3] [] p4) none p5.line X.env = pure false) :
    PySem.wpAt (model X.prog X.w) X.A (.func body X.env) (exec (.Expr (.Call (.Attribute (.Call (.Name "super" p0) [] [] p1) "__init__" p2) [.Constant (.str z) j p3] [] p4) p5) X.env) Q E s := by
  obtain ⟨t1, ho⟩ := exo_at I.hok e
  have IA : PySem.W.InstAt s.heap x _ C none := ⟨ho, rfl, rfl, trivial⟩
  refine ks_wpAt_Expr_any (ks_wpAt_MethodCall (super_base I hE SK hf hp hN hl h0 IA hsub (by decide) fun so h1 k1 hso => ?_) he) hi hs
  have I1 : Inv X pins σ H { s with heap := h1 } := I.kept (t' := s.toks) k1
  have XI : X.K.In h1 := I1.kIn
  have IA1 : PySem.W.InstAt h1 x _ C none := ⟨k1 _ _ ho, rfl, rfl, trivial⟩
  obtain ⟨hh, g, d, t, os⟩ := s
  have hI : PySem.W.Looks (model X.prog X.w) h1 (isInstance (.ref x) (.type "ValueError")) true := IA1.type.andThen (PySem.W.looks_subIn XI hB)
  cases hc : PySem.W.clsIn X.K C with
  | none => unfold PySem.W.ks_superIn at hm; rw [hc] at hm; cases hm
  | some cd =>
    unfold PySem.W.ks_superIn at hm
    rw [hc] at hm
    refine PySem.W.kxs_getMethod PySem.W.kxs_ValueError hso (PySem.W.looks_opaque XI SK.any) (l₀ := cd.mro) (fun A Q E s k q => wpAny_bind ((PySem.W.looks_clsIn XI hc) A _ E s k (wpAny_pure q))) rfl XI hm hI (PySem.W.ks_ne XI IA1 hc) (by decide) ?_
    have k2 : ∀ b o, h1.get? b = some o → (h1.push (PySem.W.kxs_mw "ValueError.__init__" x)).get? b = some o := fun b o e => Heap.get?_push_of_some _ e
    have I2 : Inv X pins σ H ⟨h1.push (PySem.W.kxs_mw "ValueError.__init__" x), g, d, t + 1, os⟩ := I1.kept (t' := t + 1) k2
    have hu : (h1.push (PySem.W.kxs_mw "ValueError.__init__" x)).get? h1.objs.size = some (PySem.W.kxs_mw "ValueError.__init__" x) := Heap.get?_push_at rfl rfl
    generalize h1.push (PySem.W.kxs_mw "ValueError.__init__" x) = h2 at *
    generalize h1.objs.size = u at *
    have hst : starEach [.Constant (.str z) j p3] X.env = (false, eval (.Constant (.str z) j p3) X.env) :: starEach [] X.env := rfl
    have I3 : Inv X pins σ H ⟨h2, g, d, t + 2, os⟩ := I2.tok (t + 2)
    have ho2 : h2.get? x = some { cls := .ref C, dict := none, data := .fields #[.ref t1, .none, .none, .none, .bool false, .none] } := k2 _ _ (k1 _ _ ho)
    show wpAny _ _ (callWith p4 (.ref u) [] (backTo p4 (starEach [.Constant (.str z) j p3] X.env)) []) _ _ _
    rw [hst]
    refine PySem.W.kxs_callWith (i := "ValueError.__init__") (x := x) rfl (PySem.Calls.evalArgs_plain ?_)
    refine PySem.Calls.spliced_cons (wpAny_Constant_str (k := j) (pos := p3) (PySem.Calls.spliced_nil ⟨hu, ?_⟩))
    obtain ⟨nm, qn, N, bs, bm, sn, sub, ab, col, dd, k0, k1', k2', k3, k5, hC, hbm⟩ := T.cls
    have hC2 := I3.kIn _ _ hC
    have FB := PySem.F.excBase_ValueError
    refine wpAny_call (codeAny_of_tree ?_)
    show wpAny _ _ (callAny (.ref u) ⟨[.str z (t + 1)], []⟩) _ _ _
    simp only [callAny]
    refine wpAny_bind (wpAny_load hu ?_)
    simp only [PySem.W.kxs_mw, show (Value.type "method-wrapper" == Value.type "method" || Value.type "method-wrapper" == Value.type "builtin_function_or_method" || Value.type "method-wrapper" == Value.type "method-wrapper") = true by decide, if_true]
    refine PySem.W.KFB.if_so (by decide) ?_
    refine wpAny_bind (PySem.W.check_bound_init FB.toExcCallFacts hC2 ho2 rfl ?_)
    refine wpAny_bind (wpAny_pure (wpAny_pure ?_))
    refine ⟨plainId_quiet FB.init.plain _, codeAny_builtin FB.initEntry ?_⟩
    refine PySem.W.exc_init_tree (cls := .ref C) (t0 := t1) (dv := none) (c2 := .none) (c3 := .none) (b4 := .bool false) ho2 (by show 1 ≤ sizeLine; rw [sizeLine_eq]; omega) fun h' k hx _ => ?_
    have J := I3.write (h' := h') (t' := t + 2) (x := x) (e := x) (o := exo x C none) (by rw [e]; exact True.intro) (.inl rfl) k ⟨_, hx⟩ (exo_ok hx)
    have eu : upd H x (exo x C none) = H := by
      funext b
      by_cases hb : b = x
      · rw [hb, upd_same, e]
      · rw [upd_ne hb]
    rw [eu] at J
    exact q _ J
end
/-- a method's def with its one captured name, __class__ -/
structure FunX (K : PySem.W.Frag) (F : NF) (f : Addr) (fd : FuncData) : Prop where
  ex : ∃ oc od doc pm an ct osl, fd = PySem.W.fnX F.name F.qual F.params F.body F.scope F.cl .none .none doc pm an (.ref F.c) ct ∧ K.lookup f = some ⟨oc, od, .func fd, osl⟩
  code : PySem.W.codeIn K (.ref F.c) F.qual = true
  kp : PySem.W.keepIn K (.ref f) = true
section
variable {P : Program} {w : World} {K : PySem.W.Frag} {mg : Str → Option Value} {base : Heap} {N ps : List Str} {F : NF} {f D : Addr} {fd : FuncData} {k : Nat} {sp : Sp}
/-- what stands in the way of no call of super().__init__ on x: an exception of the class at C -/
structure SupE (K : PySem.W.Frag) (D C : Addr) : Prop where
  T : OexC K C
  sub : PySem.W.mroIn K C (.ref D) = some true
  sup : PySem.W.ks_superIn K C D "__init__" = some (some (.builtin "ValueError.__init__"))
  ve : PySem.W.subIn K (.ref C) (.type "ValueError") = some true
theorem fnok_super {CX : CXT} {rest : List Stmt} {p0 p1 p2 p3 p4 p5 : Pos} {z : Str} {j : Nat} {ar : Arg} (hf : FunX K F f fd) (S : NScope N ps ["__class__"] F.scope)
    (hbody : F.body = .Expr (.Call (.Attribute (.Call (.Name "super" p0) [] [] p1) "__init__" p2) [.Constant (.str z) j p3] [] p4) p5 :: rest) (SK : SupK P K F D)
    (hp : (F.params.posonlyargs ++ F.params.args).head? = some ar) (hN : N[0]? = some ar.arg) (hl : F.scope.names.lookup ar.arg = some .local) (len : ∀ vs H Q E, sp vs H Q E → vs.length = ps.length)
    (pl : Env → Sem Bool)
    (he : ∀ L, eval (.Call (.Attribute (.Call (.Name "super" p0) [] [] p1) "__init__" p2) [.Constant (.str z) j p3] [] p4) (envF F f L) = (do
      let ov ← attributeBase (.Call (.Name "super" p0) [] [] p1) "__init__" (envF F f L) (eval (.Call (.Name "super" p0) [] [] p1) (envF F f L))
      standAt p2.atName
      let (g, first) ← holding [ov] (getMethod ov "__init__" (pl (envF F f L)))
      callWith p4 g first (backTo p4 (starEach [.Constant (.str z) j p3] (envF F f L))) []))
    (hi : ∀ L, interactive (envF F f L) = false)
    (hs : ∀ L, swapsWith (.Call (.Attribute (.Call (.Name "super" p0) [] [] p1) "__init__" p2) [.Constant (.str z) j p3] [] p4) none p5.line (envF F f L) = pure false)
    (hrest : ∀ (A : Around) (outer : List Env) (s : Shared) (H : Hp) (vs : List V) (Q : VK) (E : XK), Room k (A.deeper (envF F f s.heap.objs.size)) → sp vs H Q E →
      (∃ x C ws, vs = .ref x :: ws ∧ SupE K D C ∧ H x = some (exo x C none)) ∧ ∃ t, PSs (ncx CX P w K mg base N F f A outer s H E) rest t ∧ t { nx := fun _ H' => Q .non H', rt := Q } (startF N vs [some (.ref D)]) H) :
    FnOk P w K mg base CX (k + 1) f fd ps sp := by
  obtain ⟨oc, od, doc, pm, an, ct, osl, rfl, lk⟩ := hf.ex
  refine ⟨len, fun A outer s H args us vs Q E hr e0 hbd rv hsp => ?_⟩
  have inK : K.In s.heap := e0.mod.kin.keeps fun b o e => (e0.bs b o e).1
  have noL : s.heap.NoLimit := e0.mod.nolimit.keeps fun b o e => (e0.bs b o e).1
  obtain ⟨cc, cl, cld, csl, ecl, hcell⟩ := SK.cell
  have hlen := len _ _ _ _ hsp
  have CA : CellsAt F.cl ["__class__"] [some (.ref D)] s.heap H := by
    rw [ecl]
    have hc0 : H cc = none := (e0.bs cc _ (e0.mod.kin _ _ hcell)).2
    have hcs := inK _ _ hcell
    have one : ∀ y c, ([(("__class__" : Str), cc)] : List (Str × Addr)).lookup y = some c → y = ("__class__" : Str) ∧ c = cc := fun y c h => by
      have h' : (match y == ("__class__" : Str) with | true => some cc | false => none) = some c := h
      cases q : (y == ("__class__" : Str)) with
      | true => rw [q] at h'; exact ⟨eq_of_beq q, (Option.some.inj h').symm⟩
      | false => rw [q] at h'; cases h'
    refine ⟨rfl, fun y c h => ?_, fun x y c h1 h2 => ?_, fun i y h => ?_⟩
    · obtain ⟨_, rfl⟩ := one y c h
      exact ⟨hc0, _, _, hcs, rfl⟩
    · rw [(one x c h1).1, (one y c h2).1]
    · cases i with
      | zero =>
        cases h
        exact ⟨cc, rfl, fun v hv => by cases hv; exact ⟨.ref D, rfl, _, hcs, rfl⟩⟩
      | succ i => simp at h
  refine ks_codeAny_call_defAt (fd := PySem.W.fnX F.name F.qual F.params F.body F.scope F.cl .none .none doc pm an (.ref F.c) ct) (body := F.body) (binds := ps.zip us) hr.depth (inK _ _ lk) rfl noL (PySem.W.codeRec_of inK hf.code) rfl hbd S.nocell
    (fun y hy => S.par y.1 (List.of_mem_zip hy).1) (fun h₁ hns hk₁ => ?_) S.co S.gen S.kind
  have I := inv_startN (f := f) (CX := CX) (E := E) (tk := s.toks + (ps.zip us).length) S hr.hd e0 hlen rv CA hns hk₁
  obtain ⟨⟨x, C, ws, rfl, SE, hx⟩, t, ht, hq⟩ := hrest A outer s H vs Q E (hr.deeper _) hsp
  have hA : (ncx CX P w K mg base N F f A outer s H E).A = A.deeper (envF F f s.heap.objs.size) := rfl
  have done : ∀ {s' : Shared} {σ : L2.St} {H' : Hp} {v : V} {u : Value}, Inv (ncx CX P w K mg base N F f A outer s H E) [] σ H' s' → RelV v u → Q v H' → CE outer P w H s Q u s' :=
    fun J rv q => ⟨_, _, J.os, J.bare, J.base, J.hok, rv, q⟩
  show PySem.wpAt (model P w) (A.deeper (envF F f s.heap.objs.size)) (.func F.body (envF F f s.heap.objs.size)) (execs F.body (envF F f s.heap.objs.size)) _ _ _
  rw [hbody]
  refine ks_wpAt_execs_cons ?_
  refine sup_exc (X := ncx CX P w K mg base N F f A outer s H E) (pins := []) (σ := startF N (.ref x :: ws) [some (.ref D)]) (H := H) I rfl SK lk hp hN hl rfl SE.sub SE.T SE.sup SE.ve hx (fun s' J => ?_) (pl (envF F f s.heap.objs.size)) (he _) (hi _) (hs _)
  refine wpAt_of_wpAny (wpAny_mono (ht.run [] s' _ _ _ J hq) (fun fl s'' h => ?_) fun e s' h => h)
  cases fl with
  | ret u => obtain ⟨v, σ, H', J, r1, q1⟩ := h; exact done J r1 q1
  | next => obtain ⟨σ, H', J, q1⟩ := h; exact done (v := .non) (u := .none) J rfl q1
  | brk => obtain ⟨_, _, _, z⟩ := h; exact z.elim
  | cont => obtain ⟨_, _, _, z⟩ := h; exact z.elim
end
end Iv
/-! A call of an exception's class with keywords. -/
namespace PySem
namespace Ivx
open Builtin Builtin.ObjectAttr HandSPX PyProof.Rows
/-- what is told of the class -/
structure Cl (h : Heap) (B newId initId : String) (bmB bm : List Value) (nm q : Str) (C N : Addr) (bs : List Value) (hdct : Bool) (sn : List Str) (sub : List Value) (ab : Bool) (col : Option Bool) (dd : Option Addr) (k0 k1 k2 k3 k5 : Option Value) : Prop where
  F : ExcBaseFacts B newId initId bmB
  T : ∀ X : String, bm.contains (.type X) = bmB.contains (.type X)
  at_ : h.get? C = some (excClassObj nm q C N bs bm hdct sn sub ab col dd k0 k1 k2 k3 k5 newId)
section
variable {h : Heap} {B newId initId : String} {bmB bm : List Value} {nm q : Str} {C N : Addr} {bs : List Value} {hdct : Bool} {sn : List Str} {sub : List Value} {ab : Bool} {col : Option Bool} {dd : Option Addr} {k0 k1 k2 k3 k5 : Option Value}
  {g : Array GenState} {d : Drawn} {t : Nat} {os : OsState} {E : Value → Shared → Prop} {pos : List Value} {kw : List (Str × Value)} {A : Around}
theorem Cl.has (c : Cl h B newId initId bmB bm nm q C N bs hdct sn sub ab col dd k0 k1 k2 k3 k5) : (Value.ref C :: bm).contains (.type B) = true := by rw [List.contains_cons, c.T, c.F.hasB, Bool.or_true]
theorem Cl.checkNew {M : Model} {Q : Unit → Shared → Prop} (c : Cl h B newId initId bmB bm nm q C N bs hdct sn sub ab col dd k0 k1 k2 k3 k5) (hq : Q () ⟨h, g, d, t, os⟩) :
    wpAny M A (checkBuiltinCall newId ⟨.ref C :: pos, kw⟩) Q E ⟨h, g, d, t, os⟩ := by
  have hcont := c.has; have hstar := c.F.noStar; have hC := c.at_
  simp only [checkBuiltinCall, c.F.newKind, c.F.newSplit, c.F.newRow]
  repeat (first | refine wpAny_loadPart_at hC ?_ | (refine wpAny_isSubtype_exc hC ?_; rw [hcont]) | refine wpAny_staticBase_exc hC ?_ | refine wpAny_madeBy_exc hC ?_ | (simp only [bne_self_eq_false, Bool.false_eq_true, if_false]) | wp_step)
  all_goals exact hq
theorem Cl.new {prog : Program} {w : World} {R : Result → Shared → Prop} (c : Cl h B newId initId bmB bm nm q C N bs hdct sn sub ab col dd k0 k1 k2 k3 k5) (hl : pos.length ≤ sizeLine)
    (hq : R (.ok (.ret (.ref (h.objs.size + 1)))) ⟨(h.push (W.kdv_tup pos)).push (excO C h.objs.size), g, d, t, os⟩) : codeAny (model prog w) A (.builtin newId ⟨.ref C :: pos, kw⟩) R ⟨h, g, d, t, os⟩ := by
  have e1 := c.F.ends; have e2 := c.has; have hC := c.at_
  have e3 : (Value.ref C :: bm).contains (.type "AttributeError") = false := (List.contains_cons).trans (by rw [c.T, c.F.noAttr]; rfl)
  have e4 : (Value.ref C :: bm).contains (.type "NameError") = false := (List.contains_cons).trans (by rw [c.T, c.F.noName]; rfl)
  refine codeAny_builtinAt c.F.entry ?_; unfold Builtin.«BaseException.__new__»; refine wpAt_bind ?_
  show wpAt _ _ _ (stack >>= _) _ _ _; refine wpAt_bind (wpAt_stack fun p below => wpAt_of_wpAny ?_); wp_walk
  refine wpAt_of_wpAny ?_; rw [c.F.owner]
  repeat (first | with_reducible refine wpAny_madeHere_exc c.F.canon hC ?_ | with_reducible refine wpAny_loadPart_at hC ?_ | (with_reducible refine wpAny_isSubtype_exc hC ?_; first | rw [e2] | rw [e3] | rw [e4]) | wp_step)
  show R _ _; rw [Heap.size_push]; exact hq
theorem Cl.type {prog : Program} {w : World} {fI : Addr} {Q : Fin → Shared → Prop} (c : Cl h B newId initId bmB bm nm q C N bs hdct sn sub ab col dd k0 k1 k2 k3 k5) (hl : pos.length ≤ sizeLine)
    (hi : W.Looks (model prog w) h (typeLookup (.ref C) "__init__") (some (.ref fI))) (hb : ∀ self, W.Looks (model prog w) h (bindSpecial (.ref fI) self) (.ref fI, [self]))
    (hq : codeAny (model prog w) A (.call (.ref fI) ⟨.ref (h.objs.size + 1) :: pos, kw⟩) (fun r s' => match r with
      | .ok (.ret v) => v = .none ∧ Q (.done (.ret (.ref (h.objs.size + 1)))) s'
      | .ok _ => False
      | .error e => E e s') ⟨(h.push (W.kdv_tup pos)).push (excO C h.objs.size), g, d, t, os⟩) : wpAny (model prog w) A (Builtin.«type.__call__» ⟨.ref C :: pos, kw⟩) Q E ⟨h, g, d, t, os⟩ := by
  have hC := c.at_
  repeat (first | with_reducible refine wpAny_loadPart_at hC ?_ | with_reducible refine wpAny_madeBy_exc hC ?_ | wp_step)
  refine codeAny_call_builtin_code (Code.quiet_builtin _ c.F.quiet) (c.checkNew (c.new hl ?_)); show wpAny _ _ _ _ _ _
  have k : ∀ b o, h.get? b = some o → ((h.push (W.kdv_tup pos)).push (excO C h.objs.size)).get? b = some o := fun b o z => Heap.get?_push_of_some _ (Heap.get?_push_of_some _ z)
  have e1 := k _ _ hC; have e2 : ((h.push (W.kdv_tup pos)).push (excO C h.objs.size)).get? (h.objs.size + 1) = some (excO C h.objs.size) := by heap_get
  have e3 : (Value.ref C :: bm).contains (.ref C) = true := by simp
  have e4 := hi.keeps k; have e5 := (hb (.ref (h.objs.size + 1))).keeps k; unfold isInstance
  repeat (first | with_reducible refine wpAny_loadPart_at e2 ?_ | (with_reducible refine wpAny_isSubtype_exc e1 ?_; rw [e3]) | wp_step)
  show wpAny _ _ (typeLookup (.ref C) _) _ _ _; refine e4.at ?_; refine wpAny_holding (wpAny_bind (e5.at ?_))
  refine wpAny_bind (wpAny_call (codeAny_mono hq fun r s' z => ?_)); rcases r with e | (v | _ | _ | _) <;> first | exact z | exact z.elim | skip
  obtain ⟨rfl, z⟩ := z; first | exact wpAny_pure (wpAny_pure z) | (wp_walk; exact z)
/-- C(..) of an own exception's class: the args, the object, then __init__ -/
theorem Cl.call {prog : Program} {w : World} {fI : Addr} {R : Result → Shared → Prop} (c : Cl h B newId initId bmB bm nm q C N bs hdct sn sub ab col dd k0 k1 k2 k3 k5) (hl : pos.length ≤ sizeLine)
    (hi : W.Looks (model prog w) h (typeLookup (.ref C) "__init__") (some (.ref fI))) (hb : ∀ self, W.Looks (model prog w) h (bindSpecial (.ref fI) self) (.ref fI, [self]))
    (hq : codeAny (model prog w) (A.under (.builtin "type.__call__" ⟨.ref C :: pos, kw⟩)) (.call (.ref fI) ⟨.ref (h.objs.size + 1) :: pos, kw⟩) (W.InitBack (h.objs.size + 1) R) ⟨(h.push (W.kdv_tup pos)).push (excO C h.objs.size), g, d, t, os⟩) :
    codeAny (model prog w) A (.call (.ref C) ⟨pos, kw⟩) R ⟨h, g, d, t, os⟩ := by
  have hC := c.at_; have e1 := tc_lookup; have e2 := tc_bind (.ref C); have e3 : (⟨h, g, d, t, os⟩ : Shared).TypeIs (.ref C) "type" := ⟨_, hC, rfl⟩
  refine codeAny_of_tree ?_; show wpAny _ _ (callAny (.ref C) _) _ _ _
  repeat (any_goals (first | assumption | with_reducible refine wpAny_loadPart_at hC ?_ | wp_step))
  refine ⟨rfl, ?_⟩
  refine codeAny_call_builtin_at (Code.quiet_builtin _ (by decide +kernel)) entry_typeCall (wpAny_check_type_call_sub hC (c.type hl hi hb ?_)); refine codeAny_mono hq fun r s' z => ?_
  rcases r with e | (v | _ | _ | _) <;> exact z
end
end Ivx
end PySem
/-! Exceptions as values: made, read. -/
namespace Iv
open PySem PySem.Spec PyProof.Rows L2 NdefX

section
variable {X : Cx} {pins : List (Addr × Obj)} {σ : L2.St} {H : Hp} {s : Shared}
/-- C(..), its __init__ a def with a promise: the new object stays -/
theorem run_exn {CX : CXT} {C fI : Addr} {k : Nat} {fd : FuncData} {ps : List Str} {sp : Sp} (T : OexC X.K C) (iC : PySem.W.findIn X.K (.ref C) "__init__" = some (some (.ref fI))) (tI : PySem.W.typeIn X.K (.ref fI) = some (.type "function"))
    (F1 : FnOk X.prog X.w X.K X.mg X.base CX k fI fd ps sp) (hr : Room (k + 1) X.A) (hx : Passes CX X (fun _ _ _ => False)) {us all : List Value} {kw : List (Str × Value)} {vs : List V} {Q : VK} (hl : us.length ≤ sizeLine)
    (hb : ∀ (s : Shared) (a : Addr), X.K.In s.heap → BindsTo s fd ⟨.ref a :: us, kw⟩ (ps.zip (.ref a :: all))) (I : Inv X pins σ H s) (rv : Vals vs all)
    (q : ∀ a, H a = none → sp (.ref a :: vs) (upd H a (exo a C none)) (fun v H2 => v = .non ∧ Q (.ref a) H2) (fun _ _ _ => False)) : wpAny (model X.prog X.w) X.A (call (.ref C) us kw) (EP X pins σ Q) X.xe s := by
  obtain ⟨nm, qn, N, bs, bm, sn, sub, ab, col, dd, k0, k1, k2, k3, k5, hC, hbm⟩ := T.cls
  obtain ⟨hp, g, dr, tk, os⟩ := s
  have cl : PySem.Ivx.Cl hp "ValueError" "ValueError.__new__" "ValueError.__init__" PySem.HandSPX.veTail bm nm qn C N bs true sn sub ab col dd k0 k1 k2 k3 k5 := ⟨PySem.F.excBase_ValueError, fun Y => PySem.HandSPX.refsVE_contains Y bm hbm, I.kIn _ _ hC⟩
  have hsz : hp.objs.size ≤ hp.objs.size + 1 := Nat.le_succ _
  have hn : H (hp.objs.size + 1) = none := I.hok.fresh hsz
  have hq := q _ hn
  have kk : ∀ b o, hp.get? b = some o → ((hp.push (PySem.W.kdv_tup us)).push (PySem.HandSPX.excO C hp.objs.size)).get? b = some o := fun b o e => Heap.get?_push_of_some _ (Heap.get?_push_of_some _ e)
  have hget : ((hp.push (PySem.W.kdv_tup us)).push (PySem.HandSPX.excO C hp.objs.size)).get? (hp.objs.size + 1) = some (PySem.HandSPX.excO C hp.objs.size) := by heap_get
  have I2 : Inv X pins σ (upd H (hp.objs.size + 1) (exo (hp.objs.size + 1) C none)) ⟨(hp.push (PySem.W.kdv_tup us)).push (PySem.HandSPX.excO C hp.objs.size), g, dr, tk, os⟩ := I.laid (t' := tk) kk hsz (exo_ok hget)
  refine wpAny_call (cl.call hl (PySem.W.looks_findIn I.kIn iC) (fun self => PySem.W.bind_fn I.kIn self tI) (codeAny_mono (F1.run _ X.stack _ _ ⟨.ref (hp.objs.size + 1) :: us, kw⟩ (.ref (hp.objs.size + 1) :: all) (.ref (hp.objs.size + 1) :: vs) (fun v H2 => v = .non ∧ Q (.ref (hp.objs.size + 1)) H2) (fun _ _ _ => False) (hr.make C us kw) (I2.env0.make C us kw) (hb _ _ I2.kIn) (.cons rfl rv) hq) fun r s' hq' => ?_))
  cases r with
  | error er => exact hx pins σ _ _ er s' I2 hq'
  | ok fl =>
    cases fl with
    | ret u =>
      obtain ⟨v, H2, os2, bare2, un2, hok2, rv2, ev, q2⟩ := hq'
      subst ev
      exact ⟨rv2, (⟨.ref (hp.objs.size + 1), H2, I2.call' (ch := []) os2 un2 hok2 bare2 (fun b z => absurd z (by simp)), rfl, q2⟩ : EP X pins σ Q (.ref (hp.objs.size + 1)) s')⟩
    | next => exact False.elim hq'
    | brk => exact False.elim hq'
    | cont => exact False.elim hq'
end
/-! ### the promise of an exception's __init__: fs the fields, the last one stored first, each with its argument's place -/
def fldV (fs : List (Str × Nat)) (ws : List V) : List (Str × V) := fs.map fun f => (f.1, ws.getD f.2 .non)
def exSp (K : PySem.W.Frag) (D : Addr) (n : Nat) (fs : List (Str × Nat)) : Sp := fun vs H Q _ => ∃ (x C : Addr) (ws : List V), vs = .ref x :: ws ∧ ws.length = n ∧ SupE K D C ∧ (∀ f ∈ fs, PySem.W.findIn K (.ref C) f.1 = some none) ∧ H x = some (exo x C none) ∧
  (fs = [] → Q .non H) ∧ (fs ≠ [] → ∀ dx, H dx = none → dx ≠ x → Q .non (upd (upd H dx (exd dx (fldV fs ws))) x (exo x C (some dx))))
def exnV (c : Nat) (fs : List (Str × Nat)) (ds : List D) : D := .ins c (fs.map (·.1)) (fs.map fun f => ds.getD f.2 .non)
section
variable {G : Gd} {r : List Addr} {H : Hp} {M : List D}
theorem Reps.getD {vs : List V} {ds : List D} (h : Reps G r H vs ds) (i : Nat) : Rep G r H (vs.getD i .non) (ds.getD i .non) := by
  rw [List.getD_eq_getElem?_getD, List.getD_eq_getElem?_getD]
  cases e : ds[i]? with
  | none =>
    have e2 : vs[i]? = none := by
      rw [List.getElem?_eq_none_iff] at e ⊢
      rw [h.length]
      exact e
    rw [e2]
    exact .non
  | some d =>
    obtain ⟨v, e2, hv⟩ := h.get e
    rw [e2]
    exact hv
theorem fld_reps {vs : List V} {ds : List D} (h : Reps G r H vs ds) : ∀ fs : List (Str × Nat), Reps G r H ((fldV fs vs).map (·.2)) (fs.map fun f => ds.getD f.2 .non)
  | [] => .nil
  | f :: fs => .cons (h.getD f.2) (fld_reps h fs)
theorem fld_names (ws : List V) : ∀ fs : List (Str × Nat), (fldV fs ws).map (·.1) = fs.map (·.1)
  | [] => rfl
  | f :: fs => congrArg (fun z => f.1 :: z) (fld_names ws fs)
/-- the new exception stands for its data -/
theorem exn_post {c n : Nat} {fs : List (Str × Nat)} {vs : List V} {ds : List D} {Q : VK} {D : Addr} (hc : isEx c = true) (SEc : SupE G.K D (G.cls c)) (no : ∀ f ∈ fs, PySem.W.findIn G.K (.ref (G.cls c)) f.1 = some none) (S : StOk G r M H) (Rs : Reps G r H vs ds) (hn : vs.length = n)
    (p : ∀ r' H', Le r H r' H' → StOk G r' M H' → ∀ v, Rep G r' H' v (exnV c fs ds) → Q v H') (a : Addr) (ha : H a = none) : exSp G.K D n fs (.ref a :: vs) (upd H a (exo a (G.cls c) none)) (fun v H2 => v = .non ∧ Q (.ref a) H2) (fun _ _ _ => False) := by
  refine ⟨a, G.cls c, vs, rfl, hn, SEc, no, upd_same, fun e => ⟨rfl, ?_⟩, fun ne dx hd hne => ⟨rfl, ?_⟩⟩
  · subst e
    obtain ⟨L, S'⟩ := S.new (o := exo a (G.cls c) none) ha
    exact p r _ L S' _ (.exn0 hc (off_new (S.fresh ha)))
  · rw [upd_ne hne] at hd
    have eH : upd (upd (upd H a (exo a (G.cls c) none)) dx (exd dx (fldV fs vs))) a (exo a (G.cls c) (some dx)) = upd (upd H dx (exd dx (fldV fs vs))) a (exo a (G.cls c) (some dx)) := by
      funext b
      by_cases h1 : b = a
      · subst h1
        rw [upd_same, upd_same]
      · rw [upd_ne h1, upd_ne h1]
        by_cases h2 : b = dx
        · subst h2
          rw [upd_same, upd_same]
        · rw [upd_ne h2, upd_ne h2, upd_ne h1]
    rw [eH]
    obtain ⟨L1, S1⟩ := S.new (o := exd dx (fldV fs vs)) hd
    have ha1 : upd H dx (exd dx (fldV fs vs)) a = none := by rw [upd_ne (Ne.symm hne)]; exact ha
    obtain ⟨L2, S2⟩ := S1.new (o := exo a (G.cls c) (some dx)) ha1
    have Rf := ((fld_reps Rs fs).le L1).le L2
    have f1 := S.fresh hd
    have R := Rep.exn (G := G) (r := r) (H := upd (upd H dx (exd dx (fldV fs vs))) a (exo a (G.cls c) (some dx))) hc (off_new (S1.fresh ha1)) (off_some.mpr ⟨f1, by rw [upd_ne hne, upd_same]⟩) Rf
    rw [fld_names] at R
    exact p r _ (L1.trans L2) S2 _ R
end
/-- X(e, ..) -/
def dExn (c n : Nat) (fs : List (Str × Nat)) (m : DA) : DE := fun δ => bnd (m δ) fun ds => if ds.length = n then ret (exnV c fs ds) else stuck
/-- what is known of an exception's class and its __init__ -/
structure ExC (G : Gd) (X : Cx) (c n : Nat) (fs : List (Str × Nat)) (ps : List Str) (fd : FuncData) : Prop where
  ex : isEx c = true
  T : OexC G.K (G.cls c)
  f : ∃ D fI, PySem.W.findIn G.K (.ref (G.cls c)) "__init__" = some (some (.ref fI)) ∧ PySem.W.typeIn G.K (.ref fI) = some (.type "function") ∧ SupE G.K D (G.cls c) ∧ FnOk X.prog X.w G.K X.mg X.base (L2.CX X.prog X.w) 1 fI fd ps (exSp G.K D n fs)
  no : ∀ f ∈ fs, PySem.W.findIn G.K (.ref (G.cls c)) f.1 = some none
section
variable {G : Gd} {X : Cx}
theorem SE.exn {c n : Nat} {fs : List (Str × Nat)} {ps : List Str} {fd : FuncData} (h : ExC G X c n fs ps fd) (hK : G.K = X.K) (hr : Room 2 X.A) {x : Str} {p pos : Pos} {e : Expr} {es : List Expr} {m : DA} (hg : Gl X x) (hm : X.mg x = some (.ref (G.cls c)))
    (hb : Binds G.K fd ps []) (hn : ps.length = n + 1) (hn2 : n ≤ sizeLine) (ha : SA G X (e :: es) m) (hdb : (x == ("__debug__" : Str)) = false)
    (he : starEach (e :: es) X.env = (false, eval e X.env) :: starEach es X.env) (hpl : (backTo pos (starEach es X.env)).any (·.1) = false) (px : Passes (L2.CX X.prog X.w) X (fun _ _ _ => False)) : SE G X (.Call (.Name x p) (e :: es) [] pos) (dExn c n fs m) := by
  obtain ⟨Dc, fI, iC, tI, SEc, F1⟩ := h.f
  refine ⟨?_⟩
  intro W tk δ M σ r H Q S E q pins s I
  refine wpAny_Call_Name_kw (ld_glob I hg hm ?_ hdb)
  have hA : WA X (e :: es) σ H fun vs H1 => ∀ (pins : List (Addr × Obj)) (s : Shared) (us : List Value), Inv X pins σ H1 s → Vals vs us → wpAny (model X.prog X.w) X.A (PySem.call (.ref (G.cls c)) us) (EP X pins σ Q) X.xe s := by
    refine ha.ru W tk δ M σ r H _ S E (q.bnd.imp ?_)
    intro ds M1 r1 H1 L1 S1 h1 vs Rs pins s us I1 ru
    by_cases cn : ds.length = n
    · rw [if_pos cn] at h1
      have hl : vs.length = n := by rw [Rs.length]; exact cn
      have F1' : FnOk X.prog X.w X.K X.mg X.base (L2.CX X.prog X.w) 1 fI fd ps (exSp G.K Dc n fs) := hK ▸ F1
      refine run_exn (hK ▸ h.T) (hK ▸ iC) (hK ▸ tI) F1' hr px (by rw [← ru.length, hl]; exact hn2) (all := us) (fun s a kin => ?_) I1 ru ?_
      · have z := hb s (.ref a :: us) (hK ▸ kin) (by rw [List.append_nil, List.length_cons, ← ru.length, hl, hn])
        rw [List.append_nil] at z
        exact z
      · exact fun a ha => exn_post h.ex SEc h.no S1 Rs hl (fun r' H' l S' v R => h1 r' H' l S' v R) a ha
    · rw [if_neg cn] at h1
      exact h1.elim
  exact PySem.W.callWith_K (h₀ := X.base) I.ok.mod.kin (hK ▸ h.T.kC) (thn (hA pos pins s I) fun us s1 ⟨vs, H1, I1, r1, h⟩ => ⟨I1.kIn, h pins s1 us I1 r1⟩) he hpl
end
end Iv
/-! Exceptions made by keywords, without arguments; attributes. -/
namespace Iv
open PySem PySem.Spec PyProof.Rows L2 NdefX

/-- the arguments by their places among the keywords -/
def perD (pi : List Nat) (ds : List D) : List D := pi.map fun i => ds.getD i .non
def dExnK (c n : Nat) (fs : List (Str × Nat)) (pi : List Nat) (m : DA) : DE := fun δ => bnd (m δ) fun ds => if ds.length = pi.length ∧ pi.length = n then ret (exnV c fs (perD pi ds)) else stuck
section
variable {G : Gd} {X : Cx}
theorem per_reps {r : List Addr} {H : Hp} {vs : List V} {ds : List D} (h : Reps G r H vs ds) : ∀ pi : List Nat, Reps G r H (pi.map fun i => vs.getD i .non) (perD pi ds)
  | [] => .nil
  | i :: pi => .cons (h.getD i) (per_reps h pi)
theorem vals_getD : ∀ {vs : List V} {us : List Value}, Vals vs us → ∀ i, RelV (vs.getD i .non) (us.getD i .none)
  | _, _, .nil, i => rfl
  | _, _, .cons h _, 0 => h
  | _, _, .cons _ hs, i + 1 => by
    have z := vals_getD hs i
    simpa using z
theorem per_vals {vs : List V} {us : List Value} (h : Vals vs us) : ∀ pi : List Nat, Vals (pi.map fun i => vs.getD i .non) (pi.map fun i => us.getD i .none)
  | [] => .nil
  | i :: pi => .cons (vals_getD h i) (per_vals h pi)
/-- X(k = e, ..) -/
theorem SE.exnK {c n : Nat} {fs : List (Str × Nat)} {ps ks : List Str} {pi : List Nat} {fd : FuncData} (h : ExC G X c n fs ps fd) (hK : G.K = X.K) (hr : Room 2 X.A) {x : Str} {p pos : Pos} {kws : List Keyword} {mk : DA} (hg : Gl X x) (hm : X.mg x = some (.ref (G.cls c)))
    (hb : ∀ (s : Shared) (a : Value) (us : List Value), us.length = pi.length → BindsTo s fd ⟨[a], ks.zip us⟩ (ps.zip (a :: pi.map fun i => us.getD i .none)))
    (hkw : SK G X kws mk) (hall : (backToKw pos (keywordEach kws X.env)).all (·.1.isSome) = true) (hks : (backToKw pos (keywordEach kws X.env)).filterMap (·.1) = ks) (hdb : (x == ("__debug__" : Str)) = false)
    (hpl : ((backTo pos (starEach [] X.env)).any (·.1) || (backToKw pos (keywordEach kws X.env)).any (·.1.isNone)) = false) (px : Passes (L2.CX X.prog X.w) X (fun _ _ _ => False)) : SE G X (.Call (.Name x p) [] kws pos) (dExnK c n fs pi mk) := by
  obtain ⟨Dc, fI, iC, tI, SEc, F1⟩ := h.f
  refine ⟨?_⟩
  intro W tk δ M σ r H Q S E q pins s I
  refine wpAny_Call_Name_kw (ld_glob I hg hm ?_ hdb)
  have hA : WK X kws σ H fun zs H1 => ∀ (pins : List (Addr × Obj)) (s : Shared) (ws : List Value), Inv X pins σ H1 s → Vals zs ws → wpAny (model X.prog X.w) X.A (PySem.call (.ref (G.cls c)) [] (ks.zip ws)) (EP X pins σ Q) X.xe s := by
    refine hkw.ru W tk δ M σ r H _ S E ((show Post G W σ (JE G Q) r H (bnd (mk δ) (fun ds => if ds.length = pi.length ∧ pi.length = n then ret (exnV c fs (perD pi ds)) else stuck) M) from q).bnd.imp ?_)
    intro ds M1 r1 H1 L1 S1 h1 zs Rz pins s ws I1 rz
    by_cases cn : ds.length = pi.length ∧ pi.length = n
    · rw [if_pos cn] at h1
      have F1' : FnOk X.prog X.w X.K X.mg X.base (L2.CX X.prog X.w) 1 fI fd ps (exSp G.K Dc n fs) := hK ▸ F1
      refine run_exn (us := []) (hK ▸ h.T) (hK ▸ iC) (hK ▸ tI) F1' hr px (Nat.zero_le _) (all := pi.map fun i => ws.getD i .none) (fun s a kin => hb s (.ref a) ws ?_) I1 (per_vals rz pi) ?_
      · rw [← rz.length, Rz.length]; exact cn.1
      · exact fun a ha => exn_post h.ex SEc h.no S1 (per_reps Rz pi) (by rw [List.length_map]; exact cn.2) (fun r' H' l S' v R => h1 r' H' l S' v R) a ha
    · rw [if_neg cn] at h1
      exact h1.elim
  refine PySem.W.callWith_KW0 (h₀ := X.base) I.ok.mod.kin (hK ▸ h.T.kC) hall ?_ hpl
  obtain ⟨t, ht, hA⟩ := hA
  refine thn (ht.run pos pins s σ H _ I hA) fun ws s1 ⟨zs, H1, I1, r1, h⟩ => ⟨I1.kIn, ?_⟩
  rw [hks]
  exact h pins s1 ws I1 r1
/-- X() -/
theorem SE.exn0 {c : Nat} {ps : List Str} {fd : FuncData} (h : ExC G X c 0 [] ps fd) (hK : G.K = X.K) (hr : Room 2 X.A) {x : Str} {p pos : Pos} (hg : Gl X x) (hm : X.mg x = some (.ref (G.cls c)))
    (hb : Binds G.K fd ps []) (hn : ps.length = 1) (hdb : (x == ("__debug__" : Str)) = false) (px : Passes (L2.CX X.prog X.w) X (fun _ _ _ => False)) : SE G X (.Call (.Name x p) [] [] pos) (dLit (.ins c [] [])) := by
  obtain ⟨Dc, fI, iC, tI, SEc, F1⟩ := h.f
  refine ⟨?_⟩
  intro W tk δ M σ r H Q S E q pins s I
  refine wpAny_Call_Name_kw (ld_glob I hg hm ?_ hdb)
  refine PySem.W.callWith_K0 I.kIn (hK ▸ h.T.kC) ?_
  have F1' : FnOk X.prog X.w X.K X.mg X.base (L2.CX X.prog X.w) 1 fI fd ps (exSp G.K Dc 0 []) := hK ▸ F1
  refine run_exn (us := []) (kw := []) (vs := []) (hK ▸ h.T) (hK ▸ iC) (hK ▸ tI) F1' hr px (Nat.zero_le _) (all := []) (fun s a kin => ?_) I .nil ?_
  · have z := hb s [.ref a] (hK ▸ kin) (by rw [List.append_nil, hn]; rfl)
    exact z
  · exact fun a ha => exn_post (ds := []) h.ex SEc h.no S .nil rfl (fun r' H' l S' v R => q r' H' l S' v R) a ha
/-- X() of a class without an own __init__ -/
theorem SE.exnB {c : Nat} (hx : isEx c = true) (kC : PySem.W.keepIn X.K (.ref (G.cls c)) = true) (qe : PySem.W.excIn X.K (G.cls c) He.veBase "ValueError.__new__" = true) {x : Str} {p pos : Pos} (hg : Gl X x) (hm : X.mg x = some (.ref (G.cls c))) (hdb : (x == ("__debug__" : Str)) = false) :
    SE G X (.Call (.Name x p) [] [] pos) (dLit (.ins c [] [])) := by
  refine ⟨?_⟩
  intro W tk δ M σ r H Q S E q pins s I
  refine wpAny_Call_Name_kw (ld_glob I hg hm ?_ hdb)
  refine PySem.W.callWith_K0 I.kIn kC ?_
  obtain ⟨bm, N, nm, qn, bs, hdct, sn, sub, ab, col, dd, k0, k1, k2, k3, k5, mN, hC, hN, hni, T⟩ := exc_obj I.kIn qe
  refine wpAny_call_exc_subT PySem.F.excBase_ValueError T hC hN hni (fun h' a hm => ?_) (Nat.zero_le _)
  have hn : H a = none := I.hok.gone hm.new
  obtain ⟨t, ht, _, _⟩ := hm.there
  obtain ⟨L, S'⟩ := S.new (o := exo a (G.cls c) none) hn
  exact ⟨.ref a, _, I.laidN hm.keeps hm.new hn (exo_ok ht), rfl, q r _ L S' _ (.exn0 hx (off_new (S.fresh hn)))⟩
end
/-! ### attributes -/
def lkD : List Str → List D → Str → Option D
  | n :: ns, d :: ds, f => if f == n then some d else lkD ns ds f
  | _, _, _ => none
def fldM (kf : Nat → Str → Bool) (M : List D) (x : D) (f : Str) : Option D := match valD M x with
  | .ins c ns vs => if kf c f then lkD ns vs f else none
  | _ => none
def dFld (kf : Nat → Str → Bool) (f : Str) (a : DE) : DE := fun δ => bnd (a δ) fun x M => optE (fldM kf M x f) M
/-- whose attributes may be read -/
structure KfOk (G : Gd) (kf : Nat → Str → Bool) : Prop where
  ins : ∀ c f, kf c f = true → isEx c = false → Cls G.K (G.cls c) ∧ NoAttr G.K (G.cls c) f
  exn : ∀ c f, kf c f = true → isEx c = true → XfC G.K (G.cls c) ∧ PySem.W.findIn G.K (.ref (G.cls c)) f = some none
theorem lk_rep {G : Gd} {r : List Addr} {H : Hp} {f : Str} {d : D} : ∀ {fs : List (Str × V)} {ds : List D}, Reps G r H (fs.map (·.2)) ds → lkD (fs.map (·.1)) ds f = some d → ∃ v, fs.lookup f = some v ∧ Rep G r H v d
  | [], _, _, e => by cases e
  | (n, v) :: fs, _, .cons h hs, e => by
    unfold lkD at e
    show ∃ u, (match f == n with | true => some v | false => fs.lookup f) = some u ∧ _
    cases q : (f == n) with
    | true =>
      rw [List.map_cons] at e
      simp only [q, if_true] at e
      cases e
      exact ⟨v, rfl, h⟩
    | false =>
      rw [List.map_cons] at e
      simp only [q, Bool.false_eq_true, if_false] at e
      exact lk_rep hs e
theorem SE.fld {G : Gd} {X : Cx} {kf : Nat → Str → Bool} (k : KfOk G kf) (hK : G.K = X.K) {e : Expr} {f : Str} {pos : Pos} {m : DE} (he : SE G X e m) (hb : attributeBase e f X.env (eval e X.env) = eval e X.env) : SE G X (.Attribute e f pos) (dFld kf f m) := by
  refine ⟨?_⟩
  intro W tk δ M σ r H Q S E p pins s I
  have hA : WE X e σ H fun x H1 => ∀ (pins : List (Addr × Obj)) (s : Shared) (u : Value), Inv X pins σ H1 s → RelV x u → wpAny (model X.prog X.w) X.A (getAttr u f true) (EP X pins σ Q) X.xe s := by
    refine he.ru W tk δ M σ r H _ S E (p.bnd.imp ?_)
    intro d M1 r1 H1 L1 S1 h1 v Rv pins s u I1 ru
    have ofI : ∀ {a dx : Addr} {c : Nat} {fs : List (Str × V)} {vs : List D}, v = .ref a → H1 a = some (.ins (G.cls c) dx fs) → isEx c = false → Reps G r1 H1 (fs.map (·.2)) vs → Post G W σ (JE G Q) r1 H1 (optE (if kf c f then lkD (fs.map (·.1)) vs f else none) M1) → wpAny (model X.prog X.w) X.A (getAttr u f true) (EP X pins σ Q) X.xe s := by
      intro a dx c fs vs ev ha hx hs h1
      subst ev
      cases ru
      by_cases o : kf c f = true
      · rw [if_pos o] at h1
        cases el : lkD (fs.map (·.1)) vs f with
        | none => rw [el] at h1; exact h1.elim
        | some z =>
          rw [el] at h1
          obtain ⟨w, l, R⟩ := lk_rep hs el
          obtain ⟨c1, c2⟩ := k.ins c f o hx
          exact getattr_ok I1 ha (hK ▸ c1) (hK ▸ c2) l fun u' s2 I2 ru2 => ⟨w, H1, I2, ru2, h1 r1 H1 S1.le S1 w R⟩
      · rw [if_neg o] at h1; exact h1.elim
    cases Rv with
    | ins hx h2 hs => exact ofI rfl (off_some.mp h2).2 hx hs h1
    | @exn a c dx fs vs hx h2 h3 hs =>
      cases ru
      have h1' : Post G W σ (JE G Q) r1 H1 (optE (if kf c f then lkD (fs.map (·.1)) vs f else none) M1) := h1
      by_cases o : kf c f = true
      · rw [if_pos o] at h1'
        cases el : lkD (fs.map (·.1)) vs f with
        | none => rw [el] at h1'; exact h1'.elim
        | some z =>
          rw [el] at h1'
          obtain ⟨w, l, R⟩ := lk_rep hs el
          obtain ⟨T, no⟩ := k.exn c f o hx
          rw [hK] at T no
          obtain ⟨t1, ho⟩ := exo_at I1.hok (off_some.mp h2).2
          obtain ⟨mA, hns, hr⟩ := exd_at I1.hok (off_some.mp h3).2
          obtain ⟨od, hd, hl⟩ := lookIn_ns hns
          obtain ⟨u, hu, ru2⟩ := RelO.some_of (v := w) (o := mA f) (by rw [← l]; exact hr f)
          have J : PySem.W.InstAt s.heap a _ (G.cls c) (some od) := ⟨ho, rfl, rfl, hd⟩
          exact PySem.HandSPX.exc_get I1.kIn J T.ga T.gg T.exC (PySem.W.findObj_own T.hdC no rfl (by rw [hl, hu])) (handed_of ru2) ⟨w, H1, I1.tok _, ru2, h1' r1 H1 S1.le S1 w R⟩
      · rw [if_neg o] at h1'; exact h1'.elim
    | @exn0 a c hx h2 =>
      have h1' : Post G W σ (JE G Q) r1 H1 (optE (if kf c f then none else none) M1) := h1
      rw [ite_self] at h1'
      exact h1'.elim
    | cell hn =>
      rename_i a n
      cases em : M1[n]? with
      | none => simp only [fldM, valD, em] at h1; exact h1.elim
      | some o =>
        cases o with
        | ins c ns vs =>
          simp only [fldM, valD, em] at h1
          obtain ⟨dx, fs, q1, rfl, q2, q3⟩ := S1.at_ _ _ _ hn em
          exact ofI rfl q1 q3 q2 h1
        | _ => simp only [fldM, valD, em] at h1; exact h1.elim
    | _ => exact h1.elim
  exact attr_of hb (thn (hA pins s I) fun u s1 ⟨x, H1, I1, rx, q⟩ => q pins s1 u I1 rx)
end Iv
/-! repr of any plain data, dicts too; dict displays. -/
namespace Iv
open PySem PySem.Spec PyProof.Rows L2

mutual
def pyV : D → Option PyData
  | .non => some .none
  | .bl b => some (.bool b)
  | .int i => some (.int i)
  | .str x => some (.str x)
  | .lst xs => (pyVs xs).map .list
  | .tup xs => (pyVs xs).map .tuple
  | .dct ks vs => match pyVs ks, pyVs vs with
    | some a, some b => if a.length = b.length then some (.dict (a.zip b)) else none
    | _, _ => none
  | _ => none
def pyVs : List D → Option (List PyData)
  | [] => some []
  | d :: ds => match pyV d, pyVs ds with
    | some x, some xs => some (x :: xs)
    | _, _ => none
end
section
variable {X : Cx} {G : Gd} {pins : List (Addr × Obj)} {σ : L2.St} {H : Hp} {s : Shared} {r : List Addr}
theorem keys_read {prog : Program} {w : World} {h : Heap} : ∀ {es : List DictEntry} {kvs : List (Key × Value)} {a : List PyData}, Pairs (mixKind prog w) es kvs → pyVs (kvs.map fun p => kD p.1) = some a → ReadsAll h (es.map (·.key)) a []
  | _, _, _, .nil, e => by cases e; exact .nil
  | _, _, _, .cons (kv := kv) (kvs := kvs) h1 _ hs, e => by
    have h1' : keyIs kv.1 _ = true := h1
    rw [List.map_cons] at e
    unfold pyVs at e
    cases e2 : pyVs (kvs.map fun p => kD p.1) with
    | none => rw [e2] at e; cases q : pyV (kD kv.1) <;> (rw [q] at e; cases e)
    | some a =>
      rcases keyIs_shape h1' with ⟨i, t, k1, k2⟩ | ⟨x, t, k1, k2⟩
      · rw [k1, e2] at e
        cases e
        rw [List.map_cons, k2]
        exact .cons (as := []) (.int i t) (keys_read hs e2)
      · rw [k1, e2] at e
        cases e
        rw [List.map_cons, k2]
        exact .cons (as := []) (.str x t) (keys_read hs e2)
theorem pairs_vals {prog : Program} {w : World} : ∀ {es : List DictEntry} {kvs : List (Key × Value)}, Pairs (mixKind prog w) es kvs → es.map (·.val) = kvs.map (·.2)
  | _, _, .nil => rfl
  | _, _, .cons _ e hs => by rw [List.map_cons, List.map_cons, e, pairs_vals hs]
theorem kv_keys : ∀ {a : List (Key × V)} {b : List (Key × Value)}, KV a b → a.map (·.1) = b.map (·.1)
  | _, _, .nil => rfl
  | _, _, .cons h hs => by rw [List.map_cons, List.map_cons, h.1, kv_keys hs]
theorem kv_vals : ∀ {a : List (Key × V)} {b : List (Key × Value)}, KV a b → Vals (a.map (·.2)) (b.map (·.2))
  | _, _, .nil => .nil
  | _, _, .cons h hs => .cons h.2 (kv_vals hs)
mutual
theorem reads_ofV (hK : G.K = X.K) (I : Inv X pins σ H s) : ∀ {v : V} {d : D} {u : Value} {y : PyData}, Rep G r H v d → RelV v u → pyV d = some y → ∃ as, Reads s.heap u y as ∧ ∀ b ∈ as, H b ≠ none
  | _, _, _, _, .non, rv, e => by cases rv; cases e; exact ⟨_, .none, fun _ z => nomatch z⟩
  | _, _, _, _, .bl, rv, e => by cases rv; cases e; exact ⟨_, .bool _, fun _ z => nomatch z⟩
  | _, _, _, _, .int, rv, e => by obtain ⟨t, rfl⟩ := rv; cases e; exact ⟨_, .int _ _, fun _ z => nomatch z⟩
  | _, _, _, _, .str, rv, e => by obtain ⟨t, rfl⟩ := rv; cases e; exact ⟨_, .str _ _, fun _ z => nomatch z⟩
  | _, _, _, _, .lst h hs, rv, e => by
    cases rv
    obtain ⟨ys, e1, rfl⟩ := Option.map_eq_some_iff.mp e
    have ha := (off_some.mp h).2
    obtain ⟨z, its, n, r1, q⟩ := I.hok _ _ ha
    obtain ⟨as, ra, m⟩ := readss_ofV hK I hs r1 e1
    refine ⟨_, .list q rfl rfl (by simpa using ra), fun b hb => ?_⟩
    rcases List.mem_cons.mp hb with rfl | hb
    · rw [ha]; exact fun z => nomatch z
    · exact m b hb
  | _, _, _, _, .tup h hs, rv, e => by
    cases rv
    obtain ⟨ys, e1, rfl⟩ := Option.map_eq_some_iff.mp e
    obtain ⟨its, r1, ⟨o, q1, q2, n, q3⟩, z⟩ := I.tuple (hK ▸ sqT_off h)
    obtain ⟨as, ra, m⟩ := readss_ofV hK I hs r1 e1
    exact ⟨_, .tuple q1 q2 q3 (by simpa using ra), m⟩
  | _, _, _, _, .dct (a := a) (kvs := kvs) (vs := ds) h hs, rv, e => by
    cases rv
    have ha := (off_some.mp h).2
    obtain ⟨_, _, vs, kv, o, es, ep, q1, q2, q3, _, q4, _⟩ := (show ObjOk X.prog X.w H s.heap a (.dK kvs) from I.hok a _ ha)
    unfold pyV at e
    cases e1 : pyVs (kvs.map fun p => kD p.1) with
    | none => rw [e1] at e; cases e
    | some ks =>
      cases e2 : pyVs ds with
      | none => rw [e1, e2] at e; cases e
      | some ys =>
        rw [e1, e2] at e
        dsimp only at e
        by_cases c : ks.length = ys.length
        · rw [if_pos c] at e
          cases e
          have ek : (kvs.map fun p => kD p.1) = vs.map fun p => kD p.1 := by
            have z := congrArg (List.map kD) (kv_keys kv)
            rw [List.map_map, List.map_map] at z
            exact z
          rw [ek] at e1
          have rk := keys_read (h := s.heap) q4 e1
          obtain ⟨bs, rb, m⟩ := readss_ofV hK I hs (kv_vals kv) e2
          rw [← pairs_vals q4] at rb
          refine ⟨_, .dict (kvs := ks.zip ys) (as := []) q1 q2.1 q3 (by rw [List.map_fst_zip (by omega)]; exact rk) (by rw [List.map_snd_zip (by omega)]; exact rb), fun b hb => ?_⟩
          rcases List.mem_append.mp hb with hb | hb
          · rw [List.mem_singleton.mp hb, ha]; exact fun z => nomatch z
          · exact m b hb
        · rw [if_neg c] at e; cases e
  | _, _, _, _, .scr _ _, _, e => by cases e
  | _, _, _, _, .ins _ _ _, _, e => by cases e
  | _, _, _, _, .exn _ _ _ _, _, e => by cases e
  | _, _, _, _, .exn0 _ _, _, e => by cases e
  | _, _, _, _, .cell _, _, e => by cases e
  | _, _, _, _, .fn, _, e => by cases e
  | _, _, _, _, .cls, _, e => by cases e
  | _, _, _, _, .ty, _, e => by cases e
theorem readss_ofV (hK : G.K = X.K) (I : Inv X pins σ H s) : ∀ {vs : List V} {ds : List D} {us : List Value} {ys : List PyData}, Reps G r H vs ds → Vals vs us → pyVs ds = some ys → ∃ as, ReadsAll s.heap us ys as ∧ ∀ b ∈ as, H b ≠ none
  | _, _, _, _, .nil, .nil, e => by cases e; exact ⟨_, .nil, fun _ z => nomatch z⟩
  | _, _, _, _, .cons (d := d) (ds := ds) h hs, .cons q qs, e => by
    unfold pyVs at e
    cases e1 : pyV d with
    | none => rw [e1] at e; cases e
    | some y =>
      cases e2 : pyVs ds with
      | none => rw [e1, e2] at e; cases e
      | some ys =>
        rw [e1, e2] at e
        cases e
        obtain ⟨as, a1, m1⟩ := reads_ofV hK I h q e1
        obtain ⟨bs, b1, m2⟩ := readss_ofV hK I hs qs e2
        exact ⟨_, .cons a1 b1, fun b hb => (List.mem_append.mp hb).elim (m1 b) (m2 b)⟩
end
end
/-- repr -/
def shownV (u : Nat) (d : D) : Option D := match pyV d with
  | some y => if y.showable = true ∧ y.depth ≤ u ∧ y.shown.length ≤ sizeLine then some (.str y.shown) else none
  | none => none
def reprV (u : Nat) (d : D) : Option D := match d with
  | .non => some (.str "None")
  | .bl b => some (.str (if b then "True" else "False"))
  | .int i => if i.natAbs.log2 < 1920 then some (.str (toString i)) else none
  | .str x => if (reprText x).length ≤ sizeLine then some (.str (reprText x)) else none
  | d => shownV u d
theorem CaS.reprV {X : Cx} {G : Gd} (hK : G.K = X.K) (hgd : X.A.guards = some []) {n : Nat} (hu : X.A.units + (n + 1) < cLine) (hsm : (X.K.lookup sysModules).isSome = true) : CaS G X (.builtin "repr") (oneO (reprV n)) := CaS.one fun r H x d z Q h e k => by
  intro pins s σ us I rx
  cases rx with
  | cons rv rs =>
    cases rs
    rename_i u
    have one : ∀ {a : Addr}, x = .ref a → shownV n d = some z → wpAny (model X.prog X.w) X.A (call (.builtin "repr") [u]) (EP X pins σ Q) X.xe s := by
      intro a ex e
      unfold shownV at e
      cases ey : pyV d with
      | none => rw [ey] at e; cases e
      | some y =>
        rw [ey] at e
        dsimp only at e
        by_cases c : y.showable = true ∧ y.depth ≤ n ∧ y.shown.length ≤ sizeLine
        · rw [if_pos c] at e
          cases e
          obtain ⟨as, ra, m⟩ := reads_ofV hK I h rv ey
          subst ex
          cases rv
          refine repr_of_reads' ra c.1 (fun _ hm => ?_) hgd (by have := c.2.1; omega) (fun b o q => q) (fun h' u tk kp => ⟨.str y.shown, H, I.kept kp, ⟨_, rfl⟩, k _ .str⟩) c.2.2
          obtain ⟨o, ho⟩ := Option.isSome_iff_exists.mp hsm
          exact m _ hm (I.bs _ _ (I.ok.mod.kin _ _ ho)).2
        · rw [if_neg c] at e; cases e
    cases h with
    | non => cases e; cases rv; exact PySem.P.repr_of_none ⟨.str "None", H, I.tok _, ⟨_, rfl⟩, k _ .str⟩
    | bl => cases e; cases rv; exact PySem.P.repr_of_bool ⟨.str _, H, I.tok _, ⟨_, rfl⟩, k _ .str⟩
    | int =>
      rename_i i
      obtain ⟨t, rfl⟩ := rv
      have e' : (if i.natAbs.log2 < 1920 then some (D.str (toString i)) else none) = some z := e
      by_cases c : i.natAbs.log2 < 1920
      · rw [if_pos c] at e'; cases e'; exact PySem.P.repr_of_int c ⟨.str _, H, I.tok _, ⟨_, rfl⟩, k _ .str⟩
      · rw [if_neg c] at e'; cases e'
    | str =>
      rename_i y
      obtain ⟨t, rfl⟩ := rv
      have e' : (if (reprText y).length ≤ sizeLine then some (D.str (reprText y)) else none) = some z := e
      by_cases c : (reprText y).length ≤ sizeLine
      · rw [if_pos c] at e'; cases e'; exact PySem.P.repr_of_str ⟨.str _, H, I.tok _, ⟨_, rfl⟩, k _ .str⟩ c
      · rw [if_neg c] at e'; cases e'
    | lst => exact one rfl e
    | tup => exact one rfl e
    | dct => exact one rfl e
    | _ => cases e
/-! ### {'k': e} -/
def dDicE (x : Str) (a : DE) : DE := fun δ => bnd (noX (a δ)) fun d => ret (.dct [.str x] [d])
theorem SE.dicE {G : Gd} {X : Cx} {x : Str} {j : Nat} {kp pos : Pos} {e : Expr} {m : DE} (he : ∀ p, SE (G.hide p) X e m) : SE G X (.Dict [some (.Constant (.str x) j kp)] [e] pos) (dDicE x m) := by
  refine ⟨?_⟩
  intro W tk δ M σ r H Q S E p
  obtain ⟨d, M1, em, k⟩ : ∃ d M1, m δ M = .ok d M1 ∧ ∀ r' H', Le r H r' H' → StOk G r' M1 H' → ∀ v, Rep G r' H' v (.dct [.str x] [d]) → Q v H' := by
    unfold dDicE noX bnd Iv.ret at p
    cases e : m δ M with
    | ok a M' => simp only [e] at p; exact ⟨a, M', rfl, p⟩
    | exc _ _ => simp only [e] at p; exact p.elim
    | stk => simp only [e] at p; exact p.elim
  refine (pe_disp (pps_cons pe_str (peW e) pps_nil) rfl rfl (by simp) (by simp)).we fun q hq => ?_
  obtain ⟨Lh, Sh⟩ := S.hide (o := .dK []) hq
  have nq := (S.fresh hq).2
  refine (he q).ru W tk δ M σ r _ _ Sh (E.via (off_hide hq)) ?_
  rw [em]
  intro r' H' L S' v Rv
  have out := L.out (p := q) (u := .dK []) upd_same nq
  refine ⟨out.2, [(.inr x, v)], rfl, by simp, ?_⟩
  have hm : q ∈ (G.hide q).hid := List.mem_cons_self
  have S2 : StOk G r' M1 (upd H' q (.dK (mergeK [] [(.inr x, v)]))) := (S'.updH (o := .dK (mergeK [] [(.inr x, v)])) hm).show_
  have R2 : Rep G r' (upd H' q (.dK (mergeK [] [(.inr x, v)]))) v d := Rep.via (G := G.hide q) (h2 := G.hid) off_show (Rep.via (G := G.hide q) (h2 := (G.hide q).hid) (off_updH hm) Rv)
  exact k r' _ ((Lh.trans L).updN hq out.1) S2 _ (.dct (kvs := [(.inr x, v)]) (off_some.mpr ⟨⟨fun z => (S.hid q z).1 hq, out.1⟩, upd_same⟩) (.cons R2 .nil))
end Iv
/-! A head's Hook with methods that say super(), exceptions' classes. -/
namespace Iv
open PySem PySem.Spec PyProof.Rows L2 NdefX

/-- what is reached from the module's names, and two objects of the machine's own -/
def asX (g : Addr → Option Obj) (n : Nat) : List Addr := (He.asD g n ++ [cStatics, sysModules]).eraseDups
abbrev FnY : Type := Option (Str × Str × Arguments × FuncBody × Scope × Addr × List Str × Addr)
def fnY (K : PySem.W.Frag) (p : Str × Option Str) : FnY := match K.lookup (He.fAd K p) with
  | some ⟨_, _, .func fd, _⟩ => some (fd.name, fd.qualname, fd.params, fd.body, fd.scope, fd.globals, fd.closure.map (·.1), fd.builtins)
  | _ => none
/-- a method that says super(): where it stands, its words -/
structure DefY where
  at_ : Str × Str
  name : Str
  qual : Str
  params : Arguments
  body : List Stmt
  scope : Scope
def DefY.val (d : DefY) : FnY := some (d.name, d.qual, d.params, .stmts d.body, d.scope, mainGlobals, [("__class__" : Str)], builtinsNs)
def DefY.ad (d : DefY) : Str × Option Str := (d.at_.1, some d.at_.2)
/-- its code, its cell -/
def codeB (P : Program) (K : PySem.W.Frag) (cdv : Value) (qual : Str) : Bool := match cdv with
  | .ref c => PySem.W.codeIn K (.ref c) qual && (match K.lookup c with
    | some ⟨_, _, .fields vs, _⟩ => (match (vs[2]? : Option Value) with
      | some (.str file _) => ((P.main.file : Str) == file)
      | _ => false)
    | _ => false)
  | _ => false
def cellB (K : PySem.W.Frag) (D : Addr) (cl : List (Str × Addr)) : Bool := match cl with
  | [(_, cc)] => (match K.lookup cc with
    | some ⟨_, _, .cell (some (.ref D')), _⟩ => decide (D' = D)
    | _ => false)
  | _ => false
def DefY.ok (P : Program) (K : PySem.W.Frag) (d : DefY) : Bool := PySem.W.keepIn K (.ref (He.fAd K d.ad)) && ((PySem.W.clsIn K (He.ga K d.at_.1)).isSome && (match K.lookup (He.fAd K d.ad) with
  | some ⟨_, _, .func fd, _⟩ => decide (fd.defaults = .none) && (decide (fd.kwdefaults = .none) && (codeB P K fd.code d.qual && cellB K (He.ga K d.at_.1) fd.closure))
  | _ => false))
def supB (P : Program) (K : PySem.W.Frag) : Bool := He.eqO (PySem.W.nsIn K mainGlobals "super") (some none) && (He.eqO (PySem.W.nsIn K cStatics "thirdparty.any") (some none) && (!(P.main.scope.names.lookup ("super" : Str)).isSome && (K.lookup sysModules).isSome))
theorem codeB_ok {P : Program} {K : PySem.W.Frag} {cdv : Value} {qual : Str} (h : codeB P K cdv qual = true) : ∃ c, cdv = .ref c ∧ PySem.W.codeIn K (.ref c) qual = true ∧ ∃ ccl cdd vs ccs file tf, K.lookup c = some ⟨ccl, cdd, .fields vs, ccs⟩ ∧ vs[2]? = some (.str file tf) ∧ ((P.main.file : Str) == file) = true := by
  cases cdv with
  | ref c =>
    obtain ⟨h1, h2⟩ := He.ba (show (PySem.W.codeIn K (.ref c) qual && (match K.lookup c with
      | some ⟨_, _, .fields vs, _⟩ => (match (vs[2]? : Option Value) with
        | some (.str file _) => ((P.main.file : Str) == file)
        | _ => false)
      | _ => false)) = true from h)
    refine ⟨c, rfl, h1, ?_⟩
    cases q : K.lookup c with
    | none => rw [q] at h2; cases h2
    | some o =>
      obtain ⟨oc, od, dt, osl⟩ := o
      rw [q] at h2
      cases dt with
      | fields vs =>
        dsimp only at h2
        cases q2 : vs[2]? with
        | none => rw [q2] at h2; cases h2
        | some u =>
          rw [q2] at h2
          cases u with
          | str file tf => exact ⟨oc, od, vs, osl, file, tf, rfl, q2, h2⟩
          | _ => cases h2
      | _ => cases h2
  | _ => cases h
theorem cellB_ok {K : PySem.W.Frag} {D : Addr} {cl : List (Str × Addr)} (h : cellB K D cl = true) : ∃ x cc c2 cld csl, cl = [(x, cc)] ∧ K.lookup cc = some ⟨c2, cld, .cell (some (.ref D)), csl⟩ := by
  match cl, h with
  | [(x, cc)], h =>
    have h' : (match K.lookup cc with
      | some ⟨_, _, .cell (some (.ref D')), _⟩ => decide (D' = D)
      | _ => false) = true := h
    cases q : K.lookup cc with
    | none => rw [q] at h'; cases h'
    | some o =>
      obtain ⟨oc, od, dt, osl⟩ := o
      rw [q] at h'
      cases dt with
      | cell v =>
        cases v with
        | none => cases h'
        | some u =>
          cases u with
          | ref D' =>
            have e : D' = D := of_decide_eq_true h'
            subst e
            exact ⟨x, cc, oc, od, osl, rfl, q⟩
          | _ => cases h'
      | _ => cases h'
/-- the observation -/
abbrev AlX : Type := He.AlD × List FnY × Bool
def obsX (P : Program) (n : Nat) (fa : List He.Fa) (fn : List He.DefD) (fy : List DefY) (ex : PySem.W.Frag → Bool) (g : Addr → Option Obj) : AlX :=
  let K := He.frG g (asX g n)
  (He.obsD fa fn K, fy.map (fun d => fnY K d.ad), fy.all (fun d => d.ok P K) && (supB P K && ex K))
structure SaysX (P : Program) (fa : List He.Fa) (fn : List He.DefD) (fy : List DefY) (ex : PySem.W.Frag → Bool) (K : PySem.W.Frag) : Prop where
  d : He.SaysD fa fn K
  y : fy.map (fun d => fnY K d.ad) = fy.map DefY.val
  ok : fy.all (fun d => d.ok P K) = true
  sup : supB P K = true
  more : ex K = true
def hookX (P : Program) (n : Nat) (fa : List He.Fa) (fn : List He.DefD) (fy : List DefY) (ex : PySem.W.Frag → Bool) : PySem.W.Hook where
  α := AlX
  obs := fun s => obsX P n fa fn fy ex s.heap.get?
  val := fun _ => (He.valD fn, fy.map DefY.val, true)
  says := fun _ h => ∃ K : PySem.W.Frag, K.In h ∧ SaysX P fa fn fy ex K
  of := fun _ _ e => by
    refine ⟨_, He.frG_in, congrArg (fun z : AlX => z.1) e, congrArg (fun z : AlX => z.2.1) e, ?_, ?_, ?_⟩
    · exact (He.ba (congrArg (fun z : AlX => z.2.2) e)).1
    · exact (He.ba (He.ba (congrArg (fun z : AlX => z.2.2) e)).2).1
    · exact (He.ba (He.ba (congrArg (fun z : AlX => z.2.2) e)).2).2
  keeps := fun _ _ _ ⟨K, hK, c⟩ k => ⟨K, PySem.W.Frag.In.keeps hK k, c⟩
theorem obsX_eq {P : Program} {n : Nat} {fa : List He.Fa} {fn : List He.DefD} {fy : List DefY} {ex : PySem.W.Frag → Bool} {g : Addr → Option Obj} {s : Shared} (h : ∀ a, g a = s.heap.get? a) : obsX P n fa fn fy ex g = (hookX P n fa fn fy ex).obs s := by
  obtain rfl : g = s.heap.get? := funext h
  rfl
/-- a method that says super() -/
theorem SaysX.supF {P : Program} {fa : List He.Fa} {fn : List He.DefD} {fy : List DefY} {ex : PySem.W.Frag → Bool} {K : PySem.W.Frag} (c : SaysX P fa fn fy ex K) (i : Nat) {d : DefY} (h : fy[i]? = some d) (h1 : d.scope.names.lookup ("super" : Str) = some .globalImplicit) (h2 : d.scope.names.lookup ("__class__" : Str) = some .free) (h3 : d.scope.kind = .function) :
    ∃ cl cc fd, FunX K ⟨d.name, d.qual, d.params, d.body, d.scope, cl, cc⟩ (He.fAd K d.ad) fd ∧ SupK P K ⟨d.name, d.qual, d.params, d.body, d.scope, cl, cc⟩ (He.ga K d.at_.1) := by
  have hok := List.all_eq_true.mp c.ok d (List.mem_of_getElem? h)
  obtain ⟨kp, hok⟩ := He.ba hok
  obtain ⟨hcl, hok⟩ := He.ba hok
  have e : (fy.map fun d => fnY K d.ad)[i]? = (fy.map DefY.val)[i]? := by rw [c.y]
  rw [List.getElem?_map, List.getElem?_map, h] at e
  have e : fnY K d.ad = d.val := Option.some.inj e
  obtain ⟨s1, s2⟩ := He.ba c.sup
  obtain ⟨s2, s3⟩ := He.ba s2
  obtain ⟨s3, s4⟩ := He.ba s3
  unfold fnY at e
  cases q : K.lookup (He.fAd K d.ad) with
  | none => rw [q] at hok; cases hok
  | some o =>
    obtain ⟨oc, od, dt, osl⟩ := o
    rw [q] at hok e
    cases dt with
    | func fd =>
      obtain ⟨n1, n2, n3, n4, n5, n6, n7, n8, n9, n10, n11, n12, n13, n14, n15⟩ := fd
      have e2 : (some (n1, n2, n3, n4, n5, n6, n7.map (·.1), n15) : FnY) = some (d.name, d.qual, d.params, .stmts d.body, d.scope, mainGlobals, [("__class__" : Str)], builtinsNs) := e
      simp only [Option.some.injEq, Prod.mk.injEq] at e2
      obtain ⟨g1, g2, g3, g4, g5, g6, g7, g8⟩ := e2
      subst g1 g2 g3 g4 g5 g6 g8
      obtain ⟨k1, k2⟩ := He.ba (show (decide (n8 = .none) && (decide (n9 = .none) && (codeB P K n13 d.qual && cellB K (He.ga K d.at_.1) n7))) = true from hok)
      obtain ⟨k2, k3⟩ := He.ba k2
      obtain ⟨k3, k4⟩ := He.ba k3
      obtain rfl : n8 = .none := of_decide_eq_true k1
      obtain rfl : n9 = .none := of_decide_eq_true k2
      obtain ⟨cc, rfl, k5, k6⟩ := codeB_ok k3
      obtain ⟨x, ca, c2, cld, csl, rfl, k7⟩ := cellB_ok k4
      obtain rfl : x = ("__class__" : Str) := by simpa using g7
      exact ⟨[("__class__", ca)], cc, _, ⟨⟨oc, od, _, _, _, _, osl, rfl, q⟩, k5, kp⟩, ⟨⟨ca, c2, cld, csl, rfl, k7⟩, k6, Option.isSome_iff_exists.mp hcl, He.eqO_ok s1, He.eqO_ok s2, by simpa using s3, h1, h2, h3⟩⟩
    | _ => cases hok
end Iv
/-! What a head's Bool tells of exceptions' classes; isinstance by a table. -/
namespace Iv
open PySem PySem.Spec PyProof.Rows L2 NdefX

def deB (a b : Option Bool) : Bool := decide (a = b)
def oexB (K : PySem.W.Frag) (C : Addr) : Bool := (match K.lookup C with
  | some ⟨.type t, _, .cls cd, sl⟩ => decide (t = "type") && (!cd.hasDel && (cd.hasDict && (match cd.mro, sl.toList with
    | .ref C' :: bm, [_, _, _, _, some (.builtin n), _] => decide (C' = C) && (decide (n = "ValueError.__new__") && PySem.HandSPX.refsVE bm)
    | _, _ => false)))
  | _ => false) && (He.eqO (PySem.W.findIn K (.ref C) "__setattr__") (some (some (.builtin "object.__setattr__"))) && (deB (PySem.W.subIn K (.ref C) (.type "BaseException")) (some true) && (decide (PySem.W.typeIn K (.ref C) = some (.type "type")) && PySem.W.keepIn K (.ref C))))
theorem oexB_ok {K : PySem.W.Frag} {C : Addr} (h : oexB K C = true) : OexC K C := by
  obtain ⟨h1, h⟩ := He.ba h
  obtain ⟨h2, h⟩ := He.ba h
  obtain ⟨h3, h⟩ := He.ba h
  obtain ⟨h4, h5⟩ := He.ba h
  refine ⟨?_, He.eqO_ok h2, of_decide_eq_true h3, of_decide_eq_true h4, h5⟩
  cases q : K.lookup C with
  | none => rw [q] at h1; cases h1
  | some o =>
    obtain ⟨oc, od, dt, sl⟩ := o
    rw [q] at h1
    cases oc with
    | type t =>
      cases dt with
      | cls cd =>
        obtain ⟨nm, bs, mro, ns, qn, hd, sn, sub, ab, col, del⟩ := cd
        obtain ⟨e1, g1⟩ := He.ba h1
        clear h1
        obtain ⟨e2, g2⟩ := He.ba g1
        clear g1
        obtain ⟨e3, g3⟩ := He.ba g2
        clear g2
        dsimp only at e1 e2 e3 g3
        obtain rfl := of_decide_eq_true e1
        obtain rfl : del = false := by simpa using e2
        obtain rfl : hd = true := e3
        obtain ⟨sl⟩ := sl
        match mro, sl, g3 with
        | .ref C' :: bm, [k0, k1, k2, k3, some (.builtin n), k5], g3 =>
          obtain ⟨f1, g4⟩ := He.ba (show (decide (C' = C) && (decide (n = "ValueError.__new__") && PySem.HandSPX.refsVE bm)) = true from g3)
          obtain ⟨f2, f3⟩ := He.ba g4
          obtain rfl := of_decide_eq_true f1
          obtain rfl := of_decide_eq_true f2
          exact ⟨nm, qn, ns, bs, bm, sn, sub, ab, col, od, k0, k1, k2, k3, k5, rfl, f3⟩
      | _ => cases h1
    | _ => cases dt <;> cases h1
/-- an own exception's class x, its __init__ that of the class y -/
structure EcOk (K : PySem.W.Frag) (x y : Str) (fs : List Str) : Prop where
  T : OexC K (He.ga K x)
  i : PySem.W.findIn K (.ref (He.ga K x)) "__init__" = some (some (.ref (He.fAd K (y, some "__init__"))))
  t : PySem.W.typeIn K (.ref (He.fAd K (y, some "__init__"))) = some (.type "function")
  s : SupE K (He.ga K y) (He.ga K x)
  no : ∀ f ∈ fs, PySem.W.findIn K (.ref (He.ga K x)) f = some none
def ecB (K : PySem.W.Frag) (x y : Str) (fs : List Str) : Bool := oexB K (He.ga K x) && (He.eqO (PySem.W.findIn K (.ref (He.ga K x)) "__init__") (some (some (.ref (He.fAd K (y, some "__init__"))))) && (decide (PySem.W.typeIn K (.ref (He.fAd K (y, some "__init__"))) = some (.type "function")) &&
  (deB (PySem.W.mroIn K (He.ga K x) (.ref (He.ga K y))) (some true) && (He.eqO (PySem.W.ks_superIn K (He.ga K x) (He.ga K y) "__init__") (some (some (.builtin "ValueError.__init__"))) && (deB (PySem.W.subIn K (.ref (He.ga K x)) (.type "ValueError")) (some true) &&
  fs.all fun f => He.eqO (PySem.W.findIn K (.ref (He.ga K x)) f) (some none))))))
theorem ecB_ok {K : PySem.W.Frag} {x y : Str} {fs : List Str} (h : ecB K x y fs = true) : EcOk K x y fs := by
  obtain ⟨h1, h⟩ := He.ba h
  obtain ⟨h2, h⟩ := He.ba h
  obtain ⟨h3, h⟩ := He.ba h
  obtain ⟨h4, h⟩ := He.ba h
  obtain ⟨h5, h⟩ := He.ba h
  obtain ⟨h6, h7⟩ := He.ba h
  have T := oexB_ok h1
  exact ⟨T, He.eqO_ok h2, of_decide_eq_true h3, ⟨T, of_decide_eq_true h4, He.eqO_ok h5, of_decide_eq_true h6⟩, fun f hf => He.eqO_ok (List.all_eq_true.mp h7 f hf)⟩
/-- what isinstance and attributes ask -/
def etB (K : PySem.W.Frag) (C : Addr) : Bool := (PySem.W.clsIn K C).isSome && (He.eqO (PySem.W.findIn K (.ref C) "__class__") (some (some (.builtin "object.__class__"))) && (He.eqO (PySem.W.specialIn K (.builtin "object.__class__") "__get__") (some (some (.builtin "getset_descriptor.__get__"))) && (deB (PySem.W.takesIn K (.builtin "object.__class__")) (some true) && (deB (PySem.W.mroIn K C (.type "object")) (some true) && xfB K C))))
theorem etB_ok {K : PySem.W.Frag} {C : Addr} (h : etB K C = true) : ExcTy K C ∧ XfC K C := by
  obtain ⟨h1, h⟩ := He.ba h
  obtain ⟨h2, h⟩ := He.ba h
  obtain ⟨h3, h⟩ := He.ba h
  obtain ⟨h4, h⟩ := He.ba h
  obtain ⟨h5, h6⟩ := He.ba h
  have X := xfB_ok h6
  exact ⟨⟨h1, X.ga, X.gg, X.exC, He.eqO_ok h2, He.eqO_ok h3, of_decide_eq_true h4, of_decide_eq_true h5⟩, X⟩
/-! ### the text's classes: exceptions from 1000 on -/
def clsX (en : List Str) (K : PySem.W.Frag) (c : Nat) : Addr := He.ga K (en.getD (c - 1000) "")
abbrev GX (en : List Str) (K : PySem.W.Frag) : Gd := ⟨K, clsX en K, fun _ => 0, []⟩
def ktX (n : Nat) (sb : Nat → Ty → Bool) (ts : List Ty) : Kt := ⟨fun c => decide (1000 ≤ c ∧ c < 1000 + n), fun a b => match a, b with
  | .b x, .b y => subB x y
  | .o c, t => if 1000 ≤ c ∧ c < 1000 + n ∧ t ∈ ts then some (sb c t) else none
  | _, _ => none⟩
def ktxB (en : List Str) (sb : Nat → Ty → Bool) (ts : List Ty) (K : PySem.W.Frag) : Bool := (List.range en.length).all fun i => etB K (clsX en K (1000 + i)) && ts.all fun t => deB (PySem.W.kitOne K (.ref (clsX en K (1000 + i))) (tyVal (GX en K) t)) (some (sb (1000 + i) t))
theorem ktX_ok {en : List Str} {sb : Nat → Ty → Bool} {ts : List Ty} {K : PySem.W.Frag} (h : ktxB en sb ts K = true) (hid : List Addr) : KtOk ((GX en K).at hid) (ktX en.length sb ts) := by
  have at_ : ∀ c, 1000 ≤ c ∧ c < 1000 + en.length → etB K (clsX en K c) = true ∧ ∀ t ∈ ts, PySem.W.kitOne K (.ref (clsX en K c)) (tyVal (GX en K) t) = some (sb c t) := fun c hc => by
    have z := List.all_eq_true.mp h (c - 1000) (List.mem_range.mpr (by omega))
    rw [show 1000 + (c - 1000) = c by omega] at z
    obtain ⟨z1, z2⟩ := He.ba z
    exact ⟨z1, fun t ht => of_decide_eq_true (List.all_eq_true.mp z2 t ht)⟩
  have tv : ∀ t, tyVal ((GX en K).at hid) t = tyVal (GX en K) t := fun t => by cases t <;> rfl
  refine ⟨fun c hc hx => ?_, fun c hc _ => ?_, fun a b v e => ?_⟩
  · have hc := of_decide_eq_true hc
    have : isEx c = true := Nat.ble_eq.mpr hc.1
    rw [this] at hx
    cases hx
  · exact (etB_ok (at_ c (of_decide_eq_true hc)).1).1
  · cases a with
    | b x =>
      cases b with
      | b y => exact kit_ty (subB_kit e)
      | o _ => cases e
    | o c =>
      have e' : (if 1000 ≤ c ∧ c < 1000 + en.length ∧ b ∈ ts then some (sb c b) else none) = some v := by cases b <;> exact e
      by_cases q : 1000 ≤ c ∧ c < 1000 + en.length ∧ b ∈ ts
      · rw [if_pos q] at e'
        cases e'
        rw [tv]
        exact (at_ c ⟨q.1, q.2.1⟩).2 b q.2.2
      · rw [if_neg q] at e'; cases e'
/-- attributes of exceptions, by a list of what may be read -/
def kfX (n : Nat) (fs : List (Nat × Str)) : Nat → Str → Bool := fun c f => decide (1000 ≤ c ∧ c < 1000 + n) && fs.contains (c, f)
def kfxB (en : List Str) (fs : List (Nat × Str)) (K : PySem.W.Frag) : Bool := fs.all fun p => He.eqO (PySem.W.findIn K (.ref (clsX en K p.1)) p.2) (some none)
theorem kfX_ok {en : List Str} {sb : Nat → Ty → Bool} {ts : List Ty} {fs : List (Nat × Str)} {K : PySem.W.Frag} (h0 : ktxB en sb ts K = true) (h : kfxB en fs K = true) (hid : List Addr) : KfOk ((GX en K).at hid) (kfX en.length fs) := by
  refine ⟨fun c f e hx => ?_, fun c f e _ => ?_⟩
  · have hc := of_decide_eq_true (He.ba e).1
    have : isEx c = true := Nat.ble_eq.mpr hc.1
    rw [this] at hx
    cases hx
  · obtain ⟨e1, e2⟩ := He.ba e
    have hc := of_decide_eq_true e1
    have z := List.all_eq_true.mp h0 (c - 1000) (List.mem_range.mpr (by omega))
    rw [show 1000 + (c - 1000) = c by omega] at z
    exact ⟨(etB_ok (He.ba z).1).2, He.eqO_ok (List.all_eq_true.mp h (c, f) (List.contains_iff_mem.mp e2))⟩
theorem exc_of {G : Gd} {X : Cx} {c n : Nat} {fs : List (Str × Nat)} {ps : List Str} {fd : FuncData} {x y : Str} {fsn : List Str} (hx : isEx c = true) (hc : G.cls c = He.ga G.K x) (E : EcOk G.K x y fsn) (hf : ∀ f ∈ fs, f.1 ∈ fsn)
    (F : FnOk X.prog X.w G.K X.mg X.base (L2.CX X.prog X.w) 1 (He.fAd G.K (y, some "__init__")) fd ps (exSp G.K (He.ga G.K y) n fs)) : ExC G X c n fs ps fd :=
  ⟨hx, by rw [hc]; exact E.T, ⟨_, _, by rw [hc]; exact E.i, E.t, by rw [hc]; exact E.s, F⟩, fun f h => by rw [hc]; exact E.no f.1 (hf f h)⟩
theorem pss_none {X : Cx} : Passes (L2.CX X.prog X.w) X (fun _ _ _ => False) := by
  rintro pins σ H s e s' I ⟨a, B, H', cls, d, ea, fl, hok, ub, na, os, ag, he⟩
  exact he.elim
/-- two fields stored, as one -/
theorem upd_two {H : Hp} {x dx : Addr} {o o1 o2 : HO} (h : dx ≠ x) : upd (upd (upd H dx o1) x o) dx o2 = upd (upd H dx o2) x o := by
  funext b
  by_cases h1 : b = dx
  · subst h1
    rw [upd_same, upd_ne h, upd_same]
  · rw [upd_ne h1]
    by_cases h2 : b = x
    · subst h2
      rw [upd_same, upd_same]
    · rw [upd_ne h2, upd_ne h2, upd_ne h1, upd_ne h1]
end Iv
namespace Lw
open PySem PySem.Spec PyProof.Rows L2 Iv NdefX
def top (i : Nat) : Stmt := PySem.Challenge.pw_saidenough_k00_errors_keep_their_fields.main.body.getD i (.Pass ⟨0, 0, 0, 0⟩)
abbrev s0 : Stmt := top 27
abbrev d0 : He.DefD := ⟨("_law_pen", none), "_law_pen", "_law_pen", defArgs s0, defBody s0, defScope s0, [], []⟩
abbrev s1 : Stmt := top 28
abbrev d1 : He.DefD := ⟨("_law_draw", none), "_law_draw", "_law_draw", defArgs s1, defBody s1, defScope s1, [], []⟩
abbrev s2 : Stmt := top 29
abbrev d2 : He.DefD := ⟨("_law_pick", none), "_law_pick", "_law_pick", defArgs s2, defBody s2, defScope s2, [], []⟩
abbrev s3 : Stmt := top 30
abbrev d3 : He.DefD := ⟨("_law_by_place", none), "_law_by_place", "_law_by_place", defArgs s3, defBody s3, defScope s3, [], []⟩
abbrev s4 : Stmt := top 31
abbrev d4 : He.DefD := ⟨("_law_by_name", none), "_law_by_name", "_law_by_name", defArgs s4, defBody s4, defScope s4, [], []⟩
abbrev s5 : Stmt := top 32
abbrev d5 : He.DefD := ⟨("_law_fields", none), "_law_fields", "_law_fields", defArgs s5, defBody s5, defScope s5, [], []⟩
abbrev s6 : Stmt := top 33
abbrev d6 : He.DefD := ⟨("_law_kin", none), "_law_kin", "_law_kin", defArgs s6, defBody s6, defScope s6, [], []⟩
abbrev s7 : Stmt := top 34
abbrev d7 : He.DefD := ⟨("_law_is_plain", none), "_law_is_plain", "_law_is_plain", defArgs s7, defBody s7, defScope s7, [], []⟩
abbrev s8 : Stmt := top 35
abbrev d8 : He.DefD := ⟨("_law_all_right", none), "_law_all_right", "_law_all_right", defArgs s8, defBody s8, defScope s8, [], []⟩
abbrev s9 : Stmt := top 36
abbrev d9 : He.DefD := ⟨("law", none), "law", "law", defArgs s9, defBody s9, defScope s9, [], []⟩
def fn0 : List He.DefD := [d0, d1, d2, d3, d4, d5, d6, d7, d8, d9]
def fn : List He.DefD := fn0
def fa0 : List He.Fa := [.glo "_law_pen", .glo "_law_draw", .glo "_law_pick", .glo "_law_by_place", .glo "_law_by_name", .glo "_law_fields", .glo "_law_kin", .glo "_law_is_plain", .glo "_law_all_right", .glo "law", .glo "SaidError", .glo "BadRoom", .glo "BadView", .glo "BadSaying", .glo "BadDeed", .glo "BadSpot", .glo "BadMachine", .glo "BadStock", .glo "BadQuestion", .glo "BadBook", .glo "BadNumbers", .glo "BadPaper", .glo "Missing", .glo "NoWorld", .glo "NoFact", .glo "NoOnlooker", .glo "NoState", .glo "NoTick", .glo "Twice", .glo "UnlikeRooms"]
def fa1 : List He.Fa := [.glo "Refused", .glo "Nothing", .glo "TooMany", .glo "BadText", .glo "BadLine", .free "ArithmeticError", .free "AttributeError", .free "LookupError", .free "RuntimeError", .free "TypeError", .free "ValueError", .free "abs", .free "enumerate", .free "int", .free "isinstance", .free "len", .free "range", .free "repr", .exc "SaidError"]
def fa : List He.Fa := fa0 ++ fa1
abbrev z0 : Stmt := inClass (top 2) 0
abbrev y0 : DefY := ⟨("BadRoom", "__init__"), "__init__", "BadRoom.__init__", defArgs z0, defBody z0, defScope z0⟩
abbrev z1 : Stmt := inClass (top 3) 0
abbrev y1 : DefY := ⟨("BadView", "__init__"), "__init__", "BadView.__init__", defArgs z1, defBody z1, defScope z1⟩
abbrev z2 : Stmt := inClass (top 4) 0
abbrev y2 : DefY := ⟨("BadSaying", "__init__"), "__init__", "BadSaying.__init__", defArgs z2, defBody z2, defScope z2⟩
abbrev z3 : Stmt := inClass (top 5) 0
abbrev y3 : DefY := ⟨("BadDeed", "__init__"), "__init__", "BadDeed.__init__", defArgs z3, defBody z3, defScope z3⟩
abbrev z4 : Stmt := inClass (top 6) 0
abbrev y4 : DefY := ⟨("BadSpot", "__init__"), "__init__", "BadSpot.__init__", defArgs z4, defBody z4, defScope z4⟩
abbrev z5 : Stmt := inClass (top 7) 0
abbrev y5 : DefY := ⟨("BadMachine", "__init__"), "__init__", "BadMachine.__init__", defArgs z5, defBody z5, defScope z5⟩
abbrev z6 : Stmt := inClass (top 8) 0
abbrev y6 : DefY := ⟨("BadStock", "__init__"), "__init__", "BadStock.__init__", defArgs z6, defBody z6, defScope z6⟩
abbrev z7 : Stmt := inClass (top 9) 0
abbrev y7 : DefY := ⟨("BadQuestion", "__init__"), "__init__", "BadQuestion.__init__", defArgs z7, defBody z7, defScope z7⟩
abbrev z8 : Stmt := inClass (top 10) 0
abbrev y8 : DefY := ⟨("BadBook", "__init__"), "__init__", "BadBook.__init__", defArgs z8, defBody z8, defScope z8⟩
abbrev z9 : Stmt := inClass (top 11) 0
abbrev y9 : DefY := ⟨("BadNumbers", "__init__"), "__init__", "BadNumbers.__init__", defArgs z9, defBody z9, defScope z9⟩
abbrev z10 : Stmt := inClass (top 12) 0
abbrev y10 : DefY := ⟨("BadPaper", "__init__"), "__init__", "BadPaper.__init__", defArgs z10, defBody z10, defScope z10⟩
abbrev z11 : Stmt := inClass (top 13) 0
abbrev y11 : DefY := ⟨("Missing", "__init__"), "__init__", "Missing.__init__", defArgs z11, defBody z11, defScope z11⟩
abbrev z12 : Stmt := inClass (top 19) 0
abbrev y12 : DefY := ⟨("Twice", "__init__"), "__init__", "Twice.__init__", defArgs z12, defBody z12, defScope z12⟩
abbrev z13 : Stmt := inClass (top 20) 0
abbrev y13 : DefY := ⟨("UnlikeRooms", "__init__"), "__init__", "UnlikeRooms.__init__", defArgs z13, defBody z13, defScope z13⟩
abbrev z14 : Stmt := inClass (top 21) 0
abbrev y14 : DefY := ⟨("Refused", "__init__"), "__init__", "Refused.__init__", defArgs z14, defBody z14, defScope z14⟩
abbrev z15 : Stmt := inClass (top 22) 0
abbrev y15 : DefY := ⟨("Nothing", "__init__"), "__init__", "Nothing.__init__", defArgs z15, defBody z15, defScope z15⟩
abbrev z16 : Stmt := inClass (top 23) 0
abbrev y16 : DefY := ⟨("TooMany", "__init__"), "__init__", "TooMany.__init__", defArgs z16, defBody z16, defScope z16⟩
abbrev z17 : Stmt := inClass (top 24) 0
abbrev y17 : DefY := ⟨("BadText", "__init__"), "__init__", "BadText.__init__", defArgs z17, defBody z17, defScope z17⟩
abbrev z18 : Stmt := inClass (top 25) 0
abbrev y18 : DefY := ⟨("BadLine", "__init__"), "__init__", "BadLine.__init__", defArgs z18, defBody z18, defScope z18⟩
def fy0 : List DefY := [y0, y1, y2, y3, y4, y5, y6, y7, y8, y9, y10, y11, y12, y13, y14, y15, y16, y17, y18]
def fy : List DefY := fy0
def en0 : List PySem.Str := ["SaidError", "BadRoom", "BadView", "BadSaying", "BadDeed", "BadSpot", "BadMachine", "BadStock", "BadQuestion", "BadBook", "BadNumbers", "BadPaper", "Missing", "NoWorld", "NoFact", "NoOnlooker", "NoState", "NoTick", "Twice", "UnlikeRooms", "Refused", "Nothing", "TooMany", "BadText", "BadLine"]
def en : List PySem.Str := en0
/-- which class is under which -/
def sbN : Nat → List Nat
  | 1000 => [1000]
  | 1001 => [1001, 1000]
  | 1002 => [1002, 1000]
  | 1003 => [1003, 1000]
  | 1004 => [1004, 1000]
  | 1005 => [1005, 1000]
  | 1006 => [1006, 1000]
  | 1007 => [1007, 1000]
  | 1008 => [1008, 1000]
  | 1009 => [1009, 1000]
  | 1010 => [1010, 1000]
  | 1011 => [1011, 1000]
  | 1012 => [1012, 1000]
  | 1013 => [1013, 1012, 1000]
  | 1014 => [1014, 1012, 1000]
  | 1015 => [1015, 1012, 1000]
  | 1016 => [1016, 1012, 1000]
  | 1017 => [1017, 1012, 1000]
  | 1018 => [1018, 1000]
  | 1019 => [1019, 1000]
  | 1020 => [1020, 1000]
  | 1021 => [1021, 1000]
  | 1022 => [1022, 1000]
  | 1023 => [1023, 1000]
  | 1024 => [1024, 1000]
  | _ => []
def sb (c : Nat) : Ty → Bool
  | .o d => (sbN c).contains d
  | .b n => n == "ValueError"
def ts : List Ty := [.b "ValueError", .b "LookupError", .b "TypeError", .b "ArithmeticError", .b "RuntimeError", .b "AttributeError", .o 1000, .o 1001, .o 1002, .o 1003, .o 1004, .o 1005, .o 1006, .o 1007, .o 1008, .o 1009, .o 1010, .o 1011, .o 1012, .o 1013, .o 1014, .o 1015, .o 1016, .o 1017, .o 1018, .o 1019, .o 1020, .o 1021, .o 1022, .o 1023, .o 1024]
def kt : Kt := ktX 25 sb ts
def afs : List (Nat × PySem.Str) := [(1001, "part"), (1002, "part"), (1003, "part"), (1004, "part"), (1005, "part"), (1006, "part"), (1007, "part"), (1008, "part"), (1009, "part"), (1010, "part"), (1011, "part"), (1012, "name"), (1013, "name"), (1014, "name"), (1015, "name"), (1016, "name"), (1017, "name"), (1018, "name"), (1019, "part"), (1020, "at"), (1022, "most"), (1022, "what"), (1023, "word"), (1023, "line"), (1024, "error"), (1024, "line")]
def kf : Nat → PySem.Str → Bool := kfX 25 afs
def ecs0 : List (PySem.Str × PySem.Str × List PySem.Str) := [("BadRoom", "BadRoom", ["part"]), ("BadView", "BadView", ["part"]), ("BadSaying", "BadSaying", ["part"]), ("BadDeed", "BadDeed", ["part"]), ("BadSpot", "BadSpot", ["part"]), ("BadMachine", "BadMachine", ["part"]), ("BadStock", "BadStock", ["part"]), ("BadQuestion", "BadQuestion", ["part"]), ("BadBook", "BadBook", ["part"]), ("BadNumbers", "BadNumbers", ["part"]), ("BadPaper", "BadPaper", ["part"]), ("Missing", "Missing", ["name"]), ("NoWorld", "Missing", ["name"]), ("NoFact", "Missing", ["name"]), ("NoOnlooker", "Missing", ["name"]), ("NoState", "Missing", ["name"]), ("NoTick", "Missing", ["name"]), ("Twice", "Twice", ["name"]), ("UnlikeRooms", "UnlikeRooms", ["part"]), ("Refused", "Refused", ["at"]), ("Nothing", "Nothing", []), ("TooMany", "TooMany", ["most", "what"]), ("BadText", "BadText", ["word", "line"]), ("BadLine", "BadLine", ["error", "line"])]
def ecs : List (PySem.Str × PySem.Str × List PySem.Str) := ecs0
def ex (K : PySem.W.Frag) : Bool := (true) && (ktxB en sb ts K && (kfxB en afs K && ecs.all fun e => ecB K e.1 e.2.1 e.2.2))
def b0 (F : Nat → List D → Ev D) : DS :=
  dRet (dCel (dCons (dLc (dIt (dSli (dVar 0) (dNoP) (dPart (dLit (.int 60))))) (gVar 1) (dYes) (dBlt (oneO intD) (dCons (dVar 1) (dNil))) [1]) (dCons (dLit (.int 0)) (dCons (dLit (.int 0)) (dNil)))))
def b1 (F : Nat → List D → Ev D) : DS :=
  dSeq (dIf (dTru truO (dOp (pureO gtO) (dOp (pureO idxM) (dVar 0) (dLit (.int 2))) (dLit (.int 0)))) (dSeq (dAsg (dOp (pureO modO) (dBlt (oneO intD) (dCons (dOp (pureO idxM) (dVar 0) (dLit (.int 2))) (dNil))) (dVar 1)) (gVar 2)) (dSeq (dAsg (dOp (pureO fdivO) (dBlt (oneO intD) (dCons (dOp (pureO idxM) (dVar 0) (dLit (.int 2))) (dNil))) (dVar 1)) (gIx (dVar 0) (dLit (.int 2)))) (dRet (dVar 2)))) (dNext)) (dSeq (dAsg (dOp (pureO idxM) (dVar 0) (dLit (.int 1))) (gVar 3)) (dSeq (dAsg (dOp (pureO addO) (dVar 3) (dLit (.int 1))) (gIx (dVar 0) (dLit (.int 1)))) (dSeq (dAsg (dOp (pureO addO) (dOp (pureO mulO) (dLit (.int 58147)) (dVar 3)) (dLit (.int 911))) (gVar 4)) (dSeq (dIf (dTru truO (dOp (pureO neO) (dOp (pureO idxM) (dVar 0) (dLit (.int 0))) (dLst (dNil)))) (dAsg (dOp (pureO idxM) (dOp (pureO idxM) (dVar 0) (dLit (.int 0))) (dOp (pureO modO) (dBlt (oneO intD) (dCons (dVar 3) (dNil))) (dBlt lenO (dCons (dOp (pureO idxM) (dVar 0) (dLit (.int 0))) (dNil))))) (gVar 4)) (dNext)) (dSeq (dIf (dAndT (dTru truO (dOp (pureO ltO) (dVar 3) (dBlt lenO (dCons (dOp (pureO idxM) (dVar 0) (dLit (.int 0))) (dNil))))) (dTru truO (dOp (pureO geO) (dBlt (oneO absD) (dCons (dVar 4) (dNil))) (dOp (pureO powO) (dLit (.int 10)) (dLit (.int 18)))))) (dSeq (dAsg (dOp (pureO addO) (dOp (pureO mulO) (dLit (.int 2)) (dOp (pureO subO) (dBlt (oneO absD) (dCons (dVar 4) (dNil))) (dOp (pureO powO) (dLit (.int 10)) (dLit (.int 18))))) (dBlt (oneO intD) (dCons (dOp (pureO ltO) (dVar 4) (dLit (.int 0))) (dNil)))) (gVar 5)) (dSeq (dAsg (dOp (pureO fdivO) (dBlt (oneO intD) (dCons (dVar 5) (dNil))) (dVar 1)) (gIx (dVar 0) (dLit (.int 2)))) (dRet (dOp (pureO modO) (dBlt (oneO intD) (dCons (dVar 5) (dNil))) (dVar 1))))) (dNext)) (dSeq (dAsg (dOp (pureO modO) (dBlt (oneO intD) (dCons (dOp (pureO powO) (dOp (pureO addO) (dOp (pureO addO) (dOp (pureO modO) (dBlt (oneO intD) (dCons (dVar 4) (dNil))) (dLit (.int 2147483587))) (dOp (pureO mulO) (dLit (.int 70207)) (dVar 3))) (dLit (.int 911))) (dLit (.int 5))) (dNil))) (dLit (.int 2147483629))) (gVar 6)) (dSeq (dAsg (dOp (pureO modO) (dBlt (oneO intD) (dCons (dOp (pureO powO) (dOp (pureO addO) (dOp (pureO addO) (dOp (pureO mulO) (dVar 6) (dOp (pureO addO) (dOp (pureO mulO) (dLit (.int 2)) (dVar 3)) (dLit (.int 1733)))) (dOp (pureO mulO) (dOp (pureO mulO) (dLit (.int 58147)) (dVar 3)) (dVar 3))) (dLit (.int 70207))) (dLit (.int 3))) (dNil))) (dLit (.int 2147483563))) (gVar 6)) (dRet (dOp (pureO modO) (dBlt (oneO intD) (dCons (dOp (pureO fdivO) (dVar 6) (dLit (.int 64))) (dNil))) (dVar 1))))))))))
def b2 (F : Nat → List D → Ev D) : DS :=
  dRet (dOp (pureO idxM) (dVar 1) (dCall 2 [] (F 1) (dCons (dVar 0) (dCons (dBlt lenO (dCons (dVar 1) (dNil))) (dNil)))))
def b3 (F : Nat → List D → Ev D) : DS :=
  dSeq (dAsg (dLst (dCons (dExn 1001 1 [("part", 0)] (dCons (dVar 0) (dNil))) (dCons (dExn 1002 1 [("part", 0)] (dCons (dVar 0) (dNil))) (dCons (dExn 1003 1 [("part", 0)] (dCons (dVar 0) (dNil))) (dCons (dExn 1004 1 [("part", 0)] (dCons (dVar 0) (dNil))) (dCons (dExn 1005 1 [("part", 0)] (dCons (dVar 0) (dNil))) (dCons (dExn 1006 1 [("part", 0)] (dCons (dVar 0) (dNil))) (dCons (dExn 1007 1 [("part", 0)] (dCons (dVar 0) (dNil))) (dNil))))))))) (gVar 2)) (dSeq (dAsg (dOp (pureO addO) (dVar 2) (dLst (dCons (dExn 1008 1 [("part", 0)] (dCons (dVar 0) (dNil))) (dCons (dExn 1009 1 [("part", 0)] (dCons (dVar 0) (dNil))) (dCons (dExn 1010 1 [("part", 0)] (dCons (dVar 0) (dNil))) (dCons (dExn 1011 1 [("part", 0)] (dCons (dVar 0) (dNil))) (dCons (dExn 1019 1 [("part", 0)] (dCons (dVar 0) (dNil))) (dNil)))))))) (gVar 2)) (dSeq (dAsg (dOp (pureO addO) (dVar 2) (dLst (dCons (dExn 1013 1 [("name", 0)] (dCons (dVar 0) (dNil))) (dCons (dExn 1014 1 [("name", 0)] (dCons (dVar 0) (dNil))) (dCons (dExn 1015 1 [("name", 0)] (dCons (dVar 0) (dNil))) (dCons (dExn 1016 1 [("name", 0)] (dCons (dVar 0) (dNil))) (dCons (dExn 1017 1 [("name", 0)] (dCons (dVar 0) (dNil))) (dCons (dExn 1018 1 [("name", 0)] (dCons (dVar 0) (dNil))) (dCons (dExn 1020 1 [("at", 0)] (dCons (dVar 0) (dNil))) (dNil)))))))))) (gVar 2)) (dRet (dOp (pureO addO) (dVar 2) (dLst (dCons (dExn 1022 2 [("most", 1), ("what", 0)] (dCons (dVar 0) (dCons (dVar 1) (dNil)))) (dCons (dExn 1023 2 [("word", 1), ("line", 0)] (dCons (dVar 0) (dCons (dVar 1) (dNil)))) (dCons (dExn 1024 2 [("error", 1), ("line", 0)] (dCons (dVar 0) (dCons (dVar 1) (dNil)))) (dCons (dLit (.ins 1021 [] [])) (dNil))))))))))
def b4 (F : Nat → List D → Ev D) : DS :=
  dSeq (dAsg (dLst (dCons (dExnK 1001 1 [("part", 0)] [0] (dCons (dVar 0) (dNil))) (dCons (dExnK 1002 1 [("part", 0)] [0] (dCons (dVar 0) (dNil))) (dCons (dExnK 1003 1 [("part", 0)] [0] (dCons (dVar 0) (dNil))) (dCons (dExnK 1004 1 [("part", 0)] [0] (dCons (dVar 0) (dNil))) (dCons (dExnK 1005 1 [("part", 0)] [0] (dCons (dVar 0) (dNil))) (dNil))))))) (gVar 2)) (dSeq (dAsg (dOp (pureO addO) (dVar 2) (dLst (dCons (dExnK 1006 1 [("part", 0)] [0] (dCons (dVar 0) (dNil))) (dCons (dExnK 1007 1 [("part", 0)] [0] (dCons (dVar 0) (dNil))) (dCons (dExnK 1008 1 [("part", 0)] [0] (dCons (dVar 0) (dNil))) (dCons (dExnK 1009 1 [("part", 0)] [0] (dCons (dVar 0) (dNil))) (dNil))))))) (gVar 2)) (dSeq (dAsg (dOp (pureO addO) (dVar 2) (dLst (dCons (dExnK 1010 1 [("part", 0)] [0] (dCons (dVar 0) (dNil))) (dCons (dExnK 1011 1 [("part", 0)] [0] (dCons (dVar 0) (dNil))) (dCons (dExnK 1019 1 [("part", 0)] [0] (dCons (dVar 0) (dNil))) (dCons (dExnK 1013 1 [("name", 0)] [0] (dCons (dVar 0) (dNil))) (dCons (dExnK 1014 1 [("name", 0)] [0] (dCons (dVar 0) (dNil))) (dNil)))))))) (gVar 2)) (dSeq (dAsg (dOp (pureO addO) (dVar 2) (dLst (dCons (dExnK 1015 1 [("name", 0)] [0] (dCons (dVar 0) (dNil))) (dCons (dExnK 1016 1 [("name", 0)] [0] (dCons (dVar 0) (dNil))) (dCons (dExnK 1017 1 [("name", 0)] [0] (dCons (dVar 0) (dNil))) (dCons (dExnK 1018 1 [("name", 0)] [0] (dCons (dVar 0) (dNil))) (dCons (dExnK 1020 1 [("at", 0)] [0] (dCons (dVar 0) (dNil))) (dNil)))))))) (gVar 2)) (dRet (dOp (pureO addO) (dVar 2) (dLst (dCons (dExnK 1022 2 [("most", 1), ("what", 0)] [1, 0] (dCons (dVar 1) (dCons (dVar 0) (dNil)))) (dCons (dExnK 1023 2 [("word", 1), ("line", 0)] [1, 0] (dCons (dVar 1) (dCons (dVar 0) (dNil)))) (dCons (dExnK 1024 2 [("error", 1), ("line", 0)] [1, 0] (dCons (dVar 1) (dCons (dVar 0) (dNil)))) (dCons (dLit (.ins 1021 [] [])) (dNil)))))))))))
def b5 (F : Nat → List D → Ev D) : DS :=
  dSeq (dIf (dTru truO (dOp (pureO ltO) (dVar 1) (dLit (.int 12)))) (dRet (dTup (dCons (dFld kf "part" (dVar 0)) (dNil)))) (dNext)) (dSeq (dIf (dTru truO (dOp (pureO ltO) (dVar 1) (dLit (.int 18)))) (dRet (dTup (dCons (dFld kf "name" (dVar 0)) (dNil)))) (dNext)) (dSeq (dIf (dTru truO (dOp (pureO ltO) (dVar 1) (dLit (.int 20)))) (dRet (dIte (dTru truO (dOp (pureO eqO) (dVar 1) (dLit (.int 18)))) (dTup (dCons (dFld kf "at" (dVar 0)) (dNil))) (dTup (dCons (dFld kf "what" (dVar 0)) (dCons (dFld kf "most" (dVar 0)) (dNil)))))) (dNext)) (dSeq (dIf (dTru truO (dOp (pureO ltO) (dVar 1) (dLit (.int 22)))) (dRet (dIte (dTru truO (dOp (pureO eqO) (dVar 1) (dLit (.int 20)))) (dTup (dCons (dFld kf "line" (dVar 0)) (dCons (dFld kf "word" (dVar 0)) (dNil)))) (dTup (dCons (dFld kf "line" (dVar 0)) (dCons (dFld kf "error" (dVar 0)) (dNil)))))) (dNext)) (dRet (dTup (dNil))))))
def b6 (F : Nat → List D → Ev D) : DS :=
  dSeq (dAsg (dLst (dCons (dIsi kt [.o 1001] (dVar 0)) (dCons (dIsi kt [.o 1002] (dVar 0)) (dCons (dIsi kt [.o 1003] (dVar 0)) (dCons (dIsi kt [.o 1004] (dVar 0)) (dNil)))))) (gVar 1)) (dSeq (dAsg (dOp (pureO addO) (dVar 1) (dLst (dCons (dIsi kt [.o 1005] (dVar 0)) (dCons (dIsi kt [.o 1006] (dVar 0)) (dCons (dIsi kt [.o 1007] (dVar 0)) (dNil)))))) (gVar 1)) (dSeq (dAsg (dOp (pureO addO) (dVar 1) (dLst (dCons (dIsi kt [.o 1008] (dVar 0)) (dCons (dIsi kt [.o 1009] (dVar 0)) (dCons (dIsi kt [.o 1010] (dVar 0)) (dNil)))))) (gVar 1)) (dSeq (dAsg (dOp (pureO addO) (dVar 1) (dLst (dCons (dIsi kt [.o 1011] (dVar 0)) (dCons (dIsi kt [.o 1019] (dVar 0)) (dCons (dIsi kt [.o 1013] (dVar 0)) (dNil)))))) (gVar 1)) (dSeq (dAsg (dOp (pureO addO) (dVar 1) (dLst (dCons (dIsi kt [.o 1014] (dVar 0)) (dCons (dIsi kt [.o 1015] (dVar 0)) (dCons (dIsi kt [.o 1016] (dVar 0)) (dNil)))))) (gVar 1)) (dSeq (dAsg (dOp (pureO addO) (dVar 1) (dLst (dCons (dIsi kt [.o 1017] (dVar 0)) (dCons (dIsi kt [.o 1018] (dVar 0)) (dCons (dIsi kt [.o 1020] (dVar 0)) (dNil)))))) (gVar 1)) (dSeq (dAsg (dOp (pureO addO) (dVar 1) (dLst (dCons (dIsi kt [.o 1022] (dVar 0)) (dCons (dIsi kt [.o 1023] (dVar 0)) (dCons (dIsi kt [.o 1024] (dVar 0)) (dNil)))))) (gVar 1)) (dRet (dOp (pureO addO) (dVar 1) (dLst (dCons (dIsi kt [.o 1021] (dVar 0)) (dNil)))))))))))
def b7 (F : Nat → List D → Ev D) : DS :=
  dSeq (dIf (dOrT (dNotT (dTru truO (dIsi kt [.o 1000] (dVar 0)))) (dNotT (dTru truO (dIsi kt [.b "ValueError"] (dVar 0))))) (dRet (dLit (.bl false))) (dNext)) (dSeq (dIf (dOrT (dTru truO (dIsi kt [.b "LookupError"] (dVar 0))) (dOrT (dTru truO (dIsi kt [.b "TypeError"] (dVar 0))) (dTru truO (dIsi kt [.b "ArithmeticError"] (dVar 0))))) (dRet (dLit (.bl false))) (dNext)) (dRet (dAnd truO (dNot truO (dIsi kt [.b "RuntimeError"] (dVar 0))) (dNot truO (dIsi kt [.b "AttributeError"] (dVar 0))))))
def b8 (F : Nat → List D → Ev D) : DS :=
  dSeq (dFor (dEnum (dVar 0)) (gTupN [3, 4]) (dSeq (dAsg (dIte (dTru truO (dOp (pureO ltO) (dVar 3) (dLit (.int 19)))) (dTup (dCons (dVar 1) (dNil))) (dIte (dTru truO (dOp (pureO ltO) (dVar 3) (dLit (.int 22)))) (dTup (dCons (dVar 1) (dCons (dVar 2) (dNil)))) (dTup (dNil)))) (gVar 5)) (dSeq (dIf (dOrT (dTru truO (dOp (pureO neO) (dBlt (oneO (reprV 16)) (dCons (dCall 2 [] (F 5) (dCons (dVar 4) (dCons (dVar 3) (dNil)))) (dNil))) (dBlt (oneO (reprV 16)) (dCons (dVar 5) (dNil))))) (dTru truO (dOp (pureO neO) (dCall 1 [] (F 6) (dCons (dVar 4) (dNil))) (dLc (dRng1 (dLit (.int 23))) (gVar 6) (dYes) (dOp (pureO eqO) (dVar 3) (dVar 6)) [6])))) (dRet (dLit (.bl false))) (dNext)) (dIf (dOrT (dNotT (dTru truO (dCall 1 [] (F 7) (dCons (dVar 4) (dNil))))) (dTru truO (dOp (pureO neO) (dIsi kt [.o 1012] (dVar 4)) (dChain leO ltO (dLit (.int 12)) (dVar 3) (dLit (.int 17)))))) (dRet (dLit (.bl false))) (dNext))))) (dRet (dLit (.bl true)))
def b9 (F : Nat → List D → Ev D) : DS :=
  dSeq (dAsg (dCall 1 [] (F 0) (dCons (dVar 0) (dNil))) (gVar 1)) (dSeq (dAsg (dCall 2 [] (F 2) (dCons (dVar 1) (dCons (dLst (dCons (dLit .non) (dCons (dLit (.int 0)) (dCons (dLit (.str "room")) (dCons (dTup (dCons (dLit (.int 1)) (dCons (dLit (.int 2)) (dNil)))) (dCons (dLst (dCons (dLit (.int 1)) (dNil))) (dCons (dDicE "a" (dLst (dCons (dLit (.int 1)) (dNil)))) (dCons (dLit (.bl true)) (dCons (dLit (.str "")) (dCons (dNeg (dOp (pureO powO) (dLit (.int 10)) (dLit (.int 60)))) (dCons (dLit (.str "u.said")) (dNil)))))))))))) (dNil)))) (gVar 2)) (dSeq (dAsg (dCall 2 [] (F 2) (dCons (dVar 1) (dCons (dLst (dCons (dLit (.str "")) (dCons (dLit (.int 5)) (dCons (dLit .non) (dCons (dLst (dCons (dLst (dNil)) (dNil))) (dCons (dTup (dCons (dLit (.str "x")) (dNil))) (dCons (dLit (.bl false)) (dCons (dLst (dCons (dLit (.int 2)) (dNil))) (dCons (dOp (pureO powO) (dLit (.int 10)) (dLit (.int 60))) (dCons (dLit (.int 0)) (dNil))))))))))) (dNil)))) (gVar 3)) (dSeq (dIf (dOrT (dNotT (dTru truO (dCall 3 [] (F 8) (dCons (dCall 2 [] (F 3) (dCons (dVar 2) (dCons (dVar 3) (dNil)))) (dCons (dVar 2) (dCons (dVar 3) (dNil))))))) (dNotT (dTru truO (dCall 3 [] (F 8) (dCons (dCall 2 [] (F 4) (dCons (dVar 2) (dCons (dVar 3) (dNil)))) (dCons (dVar 2) (dCons (dVar 3) (dNil)))))))) (dRet (dLit (.bl false))) (dNext)) (dSeq (dFor (dIt (dLst (dCons (dExn 1012 1 [("name", 0)] (dCons (dVar 2) (dNil))) (dCons (dExnK 1012 1 [("name", 0)] [0] (dCons (dVar 2) (dNil))) (dNil))))) (gVar 4) (dIf (dOrT (dTru truO (dOp (pureO neO) (dBlt (oneO (reprV 16)) (dCons (dFld kf "name" (dVar 4)) (dNil))) (dBlt (oneO (reprV 16)) (dCons (dVar 2) (dNil))))) (dOrT (dTru truO (dOp (pureO inO) (dLit (.bl true)) (dCall 1 [] (F 6) (dCons (dVar 4) (dNil))))) (dNotT (dTru truO (dCall 1 [] (F 7) (dCons (dVar 4) (dNil))))))) (dRet (dLit (.bl false))) (dNext))) (dSeq (dPar [5, 6] (dCons (dLit (.ins 1000 [] [])) (dCons (dExn 1024 2 [("error", 1), ("line", 0)] (dCons (dLit (.int 3)) (dCons (dExn 1023 2 [("word", 1), ("line", 0)] (dCons (dLit (.int 0)) (dCons (dCall 2 [] (F 1) (dCons (dVar 1) (dCons (dLit (.int 9)) (dNil)))) (dNil)))) (dNil)))) (dNil)))) (dSeq (dIf (dOrT (dNotT (dTru truO (dCall 1 [] (F 7) (dCons (dVar 5) (dNil))))) (dOrT (dTru truO (dOp (pureO inO) (dLit (.bl true)) (dCall 1 [] (F 6) (dCons (dVar 5) (dNil))))) (dTru truO (dIsi kt [.o 1012] (dVar 5))))) (dRet (dLit (.bl false))) (dNext)) (dRet (dAnd truO (dIsi kt [.o 1023] (dFld kf "error" (dVar 6))) (dAnd truO (dOp (pureO eqO) (dFld kf "line" (dFld kf "error" (dVar 6))) (dLit (.int 0))) (dOp (pureO eqO) (dFld kf "line" (dVar 6)) (dLit (.int 3))))))))))))
def Fs : Nat → Nat → List D → Ev D
  | 0, _ => fun _ => stuck
  | k + 1, i => match i with
    | 0 => runF true 2 (b0 (Fs k))
    | 1 => runF false 7 (b1 (Fs k))
    | 2 => runF false 2 (b2 (Fs k))
    | 3 => runF false 3 (b3 (Fs k))
    | 4 => runF false 3 (b4 (Fs k))
    | 5 => runF false 2 (b5 (Fs k))
    | 6 => runF false 2 (b6 (Fs k))
    | 7 => runF false 1 (b7 (Fs k))
    | 8 => runF false 7 (b8 (Fs k))
    | 9 => runF false 7 (b9 (Fs k))
    | _ => fun _ => stuck
def ps : Nat → List Str
  | 0 => ["_law_script"]
  | 1 => ["_law_pen_here", "_law_many"]
  | 2 => ["_law_pen_here", "_law_some"]
  | 3 => ["_law_one", "_law_two"]
  | 4 => ["_law_one", "_law_two"]
  | 5 => ["_law_error", "_law_place"]
  | 6 => ["_law_error"]
  | 7 => ["_law_error"]
  | 8 => ["_law_made", "_law_one", "_law_two"]
  | 9 => ["_law_script"]
  | _ => []
def dT (i : Nat) : He.DefD := fn.getD i d0
abbrev G0 (K : PySem.W.Frag) : Gd := GX en K
section
variable {P : Program} {w : World} {K : PySem.W.Frag} {mg : Str → Option Value} {base : Heap}
def Ih (P : Program) (w : World) (K : PySem.W.Frag) (mg : Str → Option Value) (base : Heap) (k : Nat) (i : Nat) : Prop := ∀ (hid : List Addr) (fd : FuncData), FunD K (dT i).name (dT i).qual (dT i).params (dT i).body (dT i).scope ((dT i).dvs K) ((dT i).kws K) (He.fAd K (dT i).at_) fd →
  FnS ((G0 K).at hid) P w mg base (k + 3) (He.fAd K (dT i).at_) fd (ps i) (Fs k i)
theorem in0 (c : SaysX P fa fn fy ex K) : ∃ fd, FnOk P w K mg base (L2.CX P w) 1 (He.fAd K ("BadRoom", some "__init__")) fd ["self", "part"] (exSp K (He.ga K "BadRoom") 1 [("part", 0)]) ∧ Binds K fd ["self", "part"] [] ∧ (∀ (s : Shared) (a : Value) (us : List Value), us.length = ([0] : List Nat).length → BindsTo s fd ⟨[a], (["part"] : List PySem.Str).zip us⟩ ((["self", "part"] : List PySem.Str).zip (a :: ([0] : List Nat).map fun i => us.getD i .none))) := by
  obtain ⟨cl, cc, fd, hf, SK⟩ := c.supF 0 (d := y0) rfl (by rfl) (by rfl) (by rfl)
  have S0 : NScope ["self", "part", "__class__"] ["self", "part"] ["__class__"] (defScope z0) := nscope_by (by decide +kernel)
  refine ⟨fd, ?_, ?_, ?_⟩
  · refine fnok_super (N := ["self", "part", "__class__"]) (ps := ["self", "part"]) hf S0 rfl SK rfl rfl (by rfl) (fun vs H Q E ⟨x, C, ws, ev, hl, _⟩ => by rw [ev, List.length_cons, hl]; rfl) (fun _ => _) (by intro _; rfl) (by intro _; rfl) (by intro _; rfl) ?_
    rintro A outer s H vs Q E hr ⟨x, C, ws, rfl, hl, SE, no, hx, q0, q1⟩
    match ws, hl with
    | [v0], _ =>
      refine ⟨⟨x, C, _, rfl, SE, hx⟩, _, pss_one (ps_ost (pv 0) (pv 1)), ?_⟩
      exact ⟨_, rfl, _, rfl, x, C, rfl, SE.T, no ("part", 0) (by simp), .inl ⟨hx, fun dx hd hne => q1 (by simp) dx hd hne⟩⟩
  · obtain ⟨oc, od, doc, pm, an, ct, osl, rfl, _⟩ := hf.ex
    refine .all fun us hl => ?_
    match us, hl with
    | [_, _], _ => rfl
  · obtain ⟨oc, od, doc, pm, an, ct, osl, rfl, _⟩ := hf.ex
    exact fun s a us hl => .of_eq (match us, hl with | [_], _ => rfl)
theorem in1 (c : SaysX P fa fn fy ex K) : ∃ fd, FnOk P w K mg base (L2.CX P w) 1 (He.fAd K ("BadView", some "__init__")) fd ["self", "part"] (exSp K (He.ga K "BadView") 1 [("part", 0)]) ∧ Binds K fd ["self", "part"] [] ∧ (∀ (s : Shared) (a : Value) (us : List Value), us.length = ([0] : List Nat).length → BindsTo s fd ⟨[a], (["part"] : List PySem.Str).zip us⟩ ((["self", "part"] : List PySem.Str).zip (a :: ([0] : List Nat).map fun i => us.getD i .none))) := by
  obtain ⟨cl, cc, fd, hf, SK⟩ := c.supF 1 (d := y1) rfl (by rfl) (by rfl) (by rfl)
  have S0 : NScope ["self", "part", "__class__"] ["self", "part"] ["__class__"] (defScope z1) := nscope_by (by decide +kernel)
  refine ⟨fd, ?_, ?_, ?_⟩
  · refine fnok_super (N := ["self", "part", "__class__"]) (ps := ["self", "part"]) hf S0 rfl SK rfl rfl (by rfl) (fun vs H Q E ⟨x, C, ws, ev, hl, _⟩ => by rw [ev, List.length_cons, hl]; rfl) (fun _ => _) (by intro _; rfl) (by intro _; rfl) (by intro _; rfl) ?_
    rintro A outer s H vs Q E hr ⟨x, C, ws, rfl, hl, SE, no, hx, q0, q1⟩
    match ws, hl with
    | [v0], _ =>
      refine ⟨⟨x, C, _, rfl, SE, hx⟩, _, pss_one (ps_ost (pv 0) (pv 1)), ?_⟩
      exact ⟨_, rfl, _, rfl, x, C, rfl, SE.T, no ("part", 0) (by simp), .inl ⟨hx, fun dx hd hne => q1 (by simp) dx hd hne⟩⟩
  · obtain ⟨oc, od, doc, pm, an, ct, osl, rfl, _⟩ := hf.ex
    refine .all fun us hl => ?_
    match us, hl with
    | [_, _], _ => rfl
  · obtain ⟨oc, od, doc, pm, an, ct, osl, rfl, _⟩ := hf.ex
    exact fun s a us hl => .of_eq (match us, hl with | [_], _ => rfl)
theorem in2 (c : SaysX P fa fn fy ex K) : ∃ fd, FnOk P w K mg base (L2.CX P w) 1 (He.fAd K ("BadSaying", some "__init__")) fd ["self", "part"] (exSp K (He.ga K "BadSaying") 1 [("part", 0)]) ∧ Binds K fd ["self", "part"] [] ∧ (∀ (s : Shared) (a : Value) (us : List Value), us.length = ([0] : List Nat).length → BindsTo s fd ⟨[a], (["part"] : List PySem.Str).zip us⟩ ((["self", "part"] : List PySem.Str).zip (a :: ([0] : List Nat).map fun i => us.getD i .none))) := by
  obtain ⟨cl, cc, fd, hf, SK⟩ := c.supF 2 (d := y2) rfl (by rfl) (by rfl) (by rfl)
  have S0 : NScope ["self", "part", "__class__"] ["self", "part"] ["__class__"] (defScope z2) := nscope_by (by decide +kernel)
  refine ⟨fd, ?_, ?_, ?_⟩
  · refine fnok_super (N := ["self", "part", "__class__"]) (ps := ["self", "part"]) hf S0 rfl SK rfl rfl (by rfl) (fun vs H Q E ⟨x, C, ws, ev, hl, _⟩ => by rw [ev, List.length_cons, hl]; rfl) (fun _ => _) (by intro _; rfl) (by intro _; rfl) (by intro _; rfl) ?_
    rintro A outer s H vs Q E hr ⟨x, C, ws, rfl, hl, SE, no, hx, q0, q1⟩
    match ws, hl with
    | [v0], _ =>
      refine ⟨⟨x, C, _, rfl, SE, hx⟩, _, pss_one (ps_ost (pv 0) (pv 1)), ?_⟩
      exact ⟨_, rfl, _, rfl, x, C, rfl, SE.T, no ("part", 0) (by simp), .inl ⟨hx, fun dx hd hne => q1 (by simp) dx hd hne⟩⟩
  · obtain ⟨oc, od, doc, pm, an, ct, osl, rfl, _⟩ := hf.ex
    refine .all fun us hl => ?_
    match us, hl with
    | [_, _], _ => rfl
  · obtain ⟨oc, od, doc, pm, an, ct, osl, rfl, _⟩ := hf.ex
    exact fun s a us hl => .of_eq (match us, hl with | [_], _ => rfl)
theorem in3 (c : SaysX P fa fn fy ex K) : ∃ fd, FnOk P w K mg base (L2.CX P w) 1 (He.fAd K ("BadDeed", some "__init__")) fd ["self", "part"] (exSp K (He.ga K "BadDeed") 1 [("part", 0)]) ∧ Binds K fd ["self", "part"] [] ∧ (∀ (s : Shared) (a : Value) (us : List Value), us.length = ([0] : List Nat).length → BindsTo s fd ⟨[a], (["part"] : List PySem.Str).zip us⟩ ((["self", "part"] : List PySem.Str).zip (a :: ([0] : List Nat).map fun i => us.getD i .none))) := by
  obtain ⟨cl, cc, fd, hf, SK⟩ := c.supF 3 (d := y3) rfl (by rfl) (by rfl) (by rfl)
  have S0 : NScope ["self", "part", "__class__"] ["self", "part"] ["__class__"] (defScope z3) := nscope_by (by decide +kernel)
  refine ⟨fd, ?_, ?_, ?_⟩
  · refine fnok_super (N := ["self", "part", "__class__"]) (ps := ["self", "part"]) hf S0 rfl SK rfl rfl (by rfl) (fun vs H Q E ⟨x, C, ws, ev, hl, _⟩ => by rw [ev, List.length_cons, hl]; rfl) (fun _ => _) (by intro _; rfl) (by intro _; rfl) (by intro _; rfl) ?_
    rintro A outer s H vs Q E hr ⟨x, C, ws, rfl, hl, SE, no, hx, q0, q1⟩
    match ws, hl with
    | [v0], _ =>
      refine ⟨⟨x, C, _, rfl, SE, hx⟩, _, pss_one (ps_ost (pv 0) (pv 1)), ?_⟩
      exact ⟨_, rfl, _, rfl, x, C, rfl, SE.T, no ("part", 0) (by simp), .inl ⟨hx, fun dx hd hne => q1 (by simp) dx hd hne⟩⟩
  · obtain ⟨oc, od, doc, pm, an, ct, osl, rfl, _⟩ := hf.ex
    refine .all fun us hl => ?_
    match us, hl with
    | [_, _], _ => rfl
  · obtain ⟨oc, od, doc, pm, an, ct, osl, rfl, _⟩ := hf.ex
    exact fun s a us hl => .of_eq (match us, hl with | [_], _ => rfl)
theorem in4 (c : SaysX P fa fn fy ex K) : ∃ fd, FnOk P w K mg base (L2.CX P w) 1 (He.fAd K ("BadSpot", some "__init__")) fd ["self", "part"] (exSp K (He.ga K "BadSpot") 1 [("part", 0)]) ∧ Binds K fd ["self", "part"] [] ∧ (∀ (s : Shared) (a : Value) (us : List Value), us.length = ([0] : List Nat).length → BindsTo s fd ⟨[a], (["part"] : List PySem.Str).zip us⟩ ((["self", "part"] : List PySem.Str).zip (a :: ([0] : List Nat).map fun i => us.getD i .none))) := by
  obtain ⟨cl, cc, fd, hf, SK⟩ := c.supF 4 (d := y4) rfl (by rfl) (by rfl) (by rfl)
  have S0 : NScope ["self", "part", "__class__"] ["self", "part"] ["__class__"] (defScope z4) := nscope_by (by decide +kernel)
  refine ⟨fd, ?_, ?_, ?_⟩
  · refine fnok_super (N := ["self", "part", "__class__"]) (ps := ["self", "part"]) hf S0 rfl SK rfl rfl (by rfl) (fun vs H Q E ⟨x, C, ws, ev, hl, _⟩ => by rw [ev, List.length_cons, hl]; rfl) (fun _ => _) (by intro _; rfl) (by intro _; rfl) (by intro _; rfl) ?_
    rintro A outer s H vs Q E hr ⟨x, C, ws, rfl, hl, SE, no, hx, q0, q1⟩
    match ws, hl with
    | [v0], _ =>
      refine ⟨⟨x, C, _, rfl, SE, hx⟩, _, pss_one (ps_ost (pv 0) (pv 1)), ?_⟩
      exact ⟨_, rfl, _, rfl, x, C, rfl, SE.T, no ("part", 0) (by simp), .inl ⟨hx, fun dx hd hne => q1 (by simp) dx hd hne⟩⟩
  · obtain ⟨oc, od, doc, pm, an, ct, osl, rfl, _⟩ := hf.ex
    refine .all fun us hl => ?_
    match us, hl with
    | [_, _], _ => rfl
  · obtain ⟨oc, od, doc, pm, an, ct, osl, rfl, _⟩ := hf.ex
    exact fun s a us hl => .of_eq (match us, hl with | [_], _ => rfl)
theorem in5 (c : SaysX P fa fn fy ex K) : ∃ fd, FnOk P w K mg base (L2.CX P w) 1 (He.fAd K ("BadMachine", some "__init__")) fd ["self", "part"] (exSp K (He.ga K "BadMachine") 1 [("part", 0)]) ∧ Binds K fd ["self", "part"] [] ∧ (∀ (s : Shared) (a : Value) (us : List Value), us.length = ([0] : List Nat).length → BindsTo s fd ⟨[a], (["part"] : List PySem.Str).zip us⟩ ((["self", "part"] : List PySem.Str).zip (a :: ([0] : List Nat).map fun i => us.getD i .none))) := by
  obtain ⟨cl, cc, fd, hf, SK⟩ := c.supF 5 (d := y5) rfl (by rfl) (by rfl) (by rfl)
  have S0 : NScope ["self", "part", "__class__"] ["self", "part"] ["__class__"] (defScope z5) := nscope_by (by decide +kernel)
  refine ⟨fd, ?_, ?_, ?_⟩
  · refine fnok_super (N := ["self", "part", "__class__"]) (ps := ["self", "part"]) hf S0 rfl SK rfl rfl (by rfl) (fun vs H Q E ⟨x, C, ws, ev, hl, _⟩ => by rw [ev, List.length_cons, hl]; rfl) (fun _ => _) (by intro _; rfl) (by intro _; rfl) (by intro _; rfl) ?_
    rintro A outer s H vs Q E hr ⟨x, C, ws, rfl, hl, SE, no, hx, q0, q1⟩
    match ws, hl with
    | [v0], _ =>
      refine ⟨⟨x, C, _, rfl, SE, hx⟩, _, pss_one (ps_ost (pv 0) (pv 1)), ?_⟩
      exact ⟨_, rfl, _, rfl, x, C, rfl, SE.T, no ("part", 0) (by simp), .inl ⟨hx, fun dx hd hne => q1 (by simp) dx hd hne⟩⟩
  · obtain ⟨oc, od, doc, pm, an, ct, osl, rfl, _⟩ := hf.ex
    refine .all fun us hl => ?_
    match us, hl with
    | [_, _], _ => rfl
  · obtain ⟨oc, od, doc, pm, an, ct, osl, rfl, _⟩ := hf.ex
    exact fun s a us hl => .of_eq (match us, hl with | [_], _ => rfl)
theorem in6 (c : SaysX P fa fn fy ex K) : ∃ fd, FnOk P w K mg base (L2.CX P w) 1 (He.fAd K ("BadStock", some "__init__")) fd ["self", "part"] (exSp K (He.ga K "BadStock") 1 [("part", 0)]) ∧ Binds K fd ["self", "part"] [] ∧ (∀ (s : Shared) (a : Value) (us : List Value), us.length = ([0] : List Nat).length → BindsTo s fd ⟨[a], (["part"] : List PySem.Str).zip us⟩ ((["self", "part"] : List PySem.Str).zip (a :: ([0] : List Nat).map fun i => us.getD i .none))) := by
  obtain ⟨cl, cc, fd, hf, SK⟩ := c.supF 6 (d := y6) rfl (by rfl) (by rfl) (by rfl)
  have S0 : NScope ["self", "part", "__class__"] ["self", "part"] ["__class__"] (defScope z6) := nscope_by (by decide +kernel)
  refine ⟨fd, ?_, ?_, ?_⟩
  · refine fnok_super (N := ["self", "part", "__class__"]) (ps := ["self", "part"]) hf S0 rfl SK rfl rfl (by rfl) (fun vs H Q E ⟨x, C, ws, ev, hl, _⟩ => by rw [ev, List.length_cons, hl]; rfl) (fun _ => _) (by intro _; rfl) (by intro _; rfl) (by intro _; rfl) ?_
    rintro A outer s H vs Q E hr ⟨x, C, ws, rfl, hl, SE, no, hx, q0, q1⟩
    match ws, hl with
    | [v0], _ =>
      refine ⟨⟨x, C, _, rfl, SE, hx⟩, _, pss_one (ps_ost (pv 0) (pv 1)), ?_⟩
      exact ⟨_, rfl, _, rfl, x, C, rfl, SE.T, no ("part", 0) (by simp), .inl ⟨hx, fun dx hd hne => q1 (by simp) dx hd hne⟩⟩
  · obtain ⟨oc, od, doc, pm, an, ct, osl, rfl, _⟩ := hf.ex
    refine .all fun us hl => ?_
    match us, hl with
    | [_, _], _ => rfl
  · obtain ⟨oc, od, doc, pm, an, ct, osl, rfl, _⟩ := hf.ex
    exact fun s a us hl => .of_eq (match us, hl with | [_], _ => rfl)
theorem in7 (c : SaysX P fa fn fy ex K) : ∃ fd, FnOk P w K mg base (L2.CX P w) 1 (He.fAd K ("BadQuestion", some "__init__")) fd ["self", "part"] (exSp K (He.ga K "BadQuestion") 1 [("part", 0)]) ∧ Binds K fd ["self", "part"] [] ∧ (∀ (s : Shared) (a : Value) (us : List Value), us.length = ([0] : List Nat).length → BindsTo s fd ⟨[a], (["part"] : List PySem.Str).zip us⟩ ((["self", "part"] : List PySem.Str).zip (a :: ([0] : List Nat).map fun i => us.getD i .none))) := by
  obtain ⟨cl, cc, fd, hf, SK⟩ := c.supF 7 (d := y7) rfl (by rfl) (by rfl) (by rfl)
  have S0 : NScope ["self", "part", "__class__"] ["self", "part"] ["__class__"] (defScope z7) := nscope_by (by decide +kernel)
  refine ⟨fd, ?_, ?_, ?_⟩
  · refine fnok_super (N := ["self", "part", "__class__"]) (ps := ["self", "part"]) hf S0 rfl SK rfl rfl (by rfl) (fun vs H Q E ⟨x, C, ws, ev, hl, _⟩ => by rw [ev, List.length_cons, hl]; rfl) (fun _ => _) (by intro _; rfl) (by intro _; rfl) (by intro _; rfl) ?_
    rintro A outer s H vs Q E hr ⟨x, C, ws, rfl, hl, SE, no, hx, q0, q1⟩
    match ws, hl with
    | [v0], _ =>
      refine ⟨⟨x, C, _, rfl, SE, hx⟩, _, pss_one (ps_ost (pv 0) (pv 1)), ?_⟩
      exact ⟨_, rfl, _, rfl, x, C, rfl, SE.T, no ("part", 0) (by simp), .inl ⟨hx, fun dx hd hne => q1 (by simp) dx hd hne⟩⟩
  · obtain ⟨oc, od, doc, pm, an, ct, osl, rfl, _⟩ := hf.ex
    refine .all fun us hl => ?_
    match us, hl with
    | [_, _], _ => rfl
  · obtain ⟨oc, od, doc, pm, an, ct, osl, rfl, _⟩ := hf.ex
    exact fun s a us hl => .of_eq (match us, hl with | [_], _ => rfl)
theorem in8 (c : SaysX P fa fn fy ex K) : ∃ fd, FnOk P w K mg base (L2.CX P w) 1 (He.fAd K ("BadBook", some "__init__")) fd ["self", "part"] (exSp K (He.ga K "BadBook") 1 [("part", 0)]) ∧ Binds K fd ["self", "part"] [] ∧ (∀ (s : Shared) (a : Value) (us : List Value), us.length = ([0] : List Nat).length → BindsTo s fd ⟨[a], (["part"] : List PySem.Str).zip us⟩ ((["self", "part"] : List PySem.Str).zip (a :: ([0] : List Nat).map fun i => us.getD i .none))) := by
  obtain ⟨cl, cc, fd, hf, SK⟩ := c.supF 8 (d := y8) rfl (by rfl) (by rfl) (by rfl)
  have S0 : NScope ["self", "part", "__class__"] ["self", "part"] ["__class__"] (defScope z8) := nscope_by (by decide +kernel)
  refine ⟨fd, ?_, ?_, ?_⟩
  · refine fnok_super (N := ["self", "part", "__class__"]) (ps := ["self", "part"]) hf S0 rfl SK rfl rfl (by rfl) (fun vs H Q E ⟨x, C, ws, ev, hl, _⟩ => by rw [ev, List.length_cons, hl]; rfl) (fun _ => _) (by intro _; rfl) (by intro _; rfl) (by intro _; rfl) ?_
    rintro A outer s H vs Q E hr ⟨x, C, ws, rfl, hl, SE, no, hx, q0, q1⟩
    match ws, hl with
    | [v0], _ =>
      refine ⟨⟨x, C, _, rfl, SE, hx⟩, _, pss_one (ps_ost (pv 0) (pv 1)), ?_⟩
      exact ⟨_, rfl, _, rfl, x, C, rfl, SE.T, no ("part", 0) (by simp), .inl ⟨hx, fun dx hd hne => q1 (by simp) dx hd hne⟩⟩
  · obtain ⟨oc, od, doc, pm, an, ct, osl, rfl, _⟩ := hf.ex
    refine .all fun us hl => ?_
    match us, hl with
    | [_, _], _ => rfl
  · obtain ⟨oc, od, doc, pm, an, ct, osl, rfl, _⟩ := hf.ex
    exact fun s a us hl => .of_eq (match us, hl with | [_], _ => rfl)
theorem in9 (c : SaysX P fa fn fy ex K) : ∃ fd, FnOk P w K mg base (L2.CX P w) 1 (He.fAd K ("BadNumbers", some "__init__")) fd ["self", "part"] (exSp K (He.ga K "BadNumbers") 1 [("part", 0)]) ∧ Binds K fd ["self", "part"] [] ∧ (∀ (s : Shared) (a : Value) (us : List Value), us.length = ([0] : List Nat).length → BindsTo s fd ⟨[a], (["part"] : List PySem.Str).zip us⟩ ((["self", "part"] : List PySem.Str).zip (a :: ([0] : List Nat).map fun i => us.getD i .none))) := by
  obtain ⟨cl, cc, fd, hf, SK⟩ := c.supF 9 (d := y9) rfl (by rfl) (by rfl) (by rfl)
  have S0 : NScope ["self", "part", "__class__"] ["self", "part"] ["__class__"] (defScope z9) := nscope_by (by decide +kernel)
  refine ⟨fd, ?_, ?_, ?_⟩
  · refine fnok_super (N := ["self", "part", "__class__"]) (ps := ["self", "part"]) hf S0 rfl SK rfl rfl (by rfl) (fun vs H Q E ⟨x, C, ws, ev, hl, _⟩ => by rw [ev, List.length_cons, hl]; rfl) (fun _ => _) (by intro _; rfl) (by intro _; rfl) (by intro _; rfl) ?_
    rintro A outer s H vs Q E hr ⟨x, C, ws, rfl, hl, SE, no, hx, q0, q1⟩
    match ws, hl with
    | [v0], _ =>
      refine ⟨⟨x, C, _, rfl, SE, hx⟩, _, pss_one (ps_ost (pv 0) (pv 1)), ?_⟩
      exact ⟨_, rfl, _, rfl, x, C, rfl, SE.T, no ("part", 0) (by simp), .inl ⟨hx, fun dx hd hne => q1 (by simp) dx hd hne⟩⟩
  · obtain ⟨oc, od, doc, pm, an, ct, osl, rfl, _⟩ := hf.ex
    refine .all fun us hl => ?_
    match us, hl with
    | [_, _], _ => rfl
  · obtain ⟨oc, od, doc, pm, an, ct, osl, rfl, _⟩ := hf.ex
    exact fun s a us hl => .of_eq (match us, hl with | [_], _ => rfl)
theorem in10 (c : SaysX P fa fn fy ex K) : ∃ fd, FnOk P w K mg base (L2.CX P w) 1 (He.fAd K ("BadPaper", some "__init__")) fd ["self", "part"] (exSp K (He.ga K "BadPaper") 1 [("part", 0)]) ∧ Binds K fd ["self", "part"] [] ∧ (∀ (s : Shared) (a : Value) (us : List Value), us.length = ([0] : List Nat).length → BindsTo s fd ⟨[a], (["part"] : List PySem.Str).zip us⟩ ((["self", "part"] : List PySem.Str).zip (a :: ([0] : List Nat).map fun i => us.getD i .none))) := by
  obtain ⟨cl, cc, fd, hf, SK⟩ := c.supF 10 (d := y10) rfl (by rfl) (by rfl) (by rfl)
  have S0 : NScope ["self", "part", "__class__"] ["self", "part"] ["__class__"] (defScope z10) := nscope_by (by decide +kernel)
  refine ⟨fd, ?_, ?_, ?_⟩
  · refine fnok_super (N := ["self", "part", "__class__"]) (ps := ["self", "part"]) hf S0 rfl SK rfl rfl (by rfl) (fun vs H Q E ⟨x, C, ws, ev, hl, _⟩ => by rw [ev, List.length_cons, hl]; rfl) (fun _ => _) (by intro _; rfl) (by intro _; rfl) (by intro _; rfl) ?_
    rintro A outer s H vs Q E hr ⟨x, C, ws, rfl, hl, SE, no, hx, q0, q1⟩
    match ws, hl with
    | [v0], _ =>
      refine ⟨⟨x, C, _, rfl, SE, hx⟩, _, pss_one (ps_ost (pv 0) (pv 1)), ?_⟩
      exact ⟨_, rfl, _, rfl, x, C, rfl, SE.T, no ("part", 0) (by simp), .inl ⟨hx, fun dx hd hne => q1 (by simp) dx hd hne⟩⟩
  · obtain ⟨oc, od, doc, pm, an, ct, osl, rfl, _⟩ := hf.ex
    refine .all fun us hl => ?_
    match us, hl with
    | [_, _], _ => rfl
  · obtain ⟨oc, od, doc, pm, an, ct, osl, rfl, _⟩ := hf.ex
    exact fun s a us hl => .of_eq (match us, hl with | [_], _ => rfl)
theorem in11 (c : SaysX P fa fn fy ex K) : ∃ fd, FnOk P w K mg base (L2.CX P w) 1 (He.fAd K ("Missing", some "__init__")) fd ["self", "name"] (exSp K (He.ga K "Missing") 1 [("name", 0)]) ∧ Binds K fd ["self", "name"] [] ∧ (∀ (s : Shared) (a : Value) (us : List Value), us.length = ([0] : List Nat).length → BindsTo s fd ⟨[a], (["name"] : List PySem.Str).zip us⟩ ((["self", "name"] : List PySem.Str).zip (a :: ([0] : List Nat).map fun i => us.getD i .none))) := by
  obtain ⟨cl, cc, fd, hf, SK⟩ := c.supF 11 (d := y11) rfl (by rfl) (by rfl) (by rfl)
  have S0 : NScope ["self", "name", "__class__"] ["self", "name"] ["__class__"] (defScope z11) := nscope_by (by decide +kernel)
  refine ⟨fd, ?_, ?_, ?_⟩
  · refine fnok_super (N := ["self", "name", "__class__"]) (ps := ["self", "name"]) hf S0 rfl SK rfl rfl (by rfl) (fun vs H Q E ⟨x, C, ws, ev, hl, _⟩ => by rw [ev, List.length_cons, hl]; rfl) (fun _ => _) (by intro _; rfl) (by intro _; rfl) (by intro _; rfl) ?_
    rintro A outer s H vs Q E hr ⟨x, C, ws, rfl, hl, SE, no, hx, q0, q1⟩
    match ws, hl with
    | [v0], _ =>
      refine ⟨⟨x, C, _, rfl, SE, hx⟩, _, pss_one (ps_ost (pv 0) (pv 1)), ?_⟩
      exact ⟨_, rfl, _, rfl, x, C, rfl, SE.T, no ("name", 0) (by simp), .inl ⟨hx, fun dx hd hne => q1 (by simp) dx hd hne⟩⟩
  · obtain ⟨oc, od, doc, pm, an, ct, osl, rfl, _⟩ := hf.ex
    refine .all fun us hl => ?_
    match us, hl with
    | [_, _], _ => rfl
  · obtain ⟨oc, od, doc, pm, an, ct, osl, rfl, _⟩ := hf.ex
    exact fun s a us hl => .of_eq (match us, hl with | [_], _ => rfl)
theorem in12 (c : SaysX P fa fn fy ex K) : ∃ fd, FnOk P w K mg base (L2.CX P w) 1 (He.fAd K ("Twice", some "__init__")) fd ["self", "name"] (exSp K (He.ga K "Twice") 1 [("name", 0)]) ∧ Binds K fd ["self", "name"] [] ∧ (∀ (s : Shared) (a : Value) (us : List Value), us.length = ([0] : List Nat).length → BindsTo s fd ⟨[a], (["name"] : List PySem.Str).zip us⟩ ((["self", "name"] : List PySem.Str).zip (a :: ([0] : List Nat).map fun i => us.getD i .none))) := by
  obtain ⟨cl, cc, fd, hf, SK⟩ := c.supF 12 (d := y12) rfl (by rfl) (by rfl) (by rfl)
  have S0 : NScope ["self", "name", "__class__"] ["self", "name"] ["__class__"] (defScope z12) := nscope_by (by decide +kernel)
  refine ⟨fd, ?_, ?_, ?_⟩
  · refine fnok_super (N := ["self", "name", "__class__"]) (ps := ["self", "name"]) hf S0 rfl SK rfl rfl (by rfl) (fun vs H Q E ⟨x, C, ws, ev, hl, _⟩ => by rw [ev, List.length_cons, hl]; rfl) (fun _ => _) (by intro _; rfl) (by intro _; rfl) (by intro _; rfl) ?_
    rintro A outer s H vs Q E hr ⟨x, C, ws, rfl, hl, SE, no, hx, q0, q1⟩
    match ws, hl with
    | [v0], _ =>
      refine ⟨⟨x, C, _, rfl, SE, hx⟩, _, pss_one (ps_ost (pv 0) (pv 1)), ?_⟩
      exact ⟨_, rfl, _, rfl, x, C, rfl, SE.T, no ("name", 0) (by simp), .inl ⟨hx, fun dx hd hne => q1 (by simp) dx hd hne⟩⟩
  · obtain ⟨oc, od, doc, pm, an, ct, osl, rfl, _⟩ := hf.ex
    refine .all fun us hl => ?_
    match us, hl with
    | [_, _], _ => rfl
  · obtain ⟨oc, od, doc, pm, an, ct, osl, rfl, _⟩ := hf.ex
    exact fun s a us hl => .of_eq (match us, hl with | [_], _ => rfl)
theorem in13 (c : SaysX P fa fn fy ex K) : ∃ fd, FnOk P w K mg base (L2.CX P w) 1 (He.fAd K ("UnlikeRooms", some "__init__")) fd ["self", "part"] (exSp K (He.ga K "UnlikeRooms") 1 [("part", 0)]) ∧ Binds K fd ["self", "part"] [] ∧ (∀ (s : Shared) (a : Value) (us : List Value), us.length = ([0] : List Nat).length → BindsTo s fd ⟨[a], (["part"] : List PySem.Str).zip us⟩ ((["self", "part"] : List PySem.Str).zip (a :: ([0] : List Nat).map fun i => us.getD i .none))) := by
  obtain ⟨cl, cc, fd, hf, SK⟩ := c.supF 13 (d := y13) rfl (by rfl) (by rfl) (by rfl)
  have S0 : NScope ["self", "part", "__class__"] ["self", "part"] ["__class__"] (defScope z13) := nscope_by (by decide +kernel)
  refine ⟨fd, ?_, ?_, ?_⟩
  · refine fnok_super (N := ["self", "part", "__class__"]) (ps := ["self", "part"]) hf S0 rfl SK rfl rfl (by rfl) (fun vs H Q E ⟨x, C, ws, ev, hl, _⟩ => by rw [ev, List.length_cons, hl]; rfl) (fun _ => _) (by intro _; rfl) (by intro _; rfl) (by intro _; rfl) ?_
    rintro A outer s H vs Q E hr ⟨x, C, ws, rfl, hl, SE, no, hx, q0, q1⟩
    match ws, hl with
    | [v0], _ =>
      refine ⟨⟨x, C, _, rfl, SE, hx⟩, _, pss_one (ps_ost (pv 0) (pv 1)), ?_⟩
      exact ⟨_, rfl, _, rfl, x, C, rfl, SE.T, no ("part", 0) (by simp), .inl ⟨hx, fun dx hd hne => q1 (by simp) dx hd hne⟩⟩
  · obtain ⟨oc, od, doc, pm, an, ct, osl, rfl, _⟩ := hf.ex
    refine .all fun us hl => ?_
    match us, hl with
    | [_, _], _ => rfl
  · obtain ⟨oc, od, doc, pm, an, ct, osl, rfl, _⟩ := hf.ex
    exact fun s a us hl => .of_eq (match us, hl with | [_], _ => rfl)
theorem in14 (c : SaysX P fa fn fy ex K) : ∃ fd, FnOk P w K mg base (L2.CX P w) 1 (He.fAd K ("Refused", some "__init__")) fd ["self", "at"] (exSp K (He.ga K "Refused") 1 [("at", 0)]) ∧ Binds K fd ["self", "at"] [] ∧ (∀ (s : Shared) (a : Value) (us : List Value), us.length = ([0] : List Nat).length → BindsTo s fd ⟨[a], (["at"] : List PySem.Str).zip us⟩ ((["self", "at"] : List PySem.Str).zip (a :: ([0] : List Nat).map fun i => us.getD i .none))) := by
  obtain ⟨cl, cc, fd, hf, SK⟩ := c.supF 14 (d := y14) rfl (by rfl) (by rfl) (by rfl)
  have S0 : NScope ["self", "at", "__class__"] ["self", "at"] ["__class__"] (defScope z14) := nscope_by (by decide +kernel)
  refine ⟨fd, ?_, ?_, ?_⟩
  · refine fnok_super (N := ["self", "at", "__class__"]) (ps := ["self", "at"]) hf S0 rfl SK rfl rfl (by rfl) (fun vs H Q E ⟨x, C, ws, ev, hl, _⟩ => by rw [ev, List.length_cons, hl]; rfl) (fun _ => _) (by intro _; rfl) (by intro _; rfl) (by intro _; rfl) ?_
    rintro A outer s H vs Q E hr ⟨x, C, ws, rfl, hl, SE, no, hx, q0, q1⟩
    match ws, hl with
    | [v0], _ =>
      refine ⟨⟨x, C, _, rfl, SE, hx⟩, _, pss_one (ps_ost (pv 0) (pv 1)), ?_⟩
      exact ⟨_, rfl, _, rfl, x, C, rfl, SE.T, no ("at", 0) (by simp), .inl ⟨hx, fun dx hd hne => q1 (by simp) dx hd hne⟩⟩
  · obtain ⟨oc, od, doc, pm, an, ct, osl, rfl, _⟩ := hf.ex
    refine .all fun us hl => ?_
    match us, hl with
    | [_, _], _ => rfl
  · obtain ⟨oc, od, doc, pm, an, ct, osl, rfl, _⟩ := hf.ex
    exact fun s a us hl => .of_eq (match us, hl with | [_], _ => rfl)
theorem in15 (c : SaysX P fa fn fy ex K) : ∃ fd, FnOk P w K mg base (L2.CX P w) 1 (He.fAd K ("Nothing", some "__init__")) fd ["self"] (exSp K (He.ga K "Nothing") 0 []) ∧ Binds K fd ["self"] [] ∧ True := by
  obtain ⟨cl, cc, fd, hf, SK⟩ := c.supF 15 (d := y15) rfl (by rfl) (by rfl) (by rfl)
  have S0 : NScope ["self", "__class__"] ["self"] ["__class__"] (defScope z15) := nscope_by (by decide +kernel)
  refine ⟨fd, ?_, ?_, ?_⟩
  · refine fnok_super (N := ["self", "__class__"]) (ps := ["self"]) hf S0 rfl SK rfl rfl (by rfl) (fun vs H Q E ⟨x, C, ws, ev, hl, _⟩ => by rw [ev, List.length_cons, hl]; rfl) (fun _ => _) (by intro _; rfl) (by intro _; rfl) (by intro _; rfl) ?_
    rintro A outer s H vs Q E hr ⟨x, C, ws, rfl, hl, SE, no, hx, q0, q1⟩
    match ws, hl with
    | [], _ =>
      exact ⟨⟨x, C, _, rfl, SE, hx⟩, _, pss_nil, q0 rfl⟩
  · obtain ⟨oc, od, doc, pm, an, ct, osl, rfl, _⟩ := hf.ex
    refine .all fun us hl => ?_
    match us, hl with
    | [_], _ => rfl
  · trivial
theorem in16 (c : SaysX P fa fn fy ex K) : ∃ fd, FnOk P w K mg base (L2.CX P w) 1 (He.fAd K ("TooMany", some "__init__")) fd ["self", "what", "most"] (exSp K (He.ga K "TooMany") 2 [("most", 1), ("what", 0)]) ∧ Binds K fd ["self", "what", "most"] [] ∧ (∀ (s : Shared) (a : Value) (us : List Value), us.length = ([1, 0] : List Nat).length → BindsTo s fd ⟨[a], (["most", "what"] : List PySem.Str).zip us⟩ ((["self", "what", "most"] : List PySem.Str).zip (a :: ([1, 0] : List Nat).map fun i => us.getD i .none))) := by
  obtain ⟨cl, cc, fd, hf, SK⟩ := c.supF 16 (d := y16) rfl (by rfl) (by rfl) (by rfl)
  have S0 : NScope ["self", "what", "most", "__class__"] ["self", "what", "most"] ["__class__"] (defScope z16) := nscope_by (by decide +kernel)
  refine ⟨fd, ?_, ?_, ?_⟩
  · refine fnok_super (N := ["self", "what", "most", "__class__"]) (ps := ["self", "what", "most"]) hf S0 rfl SK rfl rfl (by rfl) (fun vs H Q E ⟨x, C, ws, ev, hl, _⟩ => by rw [ev, List.length_cons, hl]; rfl) (fun _ => _) (by intro _; rfl) (by intro _; rfl) (by intro _; rfl) ?_
    rintro A outer s H vs Q E hr ⟨x, C, ws, rfl, hl, SE, no, hx, q0, q1⟩
    match ws, hl with
    | [v0, v1], _ =>
      refine ⟨⟨x, C, _, rfl, SE, hx⟩, _, pss_cons (ps_ost (pv 0) (pv 1)) (pss_one (ps_ost (pv 0) (pv 2))), ?_⟩
      exact ⟨_, rfl, _, rfl, x, C, rfl, SE.T, no ("what", 0) (by simp), .inl ⟨hx, fun dx hd hne => ⟨_, rfl, _, rfl, x, C, rfl, SE.T, no ("most", 1) (by simp), .inr ⟨dx, _, upd_same, (upd_ne hne).trans upd_same, by simp, by rw [upd_two hne]; exact q1 (by simp) dx hd hne⟩⟩⟩⟩
  · obtain ⟨oc, od, doc, pm, an, ct, osl, rfl, _⟩ := hf.ex
    refine .all fun us hl => ?_
    match us, hl with
    | [_, _, _], _ => rfl
  · obtain ⟨oc, od, doc, pm, an, ct, osl, rfl, _⟩ := hf.ex
    exact fun s a us hl => .of_eq (match us, hl with | [_, _], _ => rfl)
theorem in17 (c : SaysX P fa fn fy ex K) : ∃ fd, FnOk P w K mg base (L2.CX P w) 1 (He.fAd K ("BadText", some "__init__")) fd ["self", "line", "word"] (exSp K (He.ga K "BadText") 2 [("word", 1), ("line", 0)]) ∧ Binds K fd ["self", "line", "word"] [] ∧ (∀ (s : Shared) (a : Value) (us : List Value), us.length = ([1, 0] : List Nat).length → BindsTo s fd ⟨[a], (["word", "line"] : List PySem.Str).zip us⟩ ((["self", "line", "word"] : List PySem.Str).zip (a :: ([1, 0] : List Nat).map fun i => us.getD i .none))) := by
  obtain ⟨cl, cc, fd, hf, SK⟩ := c.supF 17 (d := y17) rfl (by rfl) (by rfl) (by rfl)
  have S0 : NScope ["self", "line", "word", "__class__"] ["self", "line", "word"] ["__class__"] (defScope z17) := nscope_by (by decide +kernel)
  refine ⟨fd, ?_, ?_, ?_⟩
  · refine fnok_super (N := ["self", "line", "word", "__class__"]) (ps := ["self", "line", "word"]) hf S0 rfl SK rfl rfl (by rfl) (fun vs H Q E ⟨x, C, ws, ev, hl, _⟩ => by rw [ev, List.length_cons, hl]; rfl) (fun _ => _) (by intro _; rfl) (by intro _; rfl) (by intro _; rfl) ?_
    rintro A outer s H vs Q E hr ⟨x, C, ws, rfl, hl, SE, no, hx, q0, q1⟩
    match ws, hl with
    | [v0, v1], _ =>
      refine ⟨⟨x, C, _, rfl, SE, hx⟩, _, pss_cons (ps_ost (pv 0) (pv 1)) (pss_one (ps_ost (pv 0) (pv 2))), ?_⟩
      exact ⟨_, rfl, _, rfl, x, C, rfl, SE.T, no ("line", 0) (by simp), .inl ⟨hx, fun dx hd hne => ⟨_, rfl, _, rfl, x, C, rfl, SE.T, no ("word", 1) (by simp), .inr ⟨dx, _, upd_same, (upd_ne hne).trans upd_same, by simp, by rw [upd_two hne]; exact q1 (by simp) dx hd hne⟩⟩⟩⟩
  · obtain ⟨oc, od, doc, pm, an, ct, osl, rfl, _⟩ := hf.ex
    refine .all fun us hl => ?_
    match us, hl with
    | [_, _, _], _ => rfl
  · obtain ⟨oc, od, doc, pm, an, ct, osl, rfl, _⟩ := hf.ex
    exact fun s a us hl => .of_eq (match us, hl with | [_, _], _ => rfl)
theorem in18 (c : SaysX P fa fn fy ex K) : ∃ fd, FnOk P w K mg base (L2.CX P w) 1 (He.fAd K ("BadLine", some "__init__")) fd ["self", "line", "error"] (exSp K (He.ga K "BadLine") 2 [("error", 1), ("line", 0)]) ∧ Binds K fd ["self", "line", "error"] [] ∧ (∀ (s : Shared) (a : Value) (us : List Value), us.length = ([1, 0] : List Nat).length → BindsTo s fd ⟨[a], (["error", "line"] : List PySem.Str).zip us⟩ ((["self", "line", "error"] : List PySem.Str).zip (a :: ([1, 0] : List Nat).map fun i => us.getD i .none))) := by
  obtain ⟨cl, cc, fd, hf, SK⟩ := c.supF 18 (d := y18) rfl (by rfl) (by rfl) (by rfl)
  have S0 : NScope ["self", "line", "error", "__class__"] ["self", "line", "error"] ["__class__"] (defScope z18) := nscope_by (by decide +kernel)
  refine ⟨fd, ?_, ?_, ?_⟩
  · refine fnok_super (N := ["self", "line", "error", "__class__"]) (ps := ["self", "line", "error"]) hf S0 rfl SK rfl rfl (by rfl) (fun vs H Q E ⟨x, C, ws, ev, hl, _⟩ => by rw [ev, List.length_cons, hl]; rfl) (fun _ => _) (by intro _; rfl) (by intro _; rfl) (by intro _; rfl) ?_
    rintro A outer s H vs Q E hr ⟨x, C, ws, rfl, hl, SE, no, hx, q0, q1⟩
    match ws, hl with
    | [v0, v1], _ =>
      refine ⟨⟨x, C, _, rfl, SE, hx⟩, _, pss_cons (ps_ost (pv 0) (pv 1)) (pss_one (ps_ost (pv 0) (pv 2))), ?_⟩
      exact ⟨_, rfl, _, rfl, x, C, rfl, SE.T, no ("line", 0) (by simp), .inl ⟨hx, fun dx hd hne => ⟨_, rfl, _, rfl, x, C, rfl, SE.T, no ("error", 1) (by simp), .inr ⟨dx, _, upd_same, (upd_ne hne).trans upd_same, by simp, by rw [upd_two hne]; exact q1 (by simp) dx hd hne⟩⟩⟩⟩
  · obtain ⟨oc, od, doc, pm, an, ct, osl, rfl, _⟩ := hf.ex
    refine .all fun us hl => ?_
    match us, hl with
    | [_, _, _], _ => rfl
  · obtain ⟨oc, od, doc, pm, an, ct, osl, rfl, _⟩ := hf.ex
    exact fun s a us hl => .of_eq (match us, hl with | [_, _], _ => rfl)
theorem sc0 : FnScope ["_law_script", "_law_cell"] ["_law_script"] (defScope s0) := ⟨rfl, rfl, rfl, by decide +kernel, rfl, by decide +kernel, by decide +kernel⟩
theorem ok0 (X : K.In base) (Nm : base.Ns mainGlobals mg) (c : SaysX P fa fn fy ex K) {k : Nat} (ih : ∀ i, Ih P w K mg base k i) : Ih P w K mg base (k + 1) 0 := by
  intro hid fd F0
  have n_int := He.free_ok (x := "int") X Nm (c.d.fact 43 rfl)
  have F1 : FunD K "_law_pen" "_law_pen" (defArgs s0) (defBody s0) (defScope s0) [] [] (He.ga K "_law_pen") fd := F0
  show FnS ((G0 K).at hid) P w mg base (k + 3 + 1) (He.ga K "_law_pen") fd ["_law_script"] (runF true 2 (b0 (Fs k)))
  refine FnS.of (G := (G0 K).at hid) (N := ["_law_script", "_law_cell"]) (ps := ["_law_script"]) (keep := true) (m := b0 (Fs k)) F1 sc0 fun cd A outer s H E hr hgd => ?_
  have cf : Cf ((G0 K).at hid) (bodyCx ((G0 K).at hid) P w mg base ["_law_script", "_law_cell"] "_law_pen" (defScope s0) (He.ga K "_law_pen") cd A outer s H E) := ⟨rfl, rfl, sc0.nd, hgd, hr.units⟩
  exact SSs.one (SS.ret (SE.cel (aCons (SE.lc cf.calm cf.nd (own := [("_law_cell", 1)]) (SI.of cf.hK (SE.sli cf.hK (sVar (i := 0) (by rfl) (Or.inl (by rfl))) (SO.none) (SO.some (sInt)))) (fun D1 _ _ _ _ _ => SGv.name (cf.blk (D := D1)).nd (i := 1) (by rfl) (Or.inl (by rfl)) (Or.inr (by rfl)) (by decide)) (fun D1 _ _ _ _ _ => STs.nil) (fun D1 _ _ _ _ _ => sBT .int (by rfl) n_int (by decide +kernel) (aCons (sVar (i := 1) (by rfl) (Or.inl (by rfl))) (SA.nil))) (blkOk_by (by kernel_rfl)) (by intro _; rfl)) (aCons (sInt) (aCons (sInt) (SA.nil))))))
theorem sc1 : FnScope ["_law_pen_here", "_law_many", "_law_digit", "_law_at", "_law_cell", "_law_great", "_law_mixed"] ["_law_pen_here", "_law_many"] (defScope s1) := ⟨rfl, rfl, rfl, by decide +kernel, rfl, by decide +kernel, by decide +kernel⟩
theorem ok1 (X : K.In base) (Nm : base.Ns mainGlobals mg) (c : SaysX P fa fn fy ex K) {k : Nat} (ih : ∀ i, Ih P w K mg base k i) : Ih P w K mg base (k + 1) 1 := by
  intro hid fd F0
  have n_abs := He.free_ok (x := "abs") X Nm (c.d.fact 41 rfl)
  have n_int := He.free_ok (x := "int") X Nm (c.d.fact 43 rfl)
  have n_len := He.free_ok (x := "len") X Nm (c.d.fact 45 rfl)
  have F1 : FunD K "_law_draw" "_law_draw" (defArgs s1) (defBody s1) (defScope s1) [] [] (He.ga K "_law_draw") fd := F0
  show FnS ((G0 K).at hid) P w mg base (k + 3 + 1) (He.ga K "_law_draw") fd ["_law_pen_here", "_law_many"] (runF false 7 (b1 (Fs k)))
  refine FnS.of (G := (G0 K).at hid) (N := ["_law_pen_here", "_law_many", "_law_digit", "_law_at", "_law_cell", "_law_great", "_law_mixed"]) (ps := ["_law_pen_here", "_law_many"]) (keep := false) (m := b1 (Fs k)) F1 sc1 fun cd A outer s H E hr hgd => ?_
  have cf : Cf ((G0 K).at hid) (bodyCx ((G0 K).at hid) P w mg base ["_law_pen_here", "_law_many", "_law_digit", "_law_at", "_law_cell", "_law_great", "_law_mixed"] "_law_draw" (defScope s1) (He.ga K "_law_draw") cd A outer s H E) := ⟨rfl, rfl, sc1.nd, hgd, hr.units⟩
  exact SSs.cons (SS.if_ (tCmp cf oGt (sIx cf (sVar (i := 0) (by rfl) (Or.inl (by rfl))) (sInt)) (sInt)) (SSs.cons (SS.asg (sMod (sBT .int (by rfl) n_int (by decide +kernel) (aCons (sIx cf (sVar (i := 0) (by rfl) (Or.inl (by rfl))) (sInt)) (SA.nil))) (sVar (i := 1) (by rfl) (Or.inl (by rfl)))) (SG.name cf.nd (i := 2) (by rfl) (Or.inl (by rfl)) (Or.inl (by rfl))) (by rfl) (by rfl) (by rfl)) (SSs.cons (SS.asg (sDiv (sBT .int (by rfl) n_int (by decide +kernel) (aCons (sIx cf (sVar (i := 0) (by rfl) (Or.inl (by rfl))) (sInt)) (SA.nil))) (sVar (i := 1) (by rfl) (Or.inl (by rfl)))) (SG.sub (sVar (i := 0) (by rfl) (Or.inl (by rfl))) (sInt) (by intro _; rfl)) (by rfl) (by rfl) (by rfl)) (SSs.one (SS.ret (sVar (i := 2) (by rfl) (Or.inl (by rfl))))))) (SSs.nil)) (SSs.cons (SS.asg (sIx cf (sVar (i := 0) (by rfl) (Or.inl (by rfl))) (sInt)) (SG.name cf.nd (i := 3) (by rfl) (Or.inl (by rfl)) (Or.inl (by rfl))) (by rfl) (by rfl) (by rfl)) (SSs.cons (SS.asg (sAdd cf (sVar (i := 3) (by rfl) (Or.inl (by rfl))) (sInt)) (SG.sub (sVar (i := 0) (by rfl) (Or.inl (by rfl))) (sInt) (by intro _; rfl)) (by rfl) (by rfl) (by rfl)) (SSs.cons (SS.asg (sAdd cf (sMul (sInt) (sVar (i := 3) (by rfl) (Or.inl (by rfl)))) (sInt)) (SG.name cf.nd (i := 4) (by rfl) (Or.inl (by rfl)) (Or.inl (by rfl))) (by rfl) (by rfl) (by rfl)) (SSs.cons (SS.if_ (tCmp cf (oNe cf) (sIx cf (sVar (i := 0) (by rfl) (Or.inl (by rfl))) (sInt)) (SE.lst (SA.nil))) (SSs.one (SS.asg (sIx cf (sIx cf (sVar (i := 0) (by rfl) (Or.inl (by rfl))) (sInt)) (sMod (sBT .int (by rfl) n_int (by decide +kernel) (aCons (sVar (i := 3) (by rfl) (Or.inl (by rfl))) (SA.nil))) (sBF (.len cf.hK) (by rfl) n_len (by decide +kernel) (aCons (sIx cf (sVar (i := 0) (by rfl) (Or.inl (by rfl))) (sInt)) (SA.nil))))) (SG.name cf.nd (i := 4) (by rfl) (Or.inl (by rfl)) (Or.inl (by rfl))) (by rfl) (by rfl) (by rfl))) (SSs.nil)) (SSs.cons (SS.if_ ((SW.and (tCmp cf oLt (sVar (i := 3) (by rfl) (Or.inl (by rfl))) (sBF (.len cf.hK) (by rfl) n_len (by decide +kernel) (aCons (sIx cf (sVar (i := 0) (by rfl) (Or.inl (by rfl))) (sInt)) (SA.nil)))) (SW.and1 (tCmp cf oGe (sBF .abs (by rfl) n_abs (by decide +kernel) (aCons (sVar (i := 4) (by rfl) (Or.inl (by rfl))) (SA.nil))) (sPow (sInt) (sInt))))).st) (SSs.cons (SS.asg (sAdd cf (sMul (sInt) (sSub (sBF .abs (by rfl) n_abs (by decide +kernel) (aCons (sVar (i := 4) (by rfl) (Or.inl (by rfl))) (SA.nil))) (sPow (sInt) (sInt)))) (sBT .int (by rfl) n_int (by decide +kernel) (aCons (sCmp oLt (sVar (i := 4) (by rfl) (Or.inl (by rfl))) (sInt)) (SA.nil)))) (SG.name cf.nd (i := 5) (by rfl) (Or.inl (by rfl)) (Or.inl (by rfl))) (by rfl) (by rfl) (by rfl)) (SSs.cons (SS.asg (sDiv (sBT .int (by rfl) n_int (by decide +kernel) (aCons (sVar (i := 5) (by rfl) (Or.inl (by rfl))) (SA.nil))) (sVar (i := 1) (by rfl) (Or.inl (by rfl)))) (SG.sub (sVar (i := 0) (by rfl) (Or.inl (by rfl))) (sInt) (by intro _; rfl)) (by rfl) (by rfl) (by rfl)) (SSs.one (SS.ret (sMod (sBT .int (by rfl) n_int (by decide +kernel) (aCons (sVar (i := 5) (by rfl) (Or.inl (by rfl))) (SA.nil))) (sVar (i := 1) (by rfl) (Or.inl (by rfl)))))))) (SSs.nil)) (SSs.cons (SS.asg (sMod (sBT .int (by rfl) n_int (by decide +kernel) (aCons (sPow (sAdd cf (sAdd cf (sMod (sBT .int (by rfl) n_int (by decide +kernel) (aCons (sVar (i := 4) (by rfl) (Or.inl (by rfl))) (SA.nil))) (sInt)) (sMul (sInt) (sVar (i := 3) (by rfl) (Or.inl (by rfl))))) (sInt)) (sInt)) (SA.nil))) (sInt)) (SG.name cf.nd (i := 6) (by rfl) (Or.inl (by rfl)) (Or.inl (by rfl))) (by rfl) (by rfl) (by rfl)) (SSs.cons (SS.asg (sMod (sBT .int (by rfl) n_int (by decide +kernel) (aCons (sPow (sAdd cf (sAdd cf (sMul (sVar (i := 6) (by rfl) (Or.inl (by rfl))) (sAdd cf (sMul (sInt) (sVar (i := 3) (by rfl) (Or.inl (by rfl)))) (sInt))) (sMul (sMul (sInt) (sVar (i := 3) (by rfl) (Or.inl (by rfl)))) (sVar (i := 3) (by rfl) (Or.inl (by rfl))))) (sInt)) (sInt)) (SA.nil))) (sInt)) (SG.name cf.nd (i := 6) (by rfl) (Or.inl (by rfl)) (Or.inl (by rfl))) (by rfl) (by rfl) (by rfl)) (SSs.one (SS.ret (sMod (sBT .int (by rfl) n_int (by decide +kernel) (aCons (sDiv (sVar (i := 6) (by rfl) (Or.inl (by rfl))) (sInt)) (SA.nil))) (sVar (i := 1) (by rfl) (Or.inl (by rfl)))))))))))))
theorem sc2 : FnScope ["_law_pen_here", "_law_some"] ["_law_pen_here", "_law_some"] (defScope s2) := ⟨rfl, rfl, rfl, by decide +kernel, rfl, by decide +kernel, by decide +kernel⟩
theorem ok2 (X : K.In base) (Nm : base.Ns mainGlobals mg) (c : SaysX P fa fn fy ex K) {k : Nat} (ih : ∀ i, Ih P w K mg base k i) : Ih P w K mg base (k + 1) 2 := by
  intro hid fd F0
  have n_len := He.free_ok (x := "len") X Nm (c.d.fact 45 rfl)
  obtain ⟨fe1, Fe1⟩ := c.d.def_ 1 (d := d1) rfl
  have f1 : ∀ hid, FnS ((G0 K).at hid) P w mg base (k + 3) (He.ga K "_law_draw") fe1 ["_law_pen_here", "_law_many"] (Fs k 1) := fun hid => ih 1 hid fe1 Fe1
  have g1 := He.glo_ok (x := "_law_draw") X Nm (c.d.fact 1 rfl)
  have b1_2 : Binds K fe1 ["_law_pen_here", "_law_many"] [] := Fe1.bindsN fun _ _ _ _ _ _ us hl => match us, hl with | [_, _], _ => rfl
  have F1 : FunD K "_law_pick" "_law_pick" (defArgs s2) (defBody s2) (defScope s2) [] [] (He.ga K "_law_pick") fd := F0
  show FnS ((G0 K).at hid) P w mg base (k + 3 + 1) (He.ga K "_law_pick") fd ["_law_pen_here", "_law_some"] (runF false 2 (b2 (Fs k)))
  refine FnS.of (G := (G0 K).at hid) (N := ["_law_pen_here", "_law_some"]) (ps := ["_law_pen_here", "_law_some"]) (keep := false) (m := b2 (Fs k)) F1 sc2 fun cd A outer s H E hr hgd => ?_
  have cf : Cf ((G0 K).at hid) (bodyCx ((G0 K).at hid) P w mg base ["_law_pen_here", "_law_some"] "_law_pick" (defScope s2) (He.ga K "_law_pick") cd A outer s H E) := ⟨rfl, rfl, sc2.nd, hgd, hr.units⟩
  exact SSs.one (SS.ret (sIx cf (sVar (i := 1) (by rfl) (Or.inl (by rfl))) (sCall cf (f1 _) hr (by rfl) g1 Fe1.kp b1_2 .nil (fun _ _ => .nil) (aCons (sVar (i := 0) (by rfl) (Or.inl (by rfl))) (aCons (sBF (.len cf.hK) (by rfl) n_len (by decide +kernel) (aCons (sVar (i := 1) (by rfl) (Or.inl (by rfl))) (SA.nil))) (SA.nil))))))
theorem sc3 : FnScope ["_law_one", "_law_two", "_law_made"] ["_law_one", "_law_two"] (defScope s3) := ⟨rfl, rfl, rfl, by decide +kernel, rfl, by decide +kernel, by decide +kernel⟩
theorem ok3 (X : K.In base) (Nm : base.Ns mainGlobals mg) (c : SaysX P fa fn fy ex K) {k : Nat} (ih : ∀ i, Ih P w K mg base k i) : Ih P w K mg base (k + 1) 3 := by
  intro hid fd F0
  have g_BadBook := He.glo_ok (x := "BadBook") X Nm (c.d.fact 19 rfl)
  have g_BadDeed := He.glo_ok (x := "BadDeed") X Nm (c.d.fact 14 rfl)
  have g_BadLine := He.glo_ok (x := "BadLine") X Nm (c.d.fact 34 rfl)
  have g_BadMachine := He.glo_ok (x := "BadMachine") X Nm (c.d.fact 16 rfl)
  have g_BadNumbers := He.glo_ok (x := "BadNumbers") X Nm (c.d.fact 20 rfl)
  have g_BadPaper := He.glo_ok (x := "BadPaper") X Nm (c.d.fact 21 rfl)
  have g_BadQuestion := He.glo_ok (x := "BadQuestion") X Nm (c.d.fact 18 rfl)
  have g_BadRoom := He.glo_ok (x := "BadRoom") X Nm (c.d.fact 11 rfl)
  have g_BadSaying := He.glo_ok (x := "BadSaying") X Nm (c.d.fact 13 rfl)
  have g_BadSpot := He.glo_ok (x := "BadSpot") X Nm (c.d.fact 15 rfl)
  have g_BadStock := He.glo_ok (x := "BadStock") X Nm (c.d.fact 17 rfl)
  have g_BadText := He.glo_ok (x := "BadText") X Nm (c.d.fact 33 rfl)
  have g_BadView := He.glo_ok (x := "BadView") X Nm (c.d.fact 12 rfl)
  have g_NoFact := He.glo_ok (x := "NoFact") X Nm (c.d.fact 24 rfl)
  have g_NoOnlooker := He.glo_ok (x := "NoOnlooker") X Nm (c.d.fact 25 rfl)
  have g_NoState := He.glo_ok (x := "NoState") X Nm (c.d.fact 26 rfl)
  have g_NoTick := He.glo_ok (x := "NoTick") X Nm (c.d.fact 27 rfl)
  have g_NoWorld := He.glo_ok (x := "NoWorld") X Nm (c.d.fact 23 rfl)
  have g_Nothing := He.glo_ok (x := "Nothing") X Nm (c.d.fact 31 rfl)
  have g_Refused := He.glo_ok (x := "Refused") X Nm (c.d.fact 30 rfl)
  have g_TooMany := He.glo_ok (x := "TooMany") X Nm (c.d.fact 32 rfl)
  have g_Twice := He.glo_ok (x := "Twice") X Nm (c.d.fact 28 rfl)
  have g_UnlikeRooms := He.glo_ok (x := "UnlikeRooms") X Nm (c.d.fact 29 rfl)
  have E_BadBook := ecB_ok (List.all_eq_true.mp (He.ba (He.ba (He.ba c.more).2).2).2 _ (List.mem_of_getElem? (l := ecs) (i := 8) rfl))
  have E_BadDeed := ecB_ok (List.all_eq_true.mp (He.ba (He.ba (He.ba c.more).2).2).2 _ (List.mem_of_getElem? (l := ecs) (i := 3) rfl))
  have E_BadLine := ecB_ok (List.all_eq_true.mp (He.ba (He.ba (He.ba c.more).2).2).2 _ (List.mem_of_getElem? (l := ecs) (i := 23) rfl))
  have E_BadMachine := ecB_ok (List.all_eq_true.mp (He.ba (He.ba (He.ba c.more).2).2).2 _ (List.mem_of_getElem? (l := ecs) (i := 5) rfl))
  have E_BadNumbers := ecB_ok (List.all_eq_true.mp (He.ba (He.ba (He.ba c.more).2).2).2 _ (List.mem_of_getElem? (l := ecs) (i := 9) rfl))
  have E_BadPaper := ecB_ok (List.all_eq_true.mp (He.ba (He.ba (He.ba c.more).2).2).2 _ (List.mem_of_getElem? (l := ecs) (i := 10) rfl))
  have E_BadQuestion := ecB_ok (List.all_eq_true.mp (He.ba (He.ba (He.ba c.more).2).2).2 _ (List.mem_of_getElem? (l := ecs) (i := 7) rfl))
  have E_BadRoom := ecB_ok (List.all_eq_true.mp (He.ba (He.ba (He.ba c.more).2).2).2 _ (List.mem_of_getElem? (l := ecs) (i := 0) rfl))
  have E_BadSaying := ecB_ok (List.all_eq_true.mp (He.ba (He.ba (He.ba c.more).2).2).2 _ (List.mem_of_getElem? (l := ecs) (i := 2) rfl))
  have E_BadSpot := ecB_ok (List.all_eq_true.mp (He.ba (He.ba (He.ba c.more).2).2).2 _ (List.mem_of_getElem? (l := ecs) (i := 4) rfl))
  have E_BadStock := ecB_ok (List.all_eq_true.mp (He.ba (He.ba (He.ba c.more).2).2).2 _ (List.mem_of_getElem? (l := ecs) (i := 6) rfl))
  have E_BadText := ecB_ok (List.all_eq_true.mp (He.ba (He.ba (He.ba c.more).2).2).2 _ (List.mem_of_getElem? (l := ecs) (i := 22) rfl))
  have E_BadView := ecB_ok (List.all_eq_true.mp (He.ba (He.ba (He.ba c.more).2).2).2 _ (List.mem_of_getElem? (l := ecs) (i := 1) rfl))
  have E_NoFact := ecB_ok (List.all_eq_true.mp (He.ba (He.ba (He.ba c.more).2).2).2 _ (List.mem_of_getElem? (l := ecs) (i := 13) rfl))
  have E_NoOnlooker := ecB_ok (List.all_eq_true.mp (He.ba (He.ba (He.ba c.more).2).2).2 _ (List.mem_of_getElem? (l := ecs) (i := 14) rfl))
  have E_NoState := ecB_ok (List.all_eq_true.mp (He.ba (He.ba (He.ba c.more).2).2).2 _ (List.mem_of_getElem? (l := ecs) (i := 15) rfl))
  have E_NoTick := ecB_ok (List.all_eq_true.mp (He.ba (He.ba (He.ba c.more).2).2).2 _ (List.mem_of_getElem? (l := ecs) (i := 16) rfl))
  have E_NoWorld := ecB_ok (List.all_eq_true.mp (He.ba (He.ba (He.ba c.more).2).2).2 _ (List.mem_of_getElem? (l := ecs) (i := 12) rfl))
  have E_Nothing := ecB_ok (List.all_eq_true.mp (He.ba (He.ba (He.ba c.more).2).2).2 _ (List.mem_of_getElem? (l := ecs) (i := 20) rfl))
  have E_Refused := ecB_ok (List.all_eq_true.mp (He.ba (He.ba (He.ba c.more).2).2).2 _ (List.mem_of_getElem? (l := ecs) (i := 19) rfl))
  have E_TooMany := ecB_ok (List.all_eq_true.mp (He.ba (He.ba (He.ba c.more).2).2).2 _ (List.mem_of_getElem? (l := ecs) (i := 21) rfl))
  have E_Twice := ecB_ok (List.all_eq_true.mp (He.ba (He.ba (He.ba c.more).2).2).2 _ (List.mem_of_getElem? (l := ecs) (i := 17) rfl))
  have E_UnlikeRooms := ecB_ok (List.all_eq_true.mp (He.ba (He.ba (He.ba c.more).2).2).2 _ (List.mem_of_getElem? (l := ecs) (i := 18) rfl))
  obtain ⟨fd_BadBook, F_BadBook, B_BadBook, KB_BadBook_0⟩ := in8 (w := w) (mg := mg) (base := base) c
  obtain ⟨fd_BadDeed, F_BadDeed, B_BadDeed, KB_BadDeed_0⟩ := in3 (w := w) (mg := mg) (base := base) c
  obtain ⟨fd_BadLine, F_BadLine, B_BadLine, KB_BadLine_0⟩ := in18 (w := w) (mg := mg) (base := base) c
  obtain ⟨fd_BadMachine, F_BadMachine, B_BadMachine, KB_BadMachine_0⟩ := in5 (w := w) (mg := mg) (base := base) c
  obtain ⟨fd_BadNumbers, F_BadNumbers, B_BadNumbers, KB_BadNumbers_0⟩ := in9 (w := w) (mg := mg) (base := base) c
  obtain ⟨fd_BadPaper, F_BadPaper, B_BadPaper, KB_BadPaper_0⟩ := in10 (w := w) (mg := mg) (base := base) c
  obtain ⟨fd_BadQuestion, F_BadQuestion, B_BadQuestion, KB_BadQuestion_0⟩ := in7 (w := w) (mg := mg) (base := base) c
  obtain ⟨fd_BadRoom, F_BadRoom, B_BadRoom, KB_BadRoom_0⟩ := in0 (w := w) (mg := mg) (base := base) c
  obtain ⟨fd_BadSaying, F_BadSaying, B_BadSaying, KB_BadSaying_0⟩ := in2 (w := w) (mg := mg) (base := base) c
  obtain ⟨fd_BadSpot, F_BadSpot, B_BadSpot, KB_BadSpot_0⟩ := in4 (w := w) (mg := mg) (base := base) c
  obtain ⟨fd_BadStock, F_BadStock, B_BadStock, KB_BadStock_0⟩ := in6 (w := w) (mg := mg) (base := base) c
  obtain ⟨fd_BadText, F_BadText, B_BadText, KB_BadText_0⟩ := in17 (w := w) (mg := mg) (base := base) c
  obtain ⟨fd_BadView, F_BadView, B_BadView, KB_BadView_0⟩ := in1 (w := w) (mg := mg) (base := base) c
  obtain ⟨fd_Missing, F_Missing, B_Missing, KB_Missing_0⟩ := in11 (w := w) (mg := mg) (base := base) c
  obtain ⟨fd_Nothing, F_Nothing, B_Nothing, _⟩ := in15 (w := w) (mg := mg) (base := base) c
  obtain ⟨fd_Refused, F_Refused, B_Refused, KB_Refused_0⟩ := in14 (w := w) (mg := mg) (base := base) c
  obtain ⟨fd_TooMany, F_TooMany, B_TooMany, KB_TooMany_0⟩ := in16 (w := w) (mg := mg) (base := base) c
  obtain ⟨fd_Twice, F_Twice, B_Twice, KB_Twice_0⟩ := in12 (w := w) (mg := mg) (base := base) c
  obtain ⟨fd_UnlikeRooms, F_UnlikeRooms, B_UnlikeRooms, KB_UnlikeRooms_0⟩ := in13 (w := w) (mg := mg) (base := base) c
  have F1 : FunD K "_law_by_place" "_law_by_place" (defArgs s3) (defBody s3) (defScope s3) [] [] (He.ga K "_law_by_place") fd := F0
  show FnS ((G0 K).at hid) P w mg base (k + 3 + 1) (He.ga K "_law_by_place") fd ["_law_one", "_law_two"] (runF false 3 (b3 (Fs k)))
  refine FnS.of (G := (G0 K).at hid) (N := ["_law_one", "_law_two", "_law_made"]) (ps := ["_law_one", "_law_two"]) (keep := false) (m := b3 (Fs k)) F1 sc3 fun cd A outer s H E hr hgd => ?_
  have cf : Cf ((G0 K).at hid) (bodyCx ((G0 K).at hid) P w mg base ["_law_one", "_law_two", "_law_made"] "_law_by_place" (defScope s3) (He.ga K "_law_by_place") cd A outer s H E) := ⟨rfl, rfl, sc3.nd, hgd, hr.units⟩
  have hr2 := hr.mono (show 2 ≤ k + 3 by omega)
  exact SSs.cons (SS.asg (SE.lst (aCons (SE.exn (ps := ["self", "part"]) (exc_of (x := "BadRoom") (by rfl) (by rfl) E_BadRoom (by decide) F_BadRoom) cf.hK hr2 (by rfl) g_BadRoom B_BadRoom (by rfl) (by decide) (aCons (sVar (i := 0) (by rfl) (Or.inl (by rfl))) (SA.nil)) (by decide) (star_cons (by rfl)) (star_none (by rfl)) pss_none) (aCons (SE.exn (ps := ["self", "part"]) (exc_of (x := "BadView") (by rfl) (by rfl) E_BadView (by decide) F_BadView) cf.hK hr2 (by rfl) g_BadView B_BadView (by rfl) (by decide) (aCons (sVar (i := 0) (by rfl) (Or.inl (by rfl))) (SA.nil)) (by decide) (star_cons (by rfl)) (star_none (by rfl)) pss_none) (aCons (SE.exn (ps := ["self", "part"]) (exc_of (x := "BadSaying") (by rfl) (by rfl) E_BadSaying (by decide) F_BadSaying) cf.hK hr2 (by rfl) g_BadSaying B_BadSaying (by rfl) (by decide) (aCons (sVar (i := 0) (by rfl) (Or.inl (by rfl))) (SA.nil)) (by decide) (star_cons (by rfl)) (star_none (by rfl)) pss_none) (aCons (SE.exn (ps := ["self", "part"]) (exc_of (x := "BadDeed") (by rfl) (by rfl) E_BadDeed (by decide) F_BadDeed) cf.hK hr2 (by rfl) g_BadDeed B_BadDeed (by rfl) (by decide) (aCons (sVar (i := 0) (by rfl) (Or.inl (by rfl))) (SA.nil)) (by decide) (star_cons (by rfl)) (star_none (by rfl)) pss_none) (aCons (SE.exn (ps := ["self", "part"]) (exc_of (x := "BadSpot") (by rfl) (by rfl) E_BadSpot (by decide) F_BadSpot) cf.hK hr2 (by rfl) g_BadSpot B_BadSpot (by rfl) (by decide) (aCons (sVar (i := 0) (by rfl) (Or.inl (by rfl))) (SA.nil)) (by decide) (star_cons (by rfl)) (star_none (by rfl)) pss_none) (aCons (SE.exn (ps := ["self", "part"]) (exc_of (x := "BadMachine") (by rfl) (by rfl) E_BadMachine (by decide) F_BadMachine) cf.hK hr2 (by rfl) g_BadMachine B_BadMachine (by rfl) (by decide) (aCons (sVar (i := 0) (by rfl) (Or.inl (by rfl))) (SA.nil)) (by decide) (star_cons (by rfl)) (star_none (by rfl)) pss_none) (aCons (SE.exn (ps := ["self", "part"]) (exc_of (x := "BadStock") (by rfl) (by rfl) E_BadStock (by decide) F_BadStock) cf.hK hr2 (by rfl) g_BadStock B_BadStock (by rfl) (by decide) (aCons (sVar (i := 0) (by rfl) (Or.inl (by rfl))) (SA.nil)) (by decide) (star_cons (by rfl)) (star_none (by rfl)) pss_none) (SA.nil))))))))) (SG.name cf.nd (i := 2) (by rfl) (Or.inl (by rfl)) (Or.inl (by rfl))) (by rfl) (by rfl) (by rfl)) (SSs.cons (SS.asg (sAdd cf (sVar (i := 2) (by rfl) (Or.inl (by rfl))) (SE.lst (aCons (SE.exn (ps := ["self", "part"]) (exc_of (x := "BadQuestion") (by rfl) (by rfl) E_BadQuestion (by decide) F_BadQuestion) cf.hK hr2 (by rfl) g_BadQuestion B_BadQuestion (by rfl) (by decide) (aCons (sVar (i := 0) (by rfl) (Or.inl (by rfl))) (SA.nil)) (by decide) (star_cons (by rfl)) (star_none (by rfl)) pss_none) (aCons (SE.exn (ps := ["self", "part"]) (exc_of (x := "BadBook") (by rfl) (by rfl) E_BadBook (by decide) F_BadBook) cf.hK hr2 (by rfl) g_BadBook B_BadBook (by rfl) (by decide) (aCons (sVar (i := 0) (by rfl) (Or.inl (by rfl))) (SA.nil)) (by decide) (star_cons (by rfl)) (star_none (by rfl)) pss_none) (aCons (SE.exn (ps := ["self", "part"]) (exc_of (x := "BadNumbers") (by rfl) (by rfl) E_BadNumbers (by decide) F_BadNumbers) cf.hK hr2 (by rfl) g_BadNumbers B_BadNumbers (by rfl) (by decide) (aCons (sVar (i := 0) (by rfl) (Or.inl (by rfl))) (SA.nil)) (by decide) (star_cons (by rfl)) (star_none (by rfl)) pss_none) (aCons (SE.exn (ps := ["self", "part"]) (exc_of (x := "BadPaper") (by rfl) (by rfl) E_BadPaper (by decide) F_BadPaper) cf.hK hr2 (by rfl) g_BadPaper B_BadPaper (by rfl) (by decide) (aCons (sVar (i := 0) (by rfl) (Or.inl (by rfl))) (SA.nil)) (by decide) (star_cons (by rfl)) (star_none (by rfl)) pss_none) (aCons (SE.exn (ps := ["self", "part"]) (exc_of (x := "UnlikeRooms") (by rfl) (by rfl) E_UnlikeRooms (by decide) F_UnlikeRooms) cf.hK hr2 (by rfl) g_UnlikeRooms B_UnlikeRooms (by rfl) (by decide) (aCons (sVar (i := 0) (by rfl) (Or.inl (by rfl))) (SA.nil)) (by decide) (star_cons (by rfl)) (star_none (by rfl)) pss_none) (SA.nil)))))))) (SG.name cf.nd (i := 2) (by rfl) (Or.inl (by rfl)) (Or.inl (by rfl))) (by rfl) (by rfl) (by rfl)) (SSs.cons (SS.asg (sAdd cf (sVar (i := 2) (by rfl) (Or.inl (by rfl))) (SE.lst (aCons (SE.exn (ps := ["self", "name"]) (exc_of (x := "NoWorld") (by rfl) (by rfl) E_NoWorld (by decide) F_Missing) cf.hK hr2 (by rfl) g_NoWorld B_Missing (by rfl) (by decide) (aCons (sVar (i := 0) (by rfl) (Or.inl (by rfl))) (SA.nil)) (by decide) (star_cons (by rfl)) (star_none (by rfl)) pss_none) (aCons (SE.exn (ps := ["self", "name"]) (exc_of (x := "NoFact") (by rfl) (by rfl) E_NoFact (by decide) F_Missing) cf.hK hr2 (by rfl) g_NoFact B_Missing (by rfl) (by decide) (aCons (sVar (i := 0) (by rfl) (Or.inl (by rfl))) (SA.nil)) (by decide) (star_cons (by rfl)) (star_none (by rfl)) pss_none) (aCons (SE.exn (ps := ["self", "name"]) (exc_of (x := "NoOnlooker") (by rfl) (by rfl) E_NoOnlooker (by decide) F_Missing) cf.hK hr2 (by rfl) g_NoOnlooker B_Missing (by rfl) (by decide) (aCons (sVar (i := 0) (by rfl) (Or.inl (by rfl))) (SA.nil)) (by decide) (star_cons (by rfl)) (star_none (by rfl)) pss_none) (aCons (SE.exn (ps := ["self", "name"]) (exc_of (x := "NoState") (by rfl) (by rfl) E_NoState (by decide) F_Missing) cf.hK hr2 (by rfl) g_NoState B_Missing (by rfl) (by decide) (aCons (sVar (i := 0) (by rfl) (Or.inl (by rfl))) (SA.nil)) (by decide) (star_cons (by rfl)) (star_none (by rfl)) pss_none) (aCons (SE.exn (ps := ["self", "name"]) (exc_of (x := "NoTick") (by rfl) (by rfl) E_NoTick (by decide) F_Missing) cf.hK hr2 (by rfl) g_NoTick B_Missing (by rfl) (by decide) (aCons (sVar (i := 0) (by rfl) (Or.inl (by rfl))) (SA.nil)) (by decide) (star_cons (by rfl)) (star_none (by rfl)) pss_none) (aCons (SE.exn (ps := ["self", "name"]) (exc_of (x := "Twice") (by rfl) (by rfl) E_Twice (by decide) F_Twice) cf.hK hr2 (by rfl) g_Twice B_Twice (by rfl) (by decide) (aCons (sVar (i := 0) (by rfl) (Or.inl (by rfl))) (SA.nil)) (by decide) (star_cons (by rfl)) (star_none (by rfl)) pss_none) (aCons (SE.exn (ps := ["self", "at"]) (exc_of (x := "Refused") (by rfl) (by rfl) E_Refused (by decide) F_Refused) cf.hK hr2 (by rfl) g_Refused B_Refused (by rfl) (by decide) (aCons (sVar (i := 0) (by rfl) (Or.inl (by rfl))) (SA.nil)) (by decide) (star_cons (by rfl)) (star_none (by rfl)) pss_none) (SA.nil)))))))))) (SG.name cf.nd (i := 2) (by rfl) (Or.inl (by rfl)) (Or.inl (by rfl))) (by rfl) (by rfl) (by rfl)) (SSs.one (SS.ret (sAdd cf (sVar (i := 2) (by rfl) (Or.inl (by rfl))) (SE.lst (aCons (SE.exn (ps := ["self", "what", "most"]) (exc_of (x := "TooMany") (by rfl) (by rfl) E_TooMany (by decide) F_TooMany) cf.hK hr2 (by rfl) g_TooMany B_TooMany (by rfl) (by decide) (aCons (sVar (i := 0) (by rfl) (Or.inl (by rfl))) (aCons (sVar (i := 1) (by rfl) (Or.inl (by rfl))) (SA.nil))) (by decide) (star_cons (by rfl)) (star_none (by rfl)) pss_none) (aCons (SE.exn (ps := ["self", "line", "word"]) (exc_of (x := "BadText") (by rfl) (by rfl) E_BadText (by decide) F_BadText) cf.hK hr2 (by rfl) g_BadText B_BadText (by rfl) (by decide) (aCons (sVar (i := 0) (by rfl) (Or.inl (by rfl))) (aCons (sVar (i := 1) (by rfl) (Or.inl (by rfl))) (SA.nil))) (by decide) (star_cons (by rfl)) (star_none (by rfl)) pss_none) (aCons (SE.exn (ps := ["self", "line", "error"]) (exc_of (x := "BadLine") (by rfl) (by rfl) E_BadLine (by decide) F_BadLine) cf.hK hr2 (by rfl) g_BadLine B_BadLine (by rfl) (by decide) (aCons (sVar (i := 0) (by rfl) (Or.inl (by rfl))) (aCons (sVar (i := 1) (by rfl) (Or.inl (by rfl))) (SA.nil))) (by decide) (star_cons (by rfl)) (star_none (by rfl)) pss_none) (aCons (SE.exn0 (ps := ["self"]) (exc_of (x := "Nothing") (by rfl) (by rfl) E_Nothing (by decide) F_Nothing) cf.hK hr2 (by rfl) g_Nothing B_Nothing (by rfl) (by decide) pss_none) (SA.nil)))))))))))
theorem sc4 : FnScope ["_law_one", "_law_two", "_law_made"] ["_law_one", "_law_two"] (defScope s4) := ⟨rfl, rfl, rfl, by decide +kernel, rfl, by decide +kernel, by decide +kernel⟩
theorem ok4 (X : K.In base) (Nm : base.Ns mainGlobals mg) (c : SaysX P fa fn fy ex K) {k : Nat} (ih : ∀ i, Ih P w K mg base k i) : Ih P w K mg base (k + 1) 4 := by
  intro hid fd F0
  have g_BadBook := He.glo_ok (x := "BadBook") X Nm (c.d.fact 19 rfl)
  have g_BadDeed := He.glo_ok (x := "BadDeed") X Nm (c.d.fact 14 rfl)
  have g_BadLine := He.glo_ok (x := "BadLine") X Nm (c.d.fact 34 rfl)
  have g_BadMachine := He.glo_ok (x := "BadMachine") X Nm (c.d.fact 16 rfl)
  have g_BadNumbers := He.glo_ok (x := "BadNumbers") X Nm (c.d.fact 20 rfl)
  have g_BadPaper := He.glo_ok (x := "BadPaper") X Nm (c.d.fact 21 rfl)
  have g_BadQuestion := He.glo_ok (x := "BadQuestion") X Nm (c.d.fact 18 rfl)
  have g_BadRoom := He.glo_ok (x := "BadRoom") X Nm (c.d.fact 11 rfl)
  have g_BadSaying := He.glo_ok (x := "BadSaying") X Nm (c.d.fact 13 rfl)
  have g_BadSpot := He.glo_ok (x := "BadSpot") X Nm (c.d.fact 15 rfl)
  have g_BadStock := He.glo_ok (x := "BadStock") X Nm (c.d.fact 17 rfl)
  have g_BadText := He.glo_ok (x := "BadText") X Nm (c.d.fact 33 rfl)
  have g_BadView := He.glo_ok (x := "BadView") X Nm (c.d.fact 12 rfl)
  have g_NoFact := He.glo_ok (x := "NoFact") X Nm (c.d.fact 24 rfl)
  have g_NoOnlooker := He.glo_ok (x := "NoOnlooker") X Nm (c.d.fact 25 rfl)
  have g_NoState := He.glo_ok (x := "NoState") X Nm (c.d.fact 26 rfl)
  have g_NoTick := He.glo_ok (x := "NoTick") X Nm (c.d.fact 27 rfl)
  have g_NoWorld := He.glo_ok (x := "NoWorld") X Nm (c.d.fact 23 rfl)
  have g_Nothing := He.glo_ok (x := "Nothing") X Nm (c.d.fact 31 rfl)
  have g_Refused := He.glo_ok (x := "Refused") X Nm (c.d.fact 30 rfl)
  have g_TooMany := He.glo_ok (x := "TooMany") X Nm (c.d.fact 32 rfl)
  have g_Twice := He.glo_ok (x := "Twice") X Nm (c.d.fact 28 rfl)
  have g_UnlikeRooms := He.glo_ok (x := "UnlikeRooms") X Nm (c.d.fact 29 rfl)
  have E_BadBook := ecB_ok (List.all_eq_true.mp (He.ba (He.ba (He.ba c.more).2).2).2 _ (List.mem_of_getElem? (l := ecs) (i := 8) rfl))
  have E_BadDeed := ecB_ok (List.all_eq_true.mp (He.ba (He.ba (He.ba c.more).2).2).2 _ (List.mem_of_getElem? (l := ecs) (i := 3) rfl))
  have E_BadLine := ecB_ok (List.all_eq_true.mp (He.ba (He.ba (He.ba c.more).2).2).2 _ (List.mem_of_getElem? (l := ecs) (i := 23) rfl))
  have E_BadMachine := ecB_ok (List.all_eq_true.mp (He.ba (He.ba (He.ba c.more).2).2).2 _ (List.mem_of_getElem? (l := ecs) (i := 5) rfl))
  have E_BadNumbers := ecB_ok (List.all_eq_true.mp (He.ba (He.ba (He.ba c.more).2).2).2 _ (List.mem_of_getElem? (l := ecs) (i := 9) rfl))
  have E_BadPaper := ecB_ok (List.all_eq_true.mp (He.ba (He.ba (He.ba c.more).2).2).2 _ (List.mem_of_getElem? (l := ecs) (i := 10) rfl))
  have E_BadQuestion := ecB_ok (List.all_eq_true.mp (He.ba (He.ba (He.ba c.more).2).2).2 _ (List.mem_of_getElem? (l := ecs) (i := 7) rfl))
  have E_BadRoom := ecB_ok (List.all_eq_true.mp (He.ba (He.ba (He.ba c.more).2).2).2 _ (List.mem_of_getElem? (l := ecs) (i := 0) rfl))
  have E_BadSaying := ecB_ok (List.all_eq_true.mp (He.ba (He.ba (He.ba c.more).2).2).2 _ (List.mem_of_getElem? (l := ecs) (i := 2) rfl))
  have E_BadSpot := ecB_ok (List.all_eq_true.mp (He.ba (He.ba (He.ba c.more).2).2).2 _ (List.mem_of_getElem? (l := ecs) (i := 4) rfl))
  have E_BadStock := ecB_ok (List.all_eq_true.mp (He.ba (He.ba (He.ba c.more).2).2).2 _ (List.mem_of_getElem? (l := ecs) (i := 6) rfl))
  have E_BadText := ecB_ok (List.all_eq_true.mp (He.ba (He.ba (He.ba c.more).2).2).2 _ (List.mem_of_getElem? (l := ecs) (i := 22) rfl))
  have E_BadView := ecB_ok (List.all_eq_true.mp (He.ba (He.ba (He.ba c.more).2).2).2 _ (List.mem_of_getElem? (l := ecs) (i := 1) rfl))
  have E_NoFact := ecB_ok (List.all_eq_true.mp (He.ba (He.ba (He.ba c.more).2).2).2 _ (List.mem_of_getElem? (l := ecs) (i := 13) rfl))
  have E_NoOnlooker := ecB_ok (List.all_eq_true.mp (He.ba (He.ba (He.ba c.more).2).2).2 _ (List.mem_of_getElem? (l := ecs) (i := 14) rfl))
  have E_NoState := ecB_ok (List.all_eq_true.mp (He.ba (He.ba (He.ba c.more).2).2).2 _ (List.mem_of_getElem? (l := ecs) (i := 15) rfl))
  have E_NoTick := ecB_ok (List.all_eq_true.mp (He.ba (He.ba (He.ba c.more).2).2).2 _ (List.mem_of_getElem? (l := ecs) (i := 16) rfl))
  have E_NoWorld := ecB_ok (List.all_eq_true.mp (He.ba (He.ba (He.ba c.more).2).2).2 _ (List.mem_of_getElem? (l := ecs) (i := 12) rfl))
  have E_Nothing := ecB_ok (List.all_eq_true.mp (He.ba (He.ba (He.ba c.more).2).2).2 _ (List.mem_of_getElem? (l := ecs) (i := 20) rfl))
  have E_Refused := ecB_ok (List.all_eq_true.mp (He.ba (He.ba (He.ba c.more).2).2).2 _ (List.mem_of_getElem? (l := ecs) (i := 19) rfl))
  have E_TooMany := ecB_ok (List.all_eq_true.mp (He.ba (He.ba (He.ba c.more).2).2).2 _ (List.mem_of_getElem? (l := ecs) (i := 21) rfl))
  have E_Twice := ecB_ok (List.all_eq_true.mp (He.ba (He.ba (He.ba c.more).2).2).2 _ (List.mem_of_getElem? (l := ecs) (i := 17) rfl))
  have E_UnlikeRooms := ecB_ok (List.all_eq_true.mp (He.ba (He.ba (He.ba c.more).2).2).2 _ (List.mem_of_getElem? (l := ecs) (i := 18) rfl))
  obtain ⟨fd_BadBook, F_BadBook, B_BadBook, KB_BadBook_0⟩ := in8 (w := w) (mg := mg) (base := base) c
  obtain ⟨fd_BadDeed, F_BadDeed, B_BadDeed, KB_BadDeed_0⟩ := in3 (w := w) (mg := mg) (base := base) c
  obtain ⟨fd_BadLine, F_BadLine, B_BadLine, KB_BadLine_0⟩ := in18 (w := w) (mg := mg) (base := base) c
  obtain ⟨fd_BadMachine, F_BadMachine, B_BadMachine, KB_BadMachine_0⟩ := in5 (w := w) (mg := mg) (base := base) c
  obtain ⟨fd_BadNumbers, F_BadNumbers, B_BadNumbers, KB_BadNumbers_0⟩ := in9 (w := w) (mg := mg) (base := base) c
  obtain ⟨fd_BadPaper, F_BadPaper, B_BadPaper, KB_BadPaper_0⟩ := in10 (w := w) (mg := mg) (base := base) c
  obtain ⟨fd_BadQuestion, F_BadQuestion, B_BadQuestion, KB_BadQuestion_0⟩ := in7 (w := w) (mg := mg) (base := base) c
  obtain ⟨fd_BadRoom, F_BadRoom, B_BadRoom, KB_BadRoom_0⟩ := in0 (w := w) (mg := mg) (base := base) c
  obtain ⟨fd_BadSaying, F_BadSaying, B_BadSaying, KB_BadSaying_0⟩ := in2 (w := w) (mg := mg) (base := base) c
  obtain ⟨fd_BadSpot, F_BadSpot, B_BadSpot, KB_BadSpot_0⟩ := in4 (w := w) (mg := mg) (base := base) c
  obtain ⟨fd_BadStock, F_BadStock, B_BadStock, KB_BadStock_0⟩ := in6 (w := w) (mg := mg) (base := base) c
  obtain ⟨fd_BadText, F_BadText, B_BadText, KB_BadText_0⟩ := in17 (w := w) (mg := mg) (base := base) c
  obtain ⟨fd_BadView, F_BadView, B_BadView, KB_BadView_0⟩ := in1 (w := w) (mg := mg) (base := base) c
  obtain ⟨fd_Missing, F_Missing, B_Missing, KB_Missing_0⟩ := in11 (w := w) (mg := mg) (base := base) c
  obtain ⟨fd_Nothing, F_Nothing, B_Nothing, _⟩ := in15 (w := w) (mg := mg) (base := base) c
  obtain ⟨fd_Refused, F_Refused, B_Refused, KB_Refused_0⟩ := in14 (w := w) (mg := mg) (base := base) c
  obtain ⟨fd_TooMany, F_TooMany, B_TooMany, KB_TooMany_0⟩ := in16 (w := w) (mg := mg) (base := base) c
  obtain ⟨fd_Twice, F_Twice, B_Twice, KB_Twice_0⟩ := in12 (w := w) (mg := mg) (base := base) c
  obtain ⟨fd_UnlikeRooms, F_UnlikeRooms, B_UnlikeRooms, KB_UnlikeRooms_0⟩ := in13 (w := w) (mg := mg) (base := base) c
  have F1 : FunD K "_law_by_name" "_law_by_name" (defArgs s4) (defBody s4) (defScope s4) [] [] (He.ga K "_law_by_name") fd := F0
  show FnS ((G0 K).at hid) P w mg base (k + 3 + 1) (He.ga K "_law_by_name") fd ["_law_one", "_law_two"] (runF false 3 (b4 (Fs k)))
  refine FnS.of (G := (G0 K).at hid) (N := ["_law_one", "_law_two", "_law_made"]) (ps := ["_law_one", "_law_two"]) (keep := false) (m := b4 (Fs k)) F1 sc4 fun cd A outer s H E hr hgd => ?_
  have cf : Cf ((G0 K).at hid) (bodyCx ((G0 K).at hid) P w mg base ["_law_one", "_law_two", "_law_made"] "_law_by_name" (defScope s4) (He.ga K "_law_by_name") cd A outer s H E) := ⟨rfl, rfl, sc4.nd, hgd, hr.units⟩
  have hr2 := hr.mono (show 2 ≤ k + 3 by omega)
  exact SSs.cons (SS.asg (SE.lst (aCons (SE.exnK (ps := ["self", "part"]) (ks := ["part"]) (exc_of (x := "BadRoom") (by rfl) (by rfl) E_BadRoom (by decide) F_BadRoom) cf.hK hr2 (by rfl) g_BadRoom (KB_BadRoom_0) (SK.cons (sVar (i := 0) (by rfl) (Or.inl (by rfl))) (SK.nil)) (by rfl) (by rfl) (by decide) (by rfl) pss_none) (aCons (SE.exnK (ps := ["self", "part"]) (ks := ["part"]) (exc_of (x := "BadView") (by rfl) (by rfl) E_BadView (by decide) F_BadView) cf.hK hr2 (by rfl) g_BadView (KB_BadView_0) (SK.cons (sVar (i := 0) (by rfl) (Or.inl (by rfl))) (SK.nil)) (by rfl) (by rfl) (by decide) (by rfl) pss_none) (aCons (SE.exnK (ps := ["self", "part"]) (ks := ["part"]) (exc_of (x := "BadSaying") (by rfl) (by rfl) E_BadSaying (by decide) F_BadSaying) cf.hK hr2 (by rfl) g_BadSaying (KB_BadSaying_0) (SK.cons (sVar (i := 0) (by rfl) (Or.inl (by rfl))) (SK.nil)) (by rfl) (by rfl) (by decide) (by rfl) pss_none) (aCons (SE.exnK (ps := ["self", "part"]) (ks := ["part"]) (exc_of (x := "BadDeed") (by rfl) (by rfl) E_BadDeed (by decide) F_BadDeed) cf.hK hr2 (by rfl) g_BadDeed (KB_BadDeed_0) (SK.cons (sVar (i := 0) (by rfl) (Or.inl (by rfl))) (SK.nil)) (by rfl) (by rfl) (by decide) (by rfl) pss_none) (aCons (SE.exnK (ps := ["self", "part"]) (ks := ["part"]) (exc_of (x := "BadSpot") (by rfl) (by rfl) E_BadSpot (by decide) F_BadSpot) cf.hK hr2 (by rfl) g_BadSpot (KB_BadSpot_0) (SK.cons (sVar (i := 0) (by rfl) (Or.inl (by rfl))) (SK.nil)) (by rfl) (by rfl) (by decide) (by rfl) pss_none) (SA.nil))))))) (SG.name cf.nd (i := 2) (by rfl) (Or.inl (by rfl)) (Or.inl (by rfl))) (by rfl) (by rfl) (by rfl)) (SSs.cons (SS.asg (sAdd cf (sVar (i := 2) (by rfl) (Or.inl (by rfl))) (SE.lst (aCons (SE.exnK (ps := ["self", "part"]) (ks := ["part"]) (exc_of (x := "BadMachine") (by rfl) (by rfl) E_BadMachine (by decide) F_BadMachine) cf.hK hr2 (by rfl) g_BadMachine (KB_BadMachine_0) (SK.cons (sVar (i := 0) (by rfl) (Or.inl (by rfl))) (SK.nil)) (by rfl) (by rfl) (by decide) (by rfl) pss_none) (aCons (SE.exnK (ps := ["self", "part"]) (ks := ["part"]) (exc_of (x := "BadStock") (by rfl) (by rfl) E_BadStock (by decide) F_BadStock) cf.hK hr2 (by rfl) g_BadStock (KB_BadStock_0) (SK.cons (sVar (i := 0) (by rfl) (Or.inl (by rfl))) (SK.nil)) (by rfl) (by rfl) (by decide) (by rfl) pss_none) (aCons (SE.exnK (ps := ["self", "part"]) (ks := ["part"]) (exc_of (x := "BadQuestion") (by rfl) (by rfl) E_BadQuestion (by decide) F_BadQuestion) cf.hK hr2 (by rfl) g_BadQuestion (KB_BadQuestion_0) (SK.cons (sVar (i := 0) (by rfl) (Or.inl (by rfl))) (SK.nil)) (by rfl) (by rfl) (by decide) (by rfl) pss_none) (aCons (SE.exnK (ps := ["self", "part"]) (ks := ["part"]) (exc_of (x := "BadBook") (by rfl) (by rfl) E_BadBook (by decide) F_BadBook) cf.hK hr2 (by rfl) g_BadBook (KB_BadBook_0) (SK.cons (sVar (i := 0) (by rfl) (Or.inl (by rfl))) (SK.nil)) (by rfl) (by rfl) (by decide) (by rfl) pss_none) (SA.nil))))))) (SG.name cf.nd (i := 2) (by rfl) (Or.inl (by rfl)) (Or.inl (by rfl))) (by rfl) (by rfl) (by rfl)) (SSs.cons (SS.asg (sAdd cf (sVar (i := 2) (by rfl) (Or.inl (by rfl))) (SE.lst (aCons (SE.exnK (ps := ["self", "part"]) (ks := ["part"]) (exc_of (x := "BadNumbers") (by rfl) (by rfl) E_BadNumbers (by decide) F_BadNumbers) cf.hK hr2 (by rfl) g_BadNumbers (KB_BadNumbers_0) (SK.cons (sVar (i := 0) (by rfl) (Or.inl (by rfl))) (SK.nil)) (by rfl) (by rfl) (by decide) (by rfl) pss_none) (aCons (SE.exnK (ps := ["self", "part"]) (ks := ["part"]) (exc_of (x := "BadPaper") (by rfl) (by rfl) E_BadPaper (by decide) F_BadPaper) cf.hK hr2 (by rfl) g_BadPaper (KB_BadPaper_0) (SK.cons (sVar (i := 0) (by rfl) (Or.inl (by rfl))) (SK.nil)) (by rfl) (by rfl) (by decide) (by rfl) pss_none) (aCons (SE.exnK (ps := ["self", "part"]) (ks := ["part"]) (exc_of (x := "UnlikeRooms") (by rfl) (by rfl) E_UnlikeRooms (by decide) F_UnlikeRooms) cf.hK hr2 (by rfl) g_UnlikeRooms (KB_UnlikeRooms_0) (SK.cons (sVar (i := 0) (by rfl) (Or.inl (by rfl))) (SK.nil)) (by rfl) (by rfl) (by decide) (by rfl) pss_none) (aCons (SE.exnK (ps := ["self", "name"]) (ks := ["name"]) (exc_of (x := "NoWorld") (by rfl) (by rfl) E_NoWorld (by decide) F_Missing) cf.hK hr2 (by rfl) g_NoWorld (KB_Missing_0) (SK.cons (sVar (i := 0) (by rfl) (Or.inl (by rfl))) (SK.nil)) (by rfl) (by rfl) (by decide) (by rfl) pss_none) (aCons (SE.exnK (ps := ["self", "name"]) (ks := ["name"]) (exc_of (x := "NoFact") (by rfl) (by rfl) E_NoFact (by decide) F_Missing) cf.hK hr2 (by rfl) g_NoFact (KB_Missing_0) (SK.cons (sVar (i := 0) (by rfl) (Or.inl (by rfl))) (SK.nil)) (by rfl) (by rfl) (by decide) (by rfl) pss_none) (SA.nil)))))))) (SG.name cf.nd (i := 2) (by rfl) (Or.inl (by rfl)) (Or.inl (by rfl))) (by rfl) (by rfl) (by rfl)) (SSs.cons (SS.asg (sAdd cf (sVar (i := 2) (by rfl) (Or.inl (by rfl))) (SE.lst (aCons (SE.exnK (ps := ["self", "name"]) (ks := ["name"]) (exc_of (x := "NoOnlooker") (by rfl) (by rfl) E_NoOnlooker (by decide) F_Missing) cf.hK hr2 (by rfl) g_NoOnlooker (KB_Missing_0) (SK.cons (sVar (i := 0) (by rfl) (Or.inl (by rfl))) (SK.nil)) (by rfl) (by rfl) (by decide) (by rfl) pss_none) (aCons (SE.exnK (ps := ["self", "name"]) (ks := ["name"]) (exc_of (x := "NoState") (by rfl) (by rfl) E_NoState (by decide) F_Missing) cf.hK hr2 (by rfl) g_NoState (KB_Missing_0) (SK.cons (sVar (i := 0) (by rfl) (Or.inl (by rfl))) (SK.nil)) (by rfl) (by rfl) (by decide) (by rfl) pss_none) (aCons (SE.exnK (ps := ["self", "name"]) (ks := ["name"]) (exc_of (x := "NoTick") (by rfl) (by rfl) E_NoTick (by decide) F_Missing) cf.hK hr2 (by rfl) g_NoTick (KB_Missing_0) (SK.cons (sVar (i := 0) (by rfl) (Or.inl (by rfl))) (SK.nil)) (by rfl) (by rfl) (by decide) (by rfl) pss_none) (aCons (SE.exnK (ps := ["self", "name"]) (ks := ["name"]) (exc_of (x := "Twice") (by rfl) (by rfl) E_Twice (by decide) F_Twice) cf.hK hr2 (by rfl) g_Twice (KB_Twice_0) (SK.cons (sVar (i := 0) (by rfl) (Or.inl (by rfl))) (SK.nil)) (by rfl) (by rfl) (by decide) (by rfl) pss_none) (aCons (SE.exnK (ps := ["self", "at"]) (ks := ["at"]) (exc_of (x := "Refused") (by rfl) (by rfl) E_Refused (by decide) F_Refused) cf.hK hr2 (by rfl) g_Refused (KB_Refused_0) (SK.cons (sVar (i := 0) (by rfl) (Or.inl (by rfl))) (SK.nil)) (by rfl) (by rfl) (by decide) (by rfl) pss_none) (SA.nil)))))))) (SG.name cf.nd (i := 2) (by rfl) (Or.inl (by rfl)) (Or.inl (by rfl))) (by rfl) (by rfl) (by rfl)) (SSs.one (SS.ret (sAdd cf (sVar (i := 2) (by rfl) (Or.inl (by rfl))) (SE.lst (aCons (SE.exnK (ps := ["self", "what", "most"]) (ks := ["most", "what"]) (exc_of (x := "TooMany") (by rfl) (by rfl) E_TooMany (by decide) F_TooMany) cf.hK hr2 (by rfl) g_TooMany (KB_TooMany_0) (SK.cons (sVar (i := 1) (by rfl) (Or.inl (by rfl))) (SK.cons (sVar (i := 0) (by rfl) (Or.inl (by rfl))) (SK.nil))) (by rfl) (by rfl) (by decide) (by rfl) pss_none) (aCons (SE.exnK (ps := ["self", "line", "word"]) (ks := ["word", "line"]) (exc_of (x := "BadText") (by rfl) (by rfl) E_BadText (by decide) F_BadText) cf.hK hr2 (by rfl) g_BadText (KB_BadText_0) (SK.cons (sVar (i := 1) (by rfl) (Or.inl (by rfl))) (SK.cons (sVar (i := 0) (by rfl) (Or.inl (by rfl))) (SK.nil))) (by rfl) (by rfl) (by decide) (by rfl) pss_none) (aCons (SE.exnK (ps := ["self", "line", "error"]) (ks := ["error", "line"]) (exc_of (x := "BadLine") (by rfl) (by rfl) E_BadLine (by decide) F_BadLine) cf.hK hr2 (by rfl) g_BadLine (KB_BadLine_0) (SK.cons (sVar (i := 1) (by rfl) (Or.inl (by rfl))) (SK.cons (sVar (i := 0) (by rfl) (Or.inl (by rfl))) (SK.nil))) (by rfl) (by rfl) (by decide) (by rfl) pss_none) (aCons (SE.exn0 (ps := ["self"]) (exc_of (x := "Nothing") (by rfl) (by rfl) E_Nothing (by decide) F_Nothing) cf.hK hr2 (by rfl) g_Nothing B_Nothing (by rfl) (by decide) pss_none) (SA.nil))))))))))))
theorem sc5 : FnScope ["_law_error", "_law_place"] ["_law_error", "_law_place"] (defScope s5) := ⟨rfl, rfl, rfl, by decide +kernel, rfl, by decide +kernel, by decide +kernel⟩
theorem ok5 (X : K.In base) (Nm : base.Ns mainGlobals mg) (c : SaysX P fa fn fy ex K) {k : Nat} (ih : ∀ i, Ih P w K mg base k i) : Ih P w K mg base (k + 1) 5 := by
  intro hid fd F0
  have kfo : ∀ hid, KfOk ((G0 K).at hid) kf := fun hid => kfX_ok (He.ba (He.ba c.more).2).1 (He.ba (He.ba (He.ba c.more).2).2).1 hid
  have F1 : FunD K "_law_fields" "_law_fields" (defArgs s5) (defBody s5) (defScope s5) [] [] (He.ga K "_law_fields") fd := F0
  show FnS ((G0 K).at hid) P w mg base (k + 3 + 1) (He.ga K "_law_fields") fd ["_law_error", "_law_place"] (runF false 2 (b5 (Fs k)))
  refine FnS.of (G := (G0 K).at hid) (N := ["_law_error", "_law_place"]) (ps := ["_law_error", "_law_place"]) (keep := false) (m := b5 (Fs k)) F1 sc5 fun cd A outer s H E hr hgd => ?_
  have cf : Cf ((G0 K).at hid) (bodyCx ((G0 K).at hid) P w mg base ["_law_error", "_law_place"] "_law_fields" (defScope s5) (He.ga K "_law_fields") cd A outer s H E) := ⟨rfl, rfl, sc5.nd, hgd, hr.units⟩
  exact SSs.cons (SS.if_ (tCmp cf oLt (sVar (i := 1) (by rfl) (Or.inl (by rfl))) (sInt)) (SSs.one (SS.ret (SE.tup (aCons (SE.fld (kfo _) cf.hK (sVar (i := 0) (by rfl) (Or.inl (by rfl))) (by rfl)) (SA.nil))))) (SSs.nil)) (SSs.cons (SS.if_ (tCmp cf oLt (sVar (i := 1) (by rfl) (Or.inl (by rfl))) (sInt)) (SSs.one (SS.ret (SE.tup (aCons (SE.fld (kfo _) cf.hK (sVar (i := 0) (by rfl) (Or.inl (by rfl))) (by rfl)) (SA.nil))))) (SSs.nil)) (SSs.cons (SS.if_ (tCmp cf oLt (sVar (i := 1) (by rfl) (Or.inl (by rfl))) (sInt)) (SSs.one (SS.ret (SE.ite (tCmp cf (oEq cf) (sVar (i := 1) (by rfl) (Or.inl (by rfl))) (sInt)) (SE.tup (aCons (SE.fld (kfo _) cf.hK (sVar (i := 0) (by rfl) (Or.inl (by rfl))) (by rfl)) (SA.nil))) (SE.tup (aCons (SE.fld (kfo _) cf.hK (sVar (i := 0) (by rfl) (Or.inl (by rfl))) (by rfl)) (aCons (SE.fld (kfo _) cf.hK (sVar (i := 0) (by rfl) (Or.inl (by rfl))) (by rfl)) (SA.nil))))))) (SSs.nil)) (SSs.cons (SS.if_ (tCmp cf oLt (sVar (i := 1) (by rfl) (Or.inl (by rfl))) (sInt)) (SSs.one (SS.ret (SE.ite (tCmp cf (oEq cf) (sVar (i := 1) (by rfl) (Or.inl (by rfl))) (sInt)) (SE.tup (aCons (SE.fld (kfo _) cf.hK (sVar (i := 0) (by rfl) (Or.inl (by rfl))) (by rfl)) (aCons (SE.fld (kfo _) cf.hK (sVar (i := 0) (by rfl) (Or.inl (by rfl))) (by rfl)) (SA.nil)))) (SE.tup (aCons (SE.fld (kfo _) cf.hK (sVar (i := 0) (by rfl) (Or.inl (by rfl))) (by rfl)) (aCons (SE.fld (kfo _) cf.hK (sVar (i := 0) (by rfl) (Or.inl (by rfl))) (by rfl)) (SA.nil))))))) (SSs.nil)) (SSs.one (SS.ret (SE.tup (SA.nil)))))))
theorem sc6 : FnScope ["_law_error", "_law_found"] ["_law_error"] (defScope s6) := ⟨rfl, rfl, rfl, by decide +kernel, rfl, by decide +kernel, by decide +kernel⟩
theorem ok6 (X : K.In base) (Nm : base.Ns mainGlobals mg) (c : SaysX P fa fn fy ex K) {k : Nat} (ih : ∀ i, Ih P w K mg base k i) : Ih P w K mg base (k + 1) 6 := by
  intro hid fd F0
  have n_isinstance := He.free_ok (x := "isinstance") X Nm (c.d.fact 44 rfl)
  have kto : ∀ hid, KtOk ((G0 K).at hid) kt := fun hid => ktX_ok (He.ba (He.ba c.more).2).1 hid
  have g_BadBook := He.glo_ok (x := "BadBook") X Nm (c.d.fact 19 rfl)
  have g_BadDeed := He.glo_ok (x := "BadDeed") X Nm (c.d.fact 14 rfl)
  have g_BadLine := He.glo_ok (x := "BadLine") X Nm (c.d.fact 34 rfl)
  have g_BadMachine := He.glo_ok (x := "BadMachine") X Nm (c.d.fact 16 rfl)
  have g_BadNumbers := He.glo_ok (x := "BadNumbers") X Nm (c.d.fact 20 rfl)
  have g_BadPaper := He.glo_ok (x := "BadPaper") X Nm (c.d.fact 21 rfl)
  have g_BadQuestion := He.glo_ok (x := "BadQuestion") X Nm (c.d.fact 18 rfl)
  have g_BadRoom := He.glo_ok (x := "BadRoom") X Nm (c.d.fact 11 rfl)
  have g_BadSaying := He.glo_ok (x := "BadSaying") X Nm (c.d.fact 13 rfl)
  have g_BadSpot := He.glo_ok (x := "BadSpot") X Nm (c.d.fact 15 rfl)
  have g_BadStock := He.glo_ok (x := "BadStock") X Nm (c.d.fact 17 rfl)
  have g_BadText := He.glo_ok (x := "BadText") X Nm (c.d.fact 33 rfl)
  have g_BadView := He.glo_ok (x := "BadView") X Nm (c.d.fact 12 rfl)
  have g_NoFact := He.glo_ok (x := "NoFact") X Nm (c.d.fact 24 rfl)
  have g_NoOnlooker := He.glo_ok (x := "NoOnlooker") X Nm (c.d.fact 25 rfl)
  have g_NoState := He.glo_ok (x := "NoState") X Nm (c.d.fact 26 rfl)
  have g_NoTick := He.glo_ok (x := "NoTick") X Nm (c.d.fact 27 rfl)
  have g_NoWorld := He.glo_ok (x := "NoWorld") X Nm (c.d.fact 23 rfl)
  have g_Nothing := He.glo_ok (x := "Nothing") X Nm (c.d.fact 31 rfl)
  have g_Refused := He.glo_ok (x := "Refused") X Nm (c.d.fact 30 rfl)
  have g_TooMany := He.glo_ok (x := "TooMany") X Nm (c.d.fact 32 rfl)
  have g_Twice := He.glo_ok (x := "Twice") X Nm (c.d.fact 28 rfl)
  have g_UnlikeRooms := He.glo_ok (x := "UnlikeRooms") X Nm (c.d.fact 29 rfl)
  have F1 : FunD K "_law_kin" "_law_kin" (defArgs s6) (defBody s6) (defScope s6) [] [] (He.ga K "_law_kin") fd := F0
  show FnS ((G0 K).at hid) P w mg base (k + 3 + 1) (He.ga K "_law_kin") fd ["_law_error"] (runF false 2 (b6 (Fs k)))
  refine FnS.of (G := (G0 K).at hid) (N := ["_law_error", "_law_found"]) (ps := ["_law_error"]) (keep := false) (m := b6 (Fs k)) F1 sc6 fun cd A outer s H E hr hgd => ?_
  have cf : Cf ((G0 K).at hid) (bodyCx ((G0 K).at hid) P w mg base ["_law_error", "_law_found"] "_law_kin" (defScope s6) (He.ga K "_law_kin") cd A outer s H E) := ⟨rfl, rfl, sc6.nd, hgd, hr.units⟩
  exact SSs.cons (SS.asg (SE.lst (aCons (SE.isi1 (kto _) cf.hK (t := .o 1001) (by rfl) n_isinstance (sVar (i := 0) (by rfl) (Or.inl (by rfl))) (pe_glob (by rfl) g_BadRoom (by rfl)) (by rfl) (by rfl) (by rfl)) (aCons (SE.isi1 (kto _) cf.hK (t := .o 1002) (by rfl) n_isinstance (sVar (i := 0) (by rfl) (Or.inl (by rfl))) (pe_glob (by rfl) g_BadView (by rfl)) (by rfl) (by rfl) (by rfl)) (aCons (SE.isi1 (kto _) cf.hK (t := .o 1003) (by rfl) n_isinstance (sVar (i := 0) (by rfl) (Or.inl (by rfl))) (pe_glob (by rfl) g_BadSaying (by rfl)) (by rfl) (by rfl) (by rfl)) (aCons (SE.isi1 (kto _) cf.hK (t := .o 1004) (by rfl) n_isinstance (sVar (i := 0) (by rfl) (Or.inl (by rfl))) (pe_glob (by rfl) g_BadDeed (by rfl)) (by rfl) (by rfl) (by rfl)) (SA.nil)))))) (SG.name cf.nd (i := 1) (by rfl) (Or.inl (by rfl)) (Or.inl (by rfl))) (by rfl) (by rfl) (by rfl)) (SSs.cons (SS.asg (sAdd cf (sVar (i := 1) (by rfl) (Or.inl (by rfl))) (SE.lst (aCons (SE.isi1 (kto _) cf.hK (t := .o 1005) (by rfl) n_isinstance (sVar (i := 0) (by rfl) (Or.inl (by rfl))) (pe_glob (by rfl) g_BadSpot (by rfl)) (by rfl) (by rfl) (by rfl)) (aCons (SE.isi1 (kto _) cf.hK (t := .o 1006) (by rfl) n_isinstance (sVar (i := 0) (by rfl) (Or.inl (by rfl))) (pe_glob (by rfl) g_BadMachine (by rfl)) (by rfl) (by rfl) (by rfl)) (aCons (SE.isi1 (kto _) cf.hK (t := .o 1007) (by rfl) n_isinstance (sVar (i := 0) (by rfl) (Or.inl (by rfl))) (pe_glob (by rfl) g_BadStock (by rfl)) (by rfl) (by rfl) (by rfl)) (SA.nil)))))) (SG.name cf.nd (i := 1) (by rfl) (Or.inl (by rfl)) (Or.inl (by rfl))) (by rfl) (by rfl) (by rfl)) (SSs.cons (SS.asg (sAdd cf (sVar (i := 1) (by rfl) (Or.inl (by rfl))) (SE.lst (aCons (SE.isi1 (kto _) cf.hK (t := .o 1008) (by rfl) n_isinstance (sVar (i := 0) (by rfl) (Or.inl (by rfl))) (pe_glob (by rfl) g_BadQuestion (by rfl)) (by rfl) (by rfl) (by rfl)) (aCons (SE.isi1 (kto _) cf.hK (t := .o 1009) (by rfl) n_isinstance (sVar (i := 0) (by rfl) (Or.inl (by rfl))) (pe_glob (by rfl) g_BadBook (by rfl)) (by rfl) (by rfl) (by rfl)) (aCons (SE.isi1 (kto _) cf.hK (t := .o 1010) (by rfl) n_isinstance (sVar (i := 0) (by rfl) (Or.inl (by rfl))) (pe_glob (by rfl) g_BadNumbers (by rfl)) (by rfl) (by rfl) (by rfl)) (SA.nil)))))) (SG.name cf.nd (i := 1) (by rfl) (Or.inl (by rfl)) (Or.inl (by rfl))) (by rfl) (by rfl) (by rfl)) (SSs.cons (SS.asg (sAdd cf (sVar (i := 1) (by rfl) (Or.inl (by rfl))) (SE.lst (aCons (SE.isi1 (kto _) cf.hK (t := .o 1011) (by rfl) n_isinstance (sVar (i := 0) (by rfl) (Or.inl (by rfl))) (pe_glob (by rfl) g_BadPaper (by rfl)) (by rfl) (by rfl) (by rfl)) (aCons (SE.isi1 (kto _) cf.hK (t := .o 1019) (by rfl) n_isinstance (sVar (i := 0) (by rfl) (Or.inl (by rfl))) (pe_glob (by rfl) g_UnlikeRooms (by rfl)) (by rfl) (by rfl) (by rfl)) (aCons (SE.isi1 (kto _) cf.hK (t := .o 1013) (by rfl) n_isinstance (sVar (i := 0) (by rfl) (Or.inl (by rfl))) (pe_glob (by rfl) g_NoWorld (by rfl)) (by rfl) (by rfl) (by rfl)) (SA.nil)))))) (SG.name cf.nd (i := 1) (by rfl) (Or.inl (by rfl)) (Or.inl (by rfl))) (by rfl) (by rfl) (by rfl)) (SSs.cons (SS.asg (sAdd cf (sVar (i := 1) (by rfl) (Or.inl (by rfl))) (SE.lst (aCons (SE.isi1 (kto _) cf.hK (t := .o 1014) (by rfl) n_isinstance (sVar (i := 0) (by rfl) (Or.inl (by rfl))) (pe_glob (by rfl) g_NoFact (by rfl)) (by rfl) (by rfl) (by rfl)) (aCons (SE.isi1 (kto _) cf.hK (t := .o 1015) (by rfl) n_isinstance (sVar (i := 0) (by rfl) (Or.inl (by rfl))) (pe_glob (by rfl) g_NoOnlooker (by rfl)) (by rfl) (by rfl) (by rfl)) (aCons (SE.isi1 (kto _) cf.hK (t := .o 1016) (by rfl) n_isinstance (sVar (i := 0) (by rfl) (Or.inl (by rfl))) (pe_glob (by rfl) g_NoState (by rfl)) (by rfl) (by rfl) (by rfl)) (SA.nil)))))) (SG.name cf.nd (i := 1) (by rfl) (Or.inl (by rfl)) (Or.inl (by rfl))) (by rfl) (by rfl) (by rfl)) (SSs.cons (SS.asg (sAdd cf (sVar (i := 1) (by rfl) (Or.inl (by rfl))) (SE.lst (aCons (SE.isi1 (kto _) cf.hK (t := .o 1017) (by rfl) n_isinstance (sVar (i := 0) (by rfl) (Or.inl (by rfl))) (pe_glob (by rfl) g_NoTick (by rfl)) (by rfl) (by rfl) (by rfl)) (aCons (SE.isi1 (kto _) cf.hK (t := .o 1018) (by rfl) n_isinstance (sVar (i := 0) (by rfl) (Or.inl (by rfl))) (pe_glob (by rfl) g_Twice (by rfl)) (by rfl) (by rfl) (by rfl)) (aCons (SE.isi1 (kto _) cf.hK (t := .o 1020) (by rfl) n_isinstance (sVar (i := 0) (by rfl) (Or.inl (by rfl))) (pe_glob (by rfl) g_Refused (by rfl)) (by rfl) (by rfl) (by rfl)) (SA.nil)))))) (SG.name cf.nd (i := 1) (by rfl) (Or.inl (by rfl)) (Or.inl (by rfl))) (by rfl) (by rfl) (by rfl)) (SSs.cons (SS.asg (sAdd cf (sVar (i := 1) (by rfl) (Or.inl (by rfl))) (SE.lst (aCons (SE.isi1 (kto _) cf.hK (t := .o 1022) (by rfl) n_isinstance (sVar (i := 0) (by rfl) (Or.inl (by rfl))) (pe_glob (by rfl) g_TooMany (by rfl)) (by rfl) (by rfl) (by rfl)) (aCons (SE.isi1 (kto _) cf.hK (t := .o 1023) (by rfl) n_isinstance (sVar (i := 0) (by rfl) (Or.inl (by rfl))) (pe_glob (by rfl) g_BadText (by rfl)) (by rfl) (by rfl) (by rfl)) (aCons (SE.isi1 (kto _) cf.hK (t := .o 1024) (by rfl) n_isinstance (sVar (i := 0) (by rfl) (Or.inl (by rfl))) (pe_glob (by rfl) g_BadLine (by rfl)) (by rfl) (by rfl) (by rfl)) (SA.nil)))))) (SG.name cf.nd (i := 1) (by rfl) (Or.inl (by rfl)) (Or.inl (by rfl))) (by rfl) (by rfl) (by rfl)) (SSs.one (SS.ret (sAdd cf (sVar (i := 1) (by rfl) (Or.inl (by rfl))) (SE.lst (aCons (SE.isi1 (kto _) cf.hK (t := .o 1021) (by rfl) n_isinstance (sVar (i := 0) (by rfl) (Or.inl (by rfl))) (pe_glob (by rfl) g_Nothing (by rfl)) (by rfl) (by rfl) (by rfl)) (SA.nil))))))))))))
theorem sc7 : FnScope ["_law_error"] ["_law_error"] (defScope s7) := ⟨rfl, rfl, rfl, by decide +kernel, rfl, by decide +kernel, by decide +kernel⟩
theorem ok7 (X : K.In base) (Nm : base.Ns mainGlobals mg) (c : SaysX P fa fn fy ex K) {k : Nat} (ih : ∀ i, Ih P w K mg base k i) : Ih P w K mg base (k + 1) 7 := by
  intro hid fd F0
  have n_ArithmeticError := He.free_ok (x := "ArithmeticError") X Nm (c.d.fact 35 rfl)
  have n_AttributeError := He.free_ok (x := "AttributeError") X Nm (c.d.fact 36 rfl)
  have n_LookupError := He.free_ok (x := "LookupError") X Nm (c.d.fact 37 rfl)
  have n_RuntimeError := He.free_ok (x := "RuntimeError") X Nm (c.d.fact 38 rfl)
  have n_TypeError := He.free_ok (x := "TypeError") X Nm (c.d.fact 39 rfl)
  have n_ValueError := He.free_ok (x := "ValueError") X Nm (c.d.fact 40 rfl)
  have n_isinstance := He.free_ok (x := "isinstance") X Nm (c.d.fact 44 rfl)
  have kto : ∀ hid, KtOk ((G0 K).at hid) kt := fun hid => ktX_ok (He.ba (He.ba c.more).2).1 hid
  have g_SaidError := He.glo_ok (x := "SaidError") X Nm (c.d.fact 10 rfl)
  have F1 : FunD K "_law_is_plain" "_law_is_plain" (defArgs s7) (defBody s7) (defScope s7) [] [] (He.ga K "_law_is_plain") fd := F0
  show FnS ((G0 K).at hid) P w mg base (k + 3 + 1) (He.ga K "_law_is_plain") fd ["_law_error"] (runF false 1 (b7 (Fs k)))
  refine FnS.of (G := (G0 K).at hid) (N := ["_law_error"]) (ps := ["_law_error"]) (keep := false) (m := b7 (Fs k)) F1 sc7 fun cd A outer s H E hr hgd => ?_
  have cf : Cf ((G0 K).at hid) (bodyCx ((G0 K).at hid) P w mg base ["_law_error"] "_law_is_plain" (defScope s7) (He.ga K "_law_is_plain") cd A outer s H E) := ⟨rfl, rfl, sc7.nd, hgd, hr.units⟩
  exact SSs.cons (SS.if_ ((SW.or (ST.not (tVal cf (SE.isi1 (kto _) cf.hK (t := .o 1000) (by rfl) n_isinstance (sVar (i := 0) (by rfl) (Or.inl (by rfl))) (pe_glob (by rfl) g_SaidError (by rfl)) (by rfl) (by rfl) (by rfl)))) (SW.or1 (ST.not (tVal cf (SE.isi1 (kto _) cf.hK (t := .b "ValueError") (by rfl) n_isinstance (sVar (i := 0) (by rfl) (Or.inl (by rfl))) (pe_bltn (u := .type "ValueError") (by rfl) n_ValueError (by decide +kernel) (by rfl)) (by rfl) (by rfl) (by rfl)))))).st) (SSs.one (SS.ret (sBl))) (SSs.nil)) (SSs.cons (SS.if_ ((SW.or (tVal cf (SE.isi1 (kto _) cf.hK (t := .b "LookupError") (by rfl) n_isinstance (sVar (i := 0) (by rfl) (Or.inl (by rfl))) (pe_bltn (u := .type "LookupError") (by rfl) n_LookupError (by decide +kernel) (by rfl)) (by rfl) (by rfl) (by rfl))) (SW.or (tVal cf (SE.isi1 (kto _) cf.hK (t := .b "TypeError") (by rfl) n_isinstance (sVar (i := 0) (by rfl) (Or.inl (by rfl))) (pe_bltn (u := .type "TypeError") (by rfl) n_TypeError (by decide +kernel) (by rfl)) (by rfl) (by rfl) (by rfl))) (SW.or1 (tVal cf (SE.isi1 (kto _) cf.hK (t := .b "ArithmeticError") (by rfl) n_isinstance (sVar (i := 0) (by rfl) (Or.inl (by rfl))) (pe_bltn (u := .type "ArithmeticError") (by rfl) n_ArithmeticError (by decide +kernel) (by rfl)) (by rfl) (by rfl) (by rfl)))))).st) (SSs.one (SS.ret (sBl))) (SSs.nil)) (SSs.one (SS.ret (sAnd cf (sNot cf (SE.isi1 (kto _) cf.hK (t := .b "RuntimeError") (by rfl) n_isinstance (sVar (i := 0) (by rfl) (Or.inl (by rfl))) (pe_bltn (u := .type "RuntimeError") (by rfl) n_RuntimeError (by decide +kernel) (by rfl)) (by rfl) (by rfl) (by rfl))) (SE.one (sNot cf (SE.isi1 (kto _) cf.hK (t := .b "AttributeError") (by rfl) n_isinstance (sVar (i := 0) (by rfl) (Or.inl (by rfl))) (pe_bltn (u := .type "AttributeError") (by rfl) n_AttributeError (by decide +kernel) (by rfl)) (by rfl) (by rfl) (by rfl))))))))
theorem sc8 : FnScope ["_law_made", "_law_one", "_law_two", "_law_place", "_law_error", "_law_due", "_law_at"] ["_law_made", "_law_one", "_law_two"] (defScope s8) := ⟨rfl, rfl, rfl, by decide +kernel, rfl, by decide +kernel, by decide +kernel⟩
theorem ok8 (X : K.In base) (Nm : base.Ns mainGlobals mg) (c : SaysX P fa fn fy ex K) {k : Nat} (ih : ∀ i, Ih P w K mg base k i) : Ih P w K mg base (k + 1) 8 := by
  intro hid fd F0
  have n_enumerate := He.free_ok (x := "enumerate") X Nm (c.d.fact 42 rfl)
  have n_isinstance := He.free_ok (x := "isinstance") X Nm (c.d.fact 44 rfl)
  have n_range := He.free_ok (x := "range") X Nm (c.d.fact 46 rfl)
  have n_repr := He.free_ok (x := "repr") X Nm (c.d.fact 47 rfl)
  have kto : ∀ hid, KtOk ((G0 K).at hid) kt := fun hid => ktX_ok (He.ba (He.ba c.more).2).1 hid
  have g_Missing := He.glo_ok (x := "Missing") X Nm (c.d.fact 22 rfl)
  obtain ⟨fe5, Fe5⟩ := c.d.def_ 5 (d := d5) rfl
  have f5 : ∀ hid, FnS ((G0 K).at hid) P w mg base (k + 3) (He.ga K "_law_fields") fe5 ["_law_error", "_law_place"] (Fs k 5) := fun hid => ih 5 hid fe5 Fe5
  have g5 := He.glo_ok (x := "_law_fields") X Nm (c.d.fact 5 rfl)
  obtain ⟨fe6, Fe6⟩ := c.d.def_ 6 (d := d6) rfl
  have f6 : ∀ hid, FnS ((G0 K).at hid) P w mg base (k + 3) (He.ga K "_law_kin") fe6 ["_law_error"] (Fs k 6) := fun hid => ih 6 hid fe6 Fe6
  have g6 := He.glo_ok (x := "_law_kin") X Nm (c.d.fact 6 rfl)
  obtain ⟨fe7, Fe7⟩ := c.d.def_ 7 (d := d7) rfl
  have f7 : ∀ hid, FnS ((G0 K).at hid) P w mg base (k + 3) (He.ga K "_law_is_plain") fe7 ["_law_error"] (Fs k 7) := fun hid => ih 7 hid fe7 Fe7
  have g7 := He.glo_ok (x := "_law_is_plain") X Nm (c.d.fact 7 rfl)
  have b5_2 : Binds K fe5 ["_law_error", "_law_place"] [] := Fe5.bindsN fun _ _ _ _ _ _ us hl => match us, hl with | [_, _], _ => rfl
  have b6_1 : Binds K fe6 ["_law_error"] [] := Fe6.bindsN fun _ _ _ _ _ _ us hl => match us, hl with | [_], _ => rfl
  have b7_1 : Binds K fe7 ["_law_error"] [] := Fe7.bindsN fun _ _ _ _ _ _ us hl => match us, hl with | [_], _ => rfl
  have F1 : FunD K "_law_all_right" "_law_all_right" (defArgs s8) (defBody s8) (defScope s8) [] [] (He.ga K "_law_all_right") fd := F0
  show FnS ((G0 K).at hid) P w mg base (k + 3 + 1) (He.ga K "_law_all_right") fd ["_law_made", "_law_one", "_law_two"] (runF false 7 (b8 (Fs k)))
  refine FnS.of (G := (G0 K).at hid) (N := ["_law_made", "_law_one", "_law_two", "_law_place", "_law_error", "_law_due", "_law_at"]) (ps := ["_law_made", "_law_one", "_law_two"]) (keep := false) (m := b8 (Fs k)) F1 sc8 fun cd A outer s H E hr hgd => ?_
  have cf : Cf ((G0 K).at hid) (bodyCx ((G0 K).at hid) P w mg base ["_law_made", "_law_one", "_law_two", "_law_place", "_law_error", "_law_due", "_law_at"] "_law_all_right" (defScope s8) (He.ga K "_law_all_right") cd A outer s H E) := ⟨rfl, rfl, sc8.nd, hgd, hr.units⟩
  have smx : (K.lookup sysModules).isSome = true := (He.ba (He.ba (He.ba c.sup).2).2).2
  have un := Nat.lt_of_le_of_lt (Nat.add_le_add_left (by decide : 16 + 1 ≤ 64) _) hr.units
  exact SSs.cons (SS.for_ (passes_of rfl) cf.calm cf.hK (SI.enm cf.hK (by rfl) n_enumerate (sVar (i := 0) (by rfl) (Or.inl (by rfl))) (by rfl)) (SG.tupN cf.calm cf.hK cf.nd (.cons (by rfl) (Or.inr (by rfl)) (Or.inl (by rfl)) (.cons (by rfl) (Or.inl (by rfl)) (Or.inl (by rfl)) (.nil))) (by rfl) (by rfl)) (SSs.cons (SS.asg (SE.ite (tCmp cf oLt (sVar (i := 3) (by rfl) (Or.inr (Or.inl (by rfl)))) (sInt)) (SE.tup (aCons (sVar (i := 1) (by rfl) (Or.inl (by rfl))) (SA.nil))) (SE.ite (tCmp cf oLt (sVar (i := 3) (by rfl) (Or.inr (Or.inl (by rfl)))) (sInt)) (SE.tup (aCons (sVar (i := 1) (by rfl) (Or.inl (by rfl))) (aCons (sVar (i := 2) (by rfl) (Or.inl (by rfl))) (SA.nil)))) (SE.tup (SA.nil)))) (SG.name cf.nd (i := 5) (by rfl) (Or.inl (by rfl)) (Or.inl (by rfl))) (by rfl) (by rfl) (by rfl)) (SSs.cons (SS.if_ ((SW.or (tCmp cf (oNe cf) (sBF (.reprV (n := 16) cf.hK cf.gd un smx) (by rfl) n_repr (by decide +kernel) (aCons (sCall cf (f5 _) hr (by rfl) g5 Fe5.kp b5_2 .nil (fun _ _ => .nil) (aCons (sVar (i := 4) (by rfl) (Or.inl (by rfl))) (aCons (sVar (i := 3) (by rfl) (Or.inr (Or.inl (by rfl)))) (SA.nil)))) (SA.nil))) (sBF (.reprV (n := 16) cf.hK cf.gd un smx) (by rfl) n_repr (by decide +kernel) (aCons (sVar (i := 5) (by rfl) (Or.inl (by rfl))) (SA.nil)))) (SW.or1 (tCmp cf (oNe cf) (sCall cf (f6 _) hr (by rfl) g6 Fe6.kp b6_1 .nil (fun _ _ => .nil) (aCons (sVar (i := 4) (by rfl) (Or.inl (by rfl))) (SA.nil))) (SE.lc cf.calm cf.nd (own := [("_law_at", 6)]) (SI.rng1 (by rfl) n_range (sInt) (by rfl)) (fun D1 _ _ _ _ _ => SGv.name (cf.blk (D := D1)).nd (i := 6) (by rfl) (Or.inl (by rfl)) (Or.inr (by rfl)) (by decide)) (fun D1 _ _ _ _ _ => STs.nil) (fun D1 _ _ _ _ _ => sCmp (oEq (cf.blk (D := D1))) (sVar (i := 3) (by rfl) (Or.inr (Or.inl (by rfl)))) (sVar (i := 6) (by rfl) (Or.inl (by rfl)))) (blkOk_by (by kernel_rfl)) (by intro _; rfl))))).st) (SSs.one (SS.ret (sBl))) (SSs.nil)) (SSs.one (SS.if_ ((SW.or (ST.not (tVal cf (sCall cf (f7 _) hr (by rfl) g7 Fe7.kp b7_1 .nil (fun _ _ => .nil) (aCons (sVar (i := 4) (by rfl) (Or.inl (by rfl))) (SA.nil))))) (SW.or1 (tCmp cf (oNe cf) (SE.isi1 (kto _) cf.hK (t := .o 1012) (by rfl) n_isinstance (sVar (i := 4) (by rfl) (Or.inl (by rfl))) (pe_glob (by rfl) g_Missing (by rfl)) (by rfl) (by rfl) (by rfl)) (SE.chain (by rfl) oLe oLt (sInt) (sVar (i := 3) (by rfl) (Or.inr (Or.inl (by rfl)))) (sInt))))).st) (SSs.one (SS.ret (sBl))) (SSs.nil))))) (by intro _; rfl)) (SSs.one (SS.ret (sBl)))
theorem sc9 : FnScope ["_law_script", "_law_pen_here", "_law_one", "_law_two", "_law_error", "_law_base", "_law_line"] ["_law_script"] (defScope s9) := ⟨rfl, rfl, rfl, by decide +kernel, rfl, by decide +kernel, by decide +kernel⟩
theorem ok9 (X : K.In base) (Nm : base.Ns mainGlobals mg) (c : SaysX P fa fn fy ex K) {k : Nat} (ih : ∀ i, Ih P w K mg base k i) : Ih P w K mg base (k + 1) 9 := by
  intro hid fd F0
  have n_isinstance := He.free_ok (x := "isinstance") X Nm (c.d.fact 44 rfl)
  have n_repr := He.free_ok (x := "repr") X Nm (c.d.fact 47 rfl)
  have kto : ∀ hid, KtOk ((G0 K).at hid) kt := fun hid => ktX_ok (He.ba (He.ba c.more).2).1 hid
  have kfo : ∀ hid, KfOk ((G0 K).at hid) kf := fun hid => kfX_ok (He.ba (He.ba c.more).2).1 (He.ba (He.ba (He.ba c.more).2).2).1 hid
  have g_BadLine := He.glo_ok (x := "BadLine") X Nm (c.d.fact 34 rfl)
  have g_BadText := He.glo_ok (x := "BadText") X Nm (c.d.fact 33 rfl)
  have g_Missing := He.glo_ok (x := "Missing") X Nm (c.d.fact 22 rfl)
  have g_SaidError := He.glo_ok (x := "SaidError") X Nm (c.d.fact 10 rfl)
  have E_BadLine := ecB_ok (List.all_eq_true.mp (He.ba (He.ba (He.ba c.more).2).2).2 _ (List.mem_of_getElem? (l := ecs) (i := 23) rfl))
  have E_BadText := ecB_ok (List.all_eq_true.mp (He.ba (He.ba (He.ba c.more).2).2).2 _ (List.mem_of_getElem? (l := ecs) (i := 22) rfl))
  have E_Missing := ecB_ok (List.all_eq_true.mp (He.ba (He.ba (He.ba c.more).2).2).2 _ (List.mem_of_getElem? (l := ecs) (i := 11) rfl))
  obtain ⟨fd_BadLine, F_BadLine, B_BadLine, KB_BadLine_0⟩ := in18 (w := w) (mg := mg) (base := base) c
  obtain ⟨fd_BadText, F_BadText, B_BadText, KB_BadText_0⟩ := in17 (w := w) (mg := mg) (base := base) c
  obtain ⟨fd_Missing, F_Missing, B_Missing, KB_Missing_0⟩ := in11 (w := w) (mg := mg) (base := base) c
  obtain ⟨fe0, Fe0⟩ := c.d.def_ 0 (d := d0) rfl
  have f0 : ∀ hid, FnS ((G0 K).at hid) P w mg base (k + 3) (He.ga K "_law_pen") fe0 ["_law_script"] (Fs k 0) := fun hid => ih 0 hid fe0 Fe0
  have g0 := He.glo_ok (x := "_law_pen") X Nm (c.d.fact 0 rfl)
  obtain ⟨fe1, Fe1⟩ := c.d.def_ 1 (d := d1) rfl
  have f1 : ∀ hid, FnS ((G0 K).at hid) P w mg base (k + 3) (He.ga K "_law_draw") fe1 ["_law_pen_here", "_law_many"] (Fs k 1) := fun hid => ih 1 hid fe1 Fe1
  have g1 := He.glo_ok (x := "_law_draw") X Nm (c.d.fact 1 rfl)
  obtain ⟨fe2, Fe2⟩ := c.d.def_ 2 (d := d2) rfl
  have f2 : ∀ hid, FnS ((G0 K).at hid) P w mg base (k + 3) (He.ga K "_law_pick") fe2 ["_law_pen_here", "_law_some"] (Fs k 2) := fun hid => ih 2 hid fe2 Fe2
  have g2 := He.glo_ok (x := "_law_pick") X Nm (c.d.fact 2 rfl)
  obtain ⟨fe3, Fe3⟩ := c.d.def_ 3 (d := d3) rfl
  have f3 : ∀ hid, FnS ((G0 K).at hid) P w mg base (k + 3) (He.ga K "_law_by_place") fe3 ["_law_one", "_law_two"] (Fs k 3) := fun hid => ih 3 hid fe3 Fe3
  have g3 := He.glo_ok (x := "_law_by_place") X Nm (c.d.fact 3 rfl)
  obtain ⟨fe4, Fe4⟩ := c.d.def_ 4 (d := d4) rfl
  have f4 : ∀ hid, FnS ((G0 K).at hid) P w mg base (k + 3) (He.ga K "_law_by_name") fe4 ["_law_one", "_law_two"] (Fs k 4) := fun hid => ih 4 hid fe4 Fe4
  have g4 := He.glo_ok (x := "_law_by_name") X Nm (c.d.fact 4 rfl)
  obtain ⟨fe6, Fe6⟩ := c.d.def_ 6 (d := d6) rfl
  have f6 : ∀ hid, FnS ((G0 K).at hid) P w mg base (k + 3) (He.ga K "_law_kin") fe6 ["_law_error"] (Fs k 6) := fun hid => ih 6 hid fe6 Fe6
  have g6 := He.glo_ok (x := "_law_kin") X Nm (c.d.fact 6 rfl)
  obtain ⟨fe7, Fe7⟩ := c.d.def_ 7 (d := d7) rfl
  have f7 : ∀ hid, FnS ((G0 K).at hid) P w mg base (k + 3) (He.ga K "_law_is_plain") fe7 ["_law_error"] (Fs k 7) := fun hid => ih 7 hid fe7 Fe7
  have g7 := He.glo_ok (x := "_law_is_plain") X Nm (c.d.fact 7 rfl)
  obtain ⟨fe8, Fe8⟩ := c.d.def_ 8 (d := d8) rfl
  have f8 : ∀ hid, FnS ((G0 K).at hid) P w mg base (k + 3) (He.ga K "_law_all_right") fe8 ["_law_made", "_law_one", "_law_two"] (Fs k 8) := fun hid => ih 8 hid fe8 Fe8
  have g8 := He.glo_ok (x := "_law_all_right") X Nm (c.d.fact 8 rfl)
  have b0_1 : Binds K fe0 ["_law_script"] [] := Fe0.bindsN fun _ _ _ _ _ _ us hl => match us, hl with | [_], _ => rfl
  have b1_2 : Binds K fe1 ["_law_pen_here", "_law_many"] [] := Fe1.bindsN fun _ _ _ _ _ _ us hl => match us, hl with | [_, _], _ => rfl
  have b2_2 : Binds K fe2 ["_law_pen_here", "_law_some"] [] := Fe2.bindsN fun _ _ _ _ _ _ us hl => match us, hl with | [_, _], _ => rfl
  have b3_2 : Binds K fe3 ["_law_one", "_law_two"] [] := Fe3.bindsN fun _ _ _ _ _ _ us hl => match us, hl with | [_, _], _ => rfl
  have b4_2 : Binds K fe4 ["_law_one", "_law_two"] [] := Fe4.bindsN fun _ _ _ _ _ _ us hl => match us, hl with | [_, _], _ => rfl
  have b6_1 : Binds K fe6 ["_law_error"] [] := Fe6.bindsN fun _ _ _ _ _ _ us hl => match us, hl with | [_], _ => rfl
  have b7_1 : Binds K fe7 ["_law_error"] [] := Fe7.bindsN fun _ _ _ _ _ _ us hl => match us, hl with | [_], _ => rfl
  have b8_3 : Binds K fe8 ["_law_made", "_law_one", "_law_two"] [] := Fe8.bindsN fun _ _ _ _ _ _ us hl => match us, hl with | [_, _, _], _ => rfl
  have F1 : FunD K "law" "law" (defArgs s9) (defBody s9) (defScope s9) [] [] (He.ga K "law") fd := F0
  show FnS ((G0 K).at hid) P w mg base (k + 3 + 1) (He.ga K "law") fd ["_law_script"] (runF false 7 (b9 (Fs k)))
  refine FnS.of (G := (G0 K).at hid) (N := ["_law_script", "_law_pen_here", "_law_one", "_law_two", "_law_error", "_law_base", "_law_line"]) (ps := ["_law_script"]) (keep := false) (m := b9 (Fs k)) F1 sc9 fun cd A outer s H E hr hgd => ?_
  have cf : Cf ((G0 K).at hid) (bodyCx ((G0 K).at hid) P w mg base ["_law_script", "_law_pen_here", "_law_one", "_law_two", "_law_error", "_law_base", "_law_line"] "law" (defScope s9) (He.ga K "law") cd A outer s H E) := ⟨rfl, rfl, sc9.nd, hgd, hr.units⟩
  have smx : (K.lookup sysModules).isSome = true := (He.ba (He.ba (He.ba c.sup).2).2).2
  have hr2 := hr.mono (show 2 ≤ k + 3 by omega)
  have un := Nat.lt_of_le_of_lt (Nat.add_le_add_left (by decide : 16 + 1 ≤ 64) _) hr.units
  exact SSs.cons (SS.asg (sCall cf (f0 _) hr (by rfl) g0 Fe0.kp b0_1 .nil (fun _ _ => .nil) (aCons (sVar (i := 0) (by rfl) (Or.inl (by rfl))) (SA.nil))) (SG.name cf.nd (i := 1) (by rfl) (Or.inl (by rfl)) (Or.inl (by rfl))) (by rfl) (by rfl) (by rfl)) (SSs.cons (SS.asg (sCall cf (f2 _) hr (by rfl) g2 Fe2.kp b2_2 .nil (fun _ _ => .nil) (aCons (sVar (i := 1) (by rfl) (Or.inl (by rfl))) (aCons (SE.lst (aCons (sNon) (aCons (sInt) (aCons (sStr) (aCons (SE.tup (aCons (sInt) (aCons (sInt) (SA.nil)))) (aCons (SE.lst (aCons (sInt) (SA.nil))) (aCons (SE.dicE (fun _ => SE.lst (aCons (sInt) (SA.nil)))) (aCons (sBl) (aCons (sStr) (aCons (SE.neg (sPow (sInt) (sInt))) (aCons (sStr) (SA.nil)))))))))))) (SA.nil)))) (SG.name cf.nd (i := 2) (by rfl) (Or.inl (by rfl)) (Or.inl (by rfl))) (by rfl) (by rfl) (by rfl)) (SSs.cons (SS.asg (sCall cf (f2 _) hr (by rfl) g2 Fe2.kp b2_2 .nil (fun _ _ => .nil) (aCons (sVar (i := 1) (by rfl) (Or.inl (by rfl))) (aCons (SE.lst (aCons (sStr) (aCons (sInt) (aCons (sNon) (aCons (SE.lst (aCons (SE.lst (SA.nil)) (SA.nil))) (aCons (SE.tup (aCons (sStr) (SA.nil))) (aCons (sBl) (aCons (SE.lst (aCons (sInt) (SA.nil))) (aCons (sPow (sInt) (sInt)) (aCons (sInt) (SA.nil))))))))))) (SA.nil)))) (SG.name cf.nd (i := 3) (by rfl) (Or.inl (by rfl)) (Or.inl (by rfl))) (by rfl) (by rfl) (by rfl)) (SSs.cons (SS.if_ ((SW.or (ST.not (tVal cf (sCall cf (f8 _) hr (by rfl) g8 Fe8.kp b8_3 .nil (fun _ _ => .nil) (aCons (sCall cf (f3 _) hr (by rfl) g3 Fe3.kp b3_2 .nil (fun _ _ => .nil) (aCons (sVar (i := 2) (by rfl) (Or.inl (by rfl))) (aCons (sVar (i := 3) (by rfl) (Or.inl (by rfl))) (SA.nil)))) (aCons (sVar (i := 2) (by rfl) (Or.inl (by rfl))) (aCons (sVar (i := 3) (by rfl) (Or.inl (by rfl))) (SA.nil))))))) (SW.or1 (ST.not (tVal cf (sCall cf (f8 _) hr (by rfl) g8 Fe8.kp b8_3 .nil (fun _ _ => .nil) (aCons (sCall cf (f4 _) hr (by rfl) g4 Fe4.kp b4_2 .nil (fun _ _ => .nil) (aCons (sVar (i := 2) (by rfl) (Or.inl (by rfl))) (aCons (sVar (i := 3) (by rfl) (Or.inl (by rfl))) (SA.nil)))) (aCons (sVar (i := 2) (by rfl) (Or.inl (by rfl))) (aCons (sVar (i := 3) (by rfl) (Or.inl (by rfl))) (SA.nil))))))))).st) (SSs.one (SS.ret (sBl))) (SSs.nil)) (SSs.cons (SS.for_ (passes_of rfl) cf.calm cf.hK (SI.of cf.hK (SE.lst (aCons (SE.exn (ps := ["self", "name"]) (exc_of (x := "Missing") (by rfl) (by rfl) E_Missing (by decide) F_Missing) cf.hK hr2 (by rfl) g_Missing B_Missing (by rfl) (by decide) (aCons (sVar (i := 2) (by rfl) (Or.inl (by rfl))) (SA.nil)) (by decide) (star_cons (by rfl)) (star_none (by rfl)) pss_none) (aCons (SE.exnK (ps := ["self", "name"]) (ks := ["name"]) (exc_of (x := "Missing") (by rfl) (by rfl) E_Missing (by decide) F_Missing) cf.hK hr2 (by rfl) g_Missing (KB_Missing_0) (SK.cons (sVar (i := 2) (by rfl) (Or.inl (by rfl))) (SK.nil)) (by rfl) (by rfl) (by decide) (by rfl) pss_none) (SA.nil))))) (SG.name cf.nd (i := 4) (by rfl) (Or.inl (by rfl)) (Or.inl (by rfl))) (SSs.one (SS.if_ ((SW.or (tCmp cf (oNe cf) (sBF (.reprV (n := 16) cf.hK cf.gd un smx) (by rfl) n_repr (by decide +kernel) (aCons (SE.fld (kfo _) cf.hK (sVar (i := 4) (by rfl) (Or.inl (by rfl))) (by rfl)) (SA.nil))) (sBF (.reprV (n := 16) cf.hK cf.gd un smx) (by rfl) n_repr (by decide +kernel) (aCons (sVar (i := 2) (by rfl) (Or.inl (by rfl))) (SA.nil)))) (SW.or (tCmp cf (oIn cf) (sBl) (sCall cf (f6 _) hr (by rfl) g6 Fe6.kp b6_1 .nil (fun _ _ => .nil) (aCons (sVar (i := 4) (by rfl) (Or.inl (by rfl))) (SA.nil)))) (SW.or1 (ST.not (tVal cf (sCall cf (f7 _) hr (by rfl) g7 Fe7.kp b7_1 .nil (fun _ _ => .nil) (aCons (sVar (i := 4) (by rfl) (Or.inl (by rfl))) (SA.nil)))))))).st) (SSs.one (SS.ret (sBl))) (SSs.nil))) (by intro _; rfl)) (SSs.cons (SS.par2 cf.calm cf.nd (i := 5) (j := 6) (by rfl) (by rfl) (by decide) (by rfl) (by rfl) (aCons (SE.exnB (c := 1000) (by rfl) (He.ba (He.ba (c.d.fact 48 rfl)).2).1 (He.ba (c.d.fact 48 rfl)).1 (by rfl) g_SaidError (by decide)) (aCons (SE.exn (ps := ["self", "line", "error"]) (exc_of (x := "BadLine") (by rfl) (by rfl) E_BadLine (by decide) F_BadLine) cf.hK hr2 (by rfl) g_BadLine B_BadLine (by rfl) (by decide) (aCons (sInt) (aCons (SE.exn (ps := ["self", "line", "word"]) (exc_of (x := "BadText") (by rfl) (by rfl) E_BadText (by decide) F_BadText) cf.hK hr2 (by rfl) g_BadText B_BadText (by rfl) (by decide) (aCons (sInt) (aCons (sCall cf (f1 _) hr (by rfl) g1 Fe1.kp b1_2 .nil (fun _ _ => .nil) (aCons (sVar (i := 1) (by rfl) (Or.inl (by rfl))) (aCons (sInt) (SA.nil)))) (SA.nil))) (by decide) (star_cons (by rfl)) (star_none (by rfl)) pss_none) (SA.nil))) (by decide) (star_cons (by rfl)) (star_none (by rfl)) pss_none) (SA.nil))) (by rfl) (by rfl)) (SSs.cons (SS.if_ ((SW.or (ST.not (tVal cf (sCall cf (f7 _) hr (by rfl) g7 Fe7.kp b7_1 .nil (fun _ _ => .nil) (aCons (sVar (i := 5) (by rfl) (Or.inl (by rfl))) (SA.nil))))) (SW.or (tCmp cf (oIn cf) (sBl) (sCall cf (f6 _) hr (by rfl) g6 Fe6.kp b6_1 .nil (fun _ _ => .nil) (aCons (sVar (i := 5) (by rfl) (Or.inl (by rfl))) (SA.nil)))) (SW.or1 (tVal cf (SE.isi1 (kto _) cf.hK (t := .o 1012) (by rfl) n_isinstance (sVar (i := 5) (by rfl) (Or.inl (by rfl))) (pe_glob (by rfl) g_Missing (by rfl)) (by rfl) (by rfl) (by rfl)))))).st) (SSs.one (SS.ret (sBl))) (SSs.nil)) (SSs.one (SS.ret (sAnd cf (SE.isi1 (kto _) cf.hK (t := .o 1023) (by rfl) n_isinstance (SE.fld (kfo _) cf.hK (sVar (i := 6) (by rfl) (Or.inl (by rfl))) (by rfl)) (pe_glob (by rfl) g_BadText (by rfl)) (by rfl) (by rfl) (by rfl)) (sAnd cf (sCmp (oEq cf) (SE.fld (kfo _) cf.hK (SE.fld (kfo _) cf.hK (sVar (i := 6) (by rfl) (Or.inl (by rfl))) (by rfl)) (by rfl)) (sInt)) (SE.one (sCmp (oEq cf) (SE.fld (kfo _) cf.hK (sVar (i := 6) (by rfl) (Or.inl (by rfl))) (by rfl)) (sInt)))))))))))))
theorem all_ok (X : K.In base) (Nm : base.Ns mainGlobals mg) (c : SaysX P fa fn fy ex K) : ∀ (k i : Nat), i < 10 → Ih P w K mg base k i
  | 0, i, _ => fun _ _ _ => FnS.zero
  | k + 1, i, hi => by
    have ih : ∀ j, Ih P w K mg base k j := fun j => by
      by_cases q : j < 10
      · exact all_ok X Nm c k j q
      · intro hid fd _
        have e : Fs k j = fun _ => stuck := by
          cases k with
          | zero => rfl
          | succ k => unfold Fs; split <;> first | rfl | omega
        rw [e]
        exact FnS.zero
    match i, hi with
    | 0, _ => exact ok0 X Nm c ih
    | 1, _ => exact ok1 X Nm c ih
    | 2, _ => exact ok2 X Nm c ih
    | 3, _ => exact ok3 X Nm c ih
    | 4, _ => exact ok4 X Nm c ih
    | 5, _ => exact ok5 X Nm c ih
    | 6, _ => exact ok6 X Nm c ih
    | 7, _ => exact ok7 X Nm c ih
    | 8, _ => exact ok8 X Nm c ih
    | 9, _ => exact ok9 X Nm c ih
    | j + 10, hj => exact absurd hj (by omega)
end
def names0 : List PySem.Str := ["SaidError", "BadRoom", "BadView", "BadSaying", "BadDeed", "BadSpot", "BadMachine", "BadStock", "BadQuestion", "BadBook", "BadNumbers", "BadPaper", "Missing", "NoWorld", "NoFact", "NoOnlooker", "NoState", "NoTick", "Twice", "UnlikeRooms", "Refused", "Nothing", "TooMany", "BadText", "BadLine", "_law_pen", "_law_draw", "_law_pick", "_law_by_place", "_law_by_name"]
def names1 : List PySem.Str := ["_law_fields", "_law_kin", "_law_is_plain", "_law_all_right"]
def names : List PySem.Str := names0 ++ names1
abbrev Rw : PySem.W.OpenRow := PySem.W.OpenLaw.row PySem.Challenge.rw_saidenough_k00_errors_keep_their_fields
abbrev hk : PySem.W.Hook := hookX Rw.prog 5 fa fn fy ex
def ob (s : PySem.W.SharedT) : AlX := obsX Rw.prog 5 fa fn fy ex (HandSHeadRun.getT s)
theorem ob_eq (s : PySem.W.SharedT) : ob s = hk.obs s.abs := obsX_eq (HandSHeadRun.getT_eq s)
theorem run (w : World) : HandSHeadRun.RunEq Rw (PySem.W.view Rw.prog [36]) hk ob 7000 names w := by
  intro os
  kernel_rfl
end Lw
namespace Lw
open Iv
theorem at0 {x y z : D} : L2.atI [x, y, z] 0 = some x := rfl
theorem at1 {x y z : D} : L2.atI [x, y, z] 1 = some y := rfl
theorem at2 {x y z : D} : L2.atI [x, y, z] 2 = some z := rfl
abbrev pn (ns : List Int) (a g : Int) : D := .lst [.lst (ns.map .int), .int a, .int g]
theorem draw_g (k : Nat) (ns : List Int) (a g m : Int) (L : List D) (hg : 0 < g) (hm : 0 < m) (hl : m.natAbs.log2 < 9000) :
    Fs (k + 1) 1 [.cell 0, .int m] (pn ns a g :: L) = .ok (.int (g % m)) (pn ns a (g / m) :: L) := by
  simp [Fs, runF, entry, dSeq, dAsg, dIf, lft, bnd, Iv.ret, dOp, pureO, optE, dVar, dLit, dTru, truO, truM, valD, idxM, seqD, at0, at1, at2, L2.ixN, gtO, ltO, geO, modO, fdivO, addO, subO, mulO, powO, dBlt, oneO, Iv.intD, absD, dCons, dNil, gVar, gIx, setLO, dRet, Iv.fin, closes, dNext, dLst, lenO, lenM, dAndT, b1, hg, hm, hl]
theorem plain_ints : ∀ ns : List Int, plainDs (ns.map .int) = true
  | [] => rfl
  | n :: ns => by
    show (plainD (.int n) && plainDs (ns.map .int)) = true
    rw [plain_ints ns]
    rfl
theorem dep_ints : ∀ ns : List Int, depDs (ns.map .int) = 0
  | [] => rfl
  | n :: ns => by
    show max (depD (.int n)) (depDs (ns.map .int)) = 0
    rw [dep_ints ns]
    rfl
theorem ne_nil (M : List D) (ns : List Int) : neO M (.lst (ns.map .int)) (.lst []) = some (.bl (!ns.isEmpty)) := by
  have h1 : plainD (.lst (ns.map D.int)) = true := plain_ints ns
  have h2 : depD (.lst (ns.map D.int)) = 1 := by show depDs (ns.map D.int) + 1 = 1; rw [dep_ints]
  have h3 : plainD (.lst []) = true := rfl
  have h4 : depD (.lst []) = 1 := rfl
  have h5 : eqv (.lst (ns.map D.int)) (.lst []) = ns.isEmpty := by cases ns <;> rfl
  simp only [neO, eqM, valD, h1, h2, h3, h4, h5]
  rfl
/-- the mixing -/
def mix1 (c a : Int) : Int := (c % 2147483587 + 70207 * a + 911) ^ 5 % 2147483629
def mix2 (c a : Int) : Int := (mix1 c a * (2 * a + 1733) + 58147 * a * a + 70207) ^ 3 % 2147483563
theorem mix_fits {c a : Int} (h0 : 0 ≤ a) (h1 : a < 2 ^ 20) : (c % 2147483587 + 70207 * a + 911).natAbs < 2 ^ 64 ∧ (mix1 c a * (2 * a + 1733) + 58147 * a * a + 70207).natAbs < 2 ^ 64 ∧ smallI a = true ∧ smallI (2 * a + 1733) = true := by
  have e1 : 0 ≤ c % 2147483587 := Int.emod_nonneg _ (by decide)
  have e2 : c % 2147483587 < 2147483587 := Int.emod_lt_of_pos _ (by decide)
  have e3 : 0 ≤ mix1 c a := Int.emod_nonneg _ (by decide)
  have e4 : mix1 c a < 2147483629 := Int.emod_lt_of_pos _ (by decide)
  have e5 : mix1 c a * (2 * a + 1733) ≤ 2147483629 * 2098885 := Int.mul_le_mul (by omega) (by omega) (by omega) (by decide)
  have e6 : 0 ≤ mix1 c a * (2 * a + 1733) := Int.mul_nonneg e3 (by omega)
  have e7 : 58147 * a * a ≤ (58147 * 1048576) * 1048576 := Int.mul_le_mul (by omega) (by omega) h0 (by decide)
  have e8 : 0 ≤ 58147 * a * a := Int.mul_nonneg (by omega) h0
  refine ⟨by omega, by omega, ?_, ?_⟩
  · unfold smallI; exact decide_eq_true ⟨by omega, by omega⟩
  · unfold smallI; exact decide_eq_true ⟨by omega, by omega⟩
theorem draw_n (k : Nat) (a m : Int) (L : List D) (h0 : 0 ≤ a) (h1 : a < 2 ^ 20) (hm : 0 < m) :
    Fs (k + 1) 1 [.cell 0, .int m] (pn [] a 0 :: L) = .ok (.int (mix2 (58147 * a + 911) a / 64 % m)) (pn [] (a + 1) 0 :: L) := by
  obtain ⟨f1, f2, f3, f4⟩ := mix_fits (c := 58147 * a + 911) h0 h1
  have q0 : ¬ a < 0 := by omega
  have z1 : smallI 58147 = true := by decide
  have z2 : smallI 70207 = true := by decide
  have z3 : smallI 2 = true := by decide
  have z4 : Nat.log2 64 < 9000 := by decide +kernel
  have nn : ∀ M, neO M (.lst []) (.lst []) = some (.bl false) := fun M => ne_nil M []
  unfold mix1 at f2
  simp [Fs, runF, entry, dSeq, dAsg, dIf, lft, bnd, Iv.ret, dOp, pureO, optE, dVar, dLit, dTru, truO, truM, valD, idxM, seqD, at0, at1, at2, L2.ixN, gtO, ltO, geO, modO, fdivO, addO, subO, mulO, powO, dBlt, oneO, Iv.intD, absD, dCons, dNil, gVar, gIx, setLO, dRet, Iv.fin, closes, dNext, dLst, lenO, lenM, dAndT, b1, hm, nn, f1, f2, f3, f4, z1, z2, z3, z4, q0, mix2, mix1]
theorem draw_c (k : Nat) (ns : List Int) (a m c : Int) (L : List D) (hne : ns ≠ []) (h0 : 0 ≤ a) (h1 : a < 2 ^ 20) (hm : 0 < m) (hl : m.natAbs.log2 < 9000) (hc : L2.atI (ns.map D.int) (a % ns.length) = some (.int c)) :
    Fs (k + 1) 1 [.cell 0, .int m] (pn ns a 0 :: L) = if a < ns.length ∧ 1000000000000000000 ≤ (if c < 0 then -c else c) then .ok (.int ((2 * ((if c < 0 then -c else c) - 1000000000000000000) + if c < 0 then 1 else 0) % m)) (pn ns (a + 1) ((2 * ((if c < 0 then -c else c) - 1000000000000000000) + if c < 0 then 1 else 0) / m) :: L)
      else .ok (.int (mix2 c a / 64 % m)) (pn ns (a + 1) 0 :: L) := by
  obtain ⟨f1, f2, f3, f4⟩ := mix_fits (c := c) h0 h1
  have z1 : smallI 58147 = true := by decide
  have z2 : smallI 70207 = true := by decide
  have z3 : smallI 2 = true := by decide
  have z4 : Nat.log2 64 < 9000 := by decide +kernel
  have l0 : 0 < ns.length := List.length_pos_iff.mpr hne
  have l1 : (0 : Int) < ns.length := by omega
  have nn : ∀ M, neO M (.lst (ns.map .int)) (.lst []) = some (.bl true) := fun M => by
    rw [ne_nil]
    cases ns with
    | nil => exact absurd rfl hne
    | cons _ _ => rfl
  unfold mix1 at f2
  by_cases g1 : a < ns.length
  · by_cases g2 : 1000000000000000000 ≤ (if c < 0 then -c else c)
    · rw [if_pos ⟨g1, g2⟩]
      simp [Fs, runF, entry, dSeq, dAsg, dIf, lft, bnd, Iv.ret, dOp, pureO, optE, dVar, dLit, dTru, truO, truM, valD, idxM, seqD, at0, at1, at2, L2.ixN, gtO, ltO, geO, modO, fdivO, addO, subO, mulO, powO, dBlt, oneO, Iv.intD, absD, dCons, dNil, gVar, gIx, setLO, dRet, Iv.fin, closes, dNext, dLst, lenO, lenM, dAndT, b1, hm, hl, nn, f1, f2, f3, f4, z1, z2, z3, z4, mix2, mix1, l0, l1, hc, g1, g2]
    · rw [if_neg (fun z => g2 z.2)]
      simp [Fs, runF, entry, dSeq, dAsg, dIf, lft, bnd, Iv.ret, dOp, pureO, optE, dVar, dLit, dTru, truO, truM, valD, idxM, seqD, at0, at1, at2, L2.ixN, gtO, ltO, geO, modO, fdivO, addO, subO, mulO, powO, dBlt, oneO, Iv.intD, absD, dCons, dNil, gVar, gIx, setLO, dRet, Iv.fin, closes, dNext, dLst, lenO, lenM, dAndT, b1, hm, hl, nn, f1, f2, f3, f4, z1, z2, z3, z4, mix2, mix1, l0, l1, hc, g1, g2]
  · rw [if_neg (fun z => g1 z.1)]
    simp [Fs, runF, entry, dSeq, dAsg, dIf, lft, bnd, Iv.ret, dOp, pureO, optE, dVar, dLit, dTru, truO, truM, valD, idxM, seqD, at0, at1, at2, L2.ixN, gtO, ltO, geO, modO, fdivO, addO, subO, mulO, powO, dBlt, oneO, Iv.intD, absD, dCons, dNil, gVar, gIx, setLO, dRet, Iv.fin, closes, dNext, dLst, lenO, lenM, dAndT, b1, hm, hl, nn, f1, f2, f3, f4, z1, z2, z3, z4, mix2, mix1, l0, l1, hc, g1]
end Lw
namespace Lw
open Iv
/-- the pen's numbers -/
structure Pk (a g : Int) (B : Int) : Prop where
  a0 : 0 ≤ a
  a1 : a ≤ B
  g0 : 0 ≤ g
theorem draw (k : Nat) (ns : List Int) (a g m B : Int) (L : List D) (p : Pk a g B) (hB : B < 2 ^ 20) (hm : 0 < m) (hl : m.natAbs.log2 < 9000) :
    ∃ v a' g', Fs (k + 1) 1 [.cell 0, .int m] (pn ns a g :: L) = .ok (.int v) (pn ns a' g' :: L) ∧ 0 ≤ v ∧ v < m ∧ Pk a' g' (B + 1) := by
  obtain ⟨h0, h1, h2⟩ := p
  have e0 : ∀ x : Int, 0 ≤ x % m := fun x => Int.emod_nonneg _ (by omega)
  have e1 : ∀ x : Int, x % m < m := fun x => Int.emod_lt_of_pos _ hm
  by_cases hg : 0 < g
  · exact ⟨_, _, _, draw_g k ns a g m L hg hm hl, e0 _, e1 _, h0, by omega, Int.ediv_nonneg h2 (by omega)⟩
  · obtain rfl : g = 0 := by omega
    by_cases hn : ns = []
    · subst hn
      exact ⟨_, _, _, draw_n k a m L h0 (by omega) hm, e0 _, e1 _, by omega, by omega, by omega⟩
    · have l1 : (0 : Int) < ns.length := by have := List.length_pos_iff.mpr hn; omega
      have r0 : 0 ≤ a % ns.length := Int.emod_nonneg _ (by omega)
      have r1 : a % ns.length < ns.length := Int.emod_lt_of_pos _ l1
      have r2 : (a % ns.length).toNat < ns.length := by omega
      have hc : L2.atI (ns.map D.int) (a % ns.length) = some (.int (ns[(a % ns.length).toNat])) := by
        unfold L2.atI L2.ixN
        rw [List.length_map, if_pos r0, if_pos r1]
        simp [List.getElem?_eq_getElem r2]
      generalize ns[(a % ns.length).toNat] = c at hc
      have e := draw_c k ns a m c L hn h0 (by omega) hm hl hc
      by_cases q : a < ns.length ∧ 1000000000000000000 ≤ (if c < 0 then -c else c)
      · rw [if_pos q] at e
        have q2 : (0 : Int) ≤ 2 * ((if c < 0 then -c else c) - 1000000000000000000) + if c < 0 then 1 else 0 := by
          have := q.2
          generalize (if c < 0 then -c else c) = u at this ⊢
          split <;> omega
        exact ⟨_, _, _, e, e0 _, e1 _, by omega, by omega, Int.ediv_nonneg q2 (by omega)⟩
      · rw [if_neg q] at e
        exact ⟨_, _, _, e, e0 _, e1 _, by omega, by omega, by omega⟩
/-- a choice of n things: which -/
def Draws (k : Nat) (ns : List Int) (n : Nat) (a g : Int) (B : Int) (L : List D) (Q : Nat → Int → Int → Prop) : Prop := ∃ i a' g', i < n ∧ Fs (k + 1) 1 [.cell 0, .int n] (pn ns a g :: L) = .ok (.int i) (pn ns a' g' :: L) ∧ Pk a' g' (B + 1) ∧ Q i a' g'
theorem drawN (k : Nat) (ns : List Int) (n : Nat) (a g B : Int) (L : List D) (p : Pk a g B) (hB : B < 2 ^ 20) (hn : 0 < n) (hl : n < 2 ^ 64) : ∃ (i : Nat) (a' g' : Int), i < n ∧ Fs (k + 1) 1 [.cell 0, .int n] (pn ns a g :: L) = .ok (.int i) (pn ns a' g' :: L) ∧ Pk a' g' (B + 1) := by
  obtain ⟨v, a', g', e, v0, v1, p'⟩ := draw k ns a g n B L p hB (by omega) (by
    have : (n : Int).natAbs = n := by omega
    rw [this]
    have h2 : n.log2 < 64 := (Nat.log2_lt (by omega)).mpr hl
    omega)
  refine ⟨v.toNat, a', g', by omega, ?_, p'⟩
  rw [e, Int.toNat_of_nonneg v0]
theorem pick_lst (k : Nat) (ns : List Int) (ds : List D) (a g B : Int) (L : List D) (p : Pk a g B) (hB : B < 2 ^ 20) (hn : ds ≠ []) (hl : ds.length < 2 ^ 60) :
    ∃ d a' g', d ∈ ds ∧ Fs (k + 2) 2 [.cell 0, .lst ds] (pn ns a g :: L) = .ok d (pn ns a' g' :: L) ∧ Pk a' g' (B + 1) := by
  obtain ⟨i, a', g', hi, e, p'⟩ := drawN k ns ds.length a g B L p hB (List.length_pos_iff.mpr hn) (by omega)
  have ei : L2.atI ds i = some ds[i] := by
    unfold L2.atI L2.ixN
    rw [if_pos (by omega), if_pos (by omega)]
    simp [List.getElem?_eq_getElem hi]
  refine ⟨ds[i], a', g', List.getElem_mem hi, ?_, p'⟩
  show runF false 2 (b2 (Fs (k + 1))) _ _ = _
  simp [runF, entry, b2, dRet, lft, dOp, pureO, bnd, Iv.ret, dCall, dCons, dNil, dVar, dBlt, lenO, lenM, valD, seqD, optE, e, idxM, ei, Iv.fin, closes]
end Lw
namespace Lw
open Iv
def errs (d1 d2 : D) : List D := [.ins 1001 ["part"] [d1], .ins 1002 ["part"] [d1], .ins 1003 ["part"] [d1], .ins 1004 ["part"] [d1], .ins 1005 ["part"] [d1], .ins 1006 ["part"] [d1], .ins 1007 ["part"] [d1], .ins 1008 ["part"] [d1], .ins 1009 ["part"] [d1], .ins 1010 ["part"] [d1], .ins 1011 ["part"] [d1], .ins 1019 ["part"] [d1], .ins 1013 ["name"] [d1], .ins 1014 ["name"] [d1], .ins 1015 ["name"] [d1], .ins 1016 ["name"] [d1], .ins 1017 ["name"] [d1], .ins 1018 ["name"] [d1], .ins 1020 ["at"] [d1], .ins 1022 ["most", "what"] [d2, d1], .ins 1023 ["word", "line"] [d2, d1], .ins 1024 ["error", "line"] [d2, d1], .ins 1021 [] []]
theorem place_ok (k : Nat) (d1 d2 x : D) : Fs (k + 1) 3 [d1, d2] [x] = .ok (.lst (errs d1 d2)) [x] := by kernel_rfl
theorem name_ok (k : Nat) (d1 d2 x : D) : Fs (k + 1) 4 [d1, d2] [x] = .ok (.lst (errs d1 d2)) [x] := by kernel_rfl
def dueD (d1 d2 : D) (i : Nat) : List D := if i < 19 then [d1] else if i < 22 then [d1, d2] else []
def e_ (d1 d2 : D) (i : Nat) : D := (errs d1 d2).getD i .non
def kA : DS := (dAsg (dIte (dTru truO (dOp (pureO ltO) (dVar 3) (dLit (.int 19)))) (dTup (dCons (dVar 1) (dNil))) (dIte (dTru truO (dOp (pureO ltO) (dVar 3) (dLit (.int 22)))) (dTup (dCons (dVar 1) (dCons (dVar 2) (dNil)))) (dTup (dNil)))) (gVar 5))
def kC1 (F : Nat → List D → Ev D) : DT := (dTru truO (dOp (pureO neO) (dBlt (oneO (reprV 16)) (dCons (dCall 2 [] (F 5) (dCons (dVar 4) (dCons (dVar 3) (dNil)))) (dNil))) (dBlt (oneO (reprV 16)) (dCons (dVar 5) (dNil)))))
def kC2 (F : Nat → List D → Ev D) : DT := (dTru truO (dOp (pureO neO) (dCall 1 [] (F 6) (dCons (dVar 4) (dNil))) (dLc (dRng1 (dLit (.int 23))) (gVar 6) (dYes) (dOp (pureO eqO) (dVar 3) (dVar 6)) [6])))
def kC3 (F : Nat → List D → Ev D) : DT := (dOrT (dNotT (dTru truO (dCall 1 [] (F 7) (dCons (dVar 4) (dNil))))) (dTru truO (dOp (pureO neO) (dIsi kt [.o 1012] (dVar 4)) (dChain leO ltO (dLit (.int 12)) (dVar 3) (dLit (.int 17))))))
theorem b8_eq (F : Nat → List D → Ev D) : b8 F = dSeq (dFor (dEnum (dVar 0)) (gTupN [3, 4]) (dSeq kA (dSeq (dIf (dOrT (kC1 F) (kC2 F)) (dRet (dLit (.bl false))) (dNext)) (dIf (kC3 F) (dRet (dLit (.bl false))) (dNext))))) (dRet (dLit (.bl true))) := rfl
structure Fc (k : Nat) (d1 d2 x : D) (i : Nat) : Prop where
  gt : (Src.vals (enumL 0 (errs d1 d2))).get [x] i = some (.tup [.int i, e_ d1 d2 i])
  f5 : Fs (k + 1) 5 [e_ d1 d2 i, .int i] [x] = .ok (.tup (dueD d1 d2 i)) [x]
  as : ∀ f g, kA [some (.lst (errs d1 d2)), some d1, some d2, some (.int i), some (e_ d1 d2 i), f, g] [x] = .ok (.nx [some (.lst (errs d1 d2)), some d1, some d2, some (.int i), some (e_ d1 d2 i), some (.tup (dueD d1 d2 i)), g]) [x]
  c2 : ∀ f g, kC2 (Fs (k + 1)) [some (.lst (errs d1 d2)), some d1, some d2, some (.int i), some (e_ d1 d2 i), f, g] [x] = .ok false [x]
  c3 : ∀ f g, kC3 (Fs (k + 1)) [some (.lst (errs d1 d2)), some d1, some d2, some (.int i), some (e_ d1 d2 i), f, g] [x] = .ok false [x]
theorem fc (k : Nat) (d1 d2 x : D) : ∀ i, i < 23 → Fc k d1 d2 x i
  | 0, _ => ⟨by kernel_rfl, by kernel_rfl, fun _ _ => by kernel_rfl, fun _ _ => by kernel_rfl, fun _ _ => by kernel_rfl⟩
  | 1, _ => ⟨by kernel_rfl, by kernel_rfl, fun _ _ => by kernel_rfl, fun _ _ => by kernel_rfl, fun _ _ => by kernel_rfl⟩
  | 2, _ => ⟨by kernel_rfl, by kernel_rfl, fun _ _ => by kernel_rfl, fun _ _ => by kernel_rfl, fun _ _ => by kernel_rfl⟩
  | 3, _ => ⟨by kernel_rfl, by kernel_rfl, fun _ _ => by kernel_rfl, fun _ _ => by kernel_rfl, fun _ _ => by kernel_rfl⟩
  | 4, _ => ⟨by kernel_rfl, by kernel_rfl, fun _ _ => by kernel_rfl, fun _ _ => by kernel_rfl, fun _ _ => by kernel_rfl⟩
  | 5, _ => ⟨by kernel_rfl, by kernel_rfl, fun _ _ => by kernel_rfl, fun _ _ => by kernel_rfl, fun _ _ => by kernel_rfl⟩
  | 6, _ => ⟨by kernel_rfl, by kernel_rfl, fun _ _ => by kernel_rfl, fun _ _ => by kernel_rfl, fun _ _ => by kernel_rfl⟩
  | 7, _ => ⟨by kernel_rfl, by kernel_rfl, fun _ _ => by kernel_rfl, fun _ _ => by kernel_rfl, fun _ _ => by kernel_rfl⟩
  | 8, _ => ⟨by kernel_rfl, by kernel_rfl, fun _ _ => by kernel_rfl, fun _ _ => by kernel_rfl, fun _ _ => by kernel_rfl⟩
  | 9, _ => ⟨by kernel_rfl, by kernel_rfl, fun _ _ => by kernel_rfl, fun _ _ => by kernel_rfl, fun _ _ => by kernel_rfl⟩
  | 10, _ => ⟨by kernel_rfl, by kernel_rfl, fun _ _ => by kernel_rfl, fun _ _ => by kernel_rfl, fun _ _ => by kernel_rfl⟩
  | 11, _ => ⟨by kernel_rfl, by kernel_rfl, fun _ _ => by kernel_rfl, fun _ _ => by kernel_rfl, fun _ _ => by kernel_rfl⟩
  | 12, _ => ⟨by kernel_rfl, by kernel_rfl, fun _ _ => by kernel_rfl, fun _ _ => by kernel_rfl, fun _ _ => by kernel_rfl⟩
  | 13, _ => ⟨by kernel_rfl, by kernel_rfl, fun _ _ => by kernel_rfl, fun _ _ => by kernel_rfl, fun _ _ => by kernel_rfl⟩
  | 14, _ => ⟨by kernel_rfl, by kernel_rfl, fun _ _ => by kernel_rfl, fun _ _ => by kernel_rfl, fun _ _ => by kernel_rfl⟩
  | 15, _ => ⟨by kernel_rfl, by kernel_rfl, fun _ _ => by kernel_rfl, fun _ _ => by kernel_rfl, fun _ _ => by kernel_rfl⟩
  | 16, _ => ⟨by kernel_rfl, by kernel_rfl, fun _ _ => by kernel_rfl, fun _ _ => by kernel_rfl, fun _ _ => by kernel_rfl⟩
  | 17, _ => ⟨by kernel_rfl, by kernel_rfl, fun _ _ => by kernel_rfl, fun _ _ => by kernel_rfl, fun _ _ => by kernel_rfl⟩
  | 18, _ => ⟨by kernel_rfl, by kernel_rfl, fun _ _ => by kernel_rfl, fun _ _ => by kernel_rfl, fun _ _ => by kernel_rfl⟩
  | 19, _ => ⟨by kernel_rfl, by kernel_rfl, fun _ _ => by kernel_rfl, fun _ _ => by kernel_rfl, fun _ _ => by kernel_rfl⟩
  | 20, _ => ⟨by kernel_rfl, by kernel_rfl, fun _ _ => by kernel_rfl, fun _ _ => by kernel_rfl, fun _ _ => by kernel_rfl⟩
  | 21, _ => ⟨by kernel_rfl, by kernel_rfl, fun _ _ => by kernel_rfl, fun _ _ => by kernel_rfl, fun _ _ => by kernel_rfl⟩
  | 22, _ => ⟨by kernel_rfl, by kernel_rfl, fun _ _ => by kernel_rfl, fun _ _ => by kernel_rfl, fun _ _ => by kernel_rfl⟩
  | n + 23, h => absurd h (by omega)
theorem ok_of {r : R D} {d : D} {M : List D} (h : wp0 r fun d' M' => d' = d ∧ M' = M) : r = .ok d M := by
  obtain ⟨d', M', e, rfl, rfl⟩ := h.get
  exact e
theorem right_ok (k : Nat) (d1 d2 x : D) (h : ∀ i, i < 23 → ∃ s, reprV 16 (.tup (dueD d1 d2 i)) = some (.str s)) : Fs (k + 2) 8 [.lst (errs d1 d2), d1, d2] [x] = .ok (.bl true) [x] := by
  show runF false 7 (b8 (Fs (k + 1))) _ _ = _
  rw [b8_eq]
  refine ok_of ?_
  refine wp_run ?_
  simp only [wp0]
  rw [wp_dSeq]
  refine wp_for ?_
  have r8 : dEnum (dVar 0) (entry 7 [.lst (errs d1 d2), d1, d2]) [x] = .ok (.vals (enumL 0 (errs d1 d2))) [x] := rfl
  refine wp_of r8 ⟨fun i δ M => ∃ a b c g, δ = [some (.lst (errs d1 d2)), some d1, some d2, a, b, c, g] ∧ M = [x], ⟨none, none, none, none, rfl, rfl⟩, ?_, ?_⟩
  · rintro i δ M ⟨a, b, c, g, rfl, rfl⟩ hi
    have hi : i < 23 := hi
    have F := fc k d1 d2 x i hi
    obtain ⟨s, hs⟩ := h i hi
    refine ⟨_, F.gt, ?_⟩
    have g3 : gTupN [3, 4] (.tup [.int i, e_ d1 d2 i]) [some (.lst (errs d1 d2)), some d1, some d2, a, b, c, g] [x] = .ok [some (.lst (errs d1 d2)), some d1, some d2, some (.int i), some (e_ d1 d2 i), c, g] [x] := rfl
    refine wp_of g3 ?_
    have f5 := F.f5
    have ne : neO [x] (.str s) (.str s) = some (.bl false) := by
      have h5 : eqv (.str s) (.str s) = true := by simp [eqv]
      simp only [neO, eqM, valD, h5]
      rfl
    have c1 : kC1 (Fs (k + 1)) [some (.lst (errs d1 d2)), some d1, some d2, some (.int i), some (e_ d1 d2 i), some (.tup (dueD d1 d2 i)), g] [x] = .ok false [x] := by
      simp [kC1, dTru, dOp, dBlt, dCall, dCons, dNil, dVar, bnd, Iv.ret, pureO, optE, oneO, hs, f5, ne, truO, truM, valD]
    simp -implicitDefEqProofs only [wp_dSeq, wp_dIf, wp_dOrT]
    refine wp_of (F.as c g) ?_
    dsimp only
    refine wp_of c1 ?_
    simp -implicitDefEqProofs only [Bool.false_eq_true, reduceIte]
    refine wp_of (F.c2 _ g) ?_
    simp -implicitDefEqProofs only [Bool.false_eq_true, reduceIte, wp_dNext]
    refine wp_of (F.c3 _ g) ?_
    simp -implicitDefEqProofs only [Bool.false_eq_true, reduceIte, wp_dNext]
    exact ⟨_, _, _, _, rfl, trivial⟩
  · rintro δ M ⟨a, b, c, g, rfl, rfl⟩
    refine ⟨rfl, ?_⟩
    exact ⟨rfl, rfl, rfl⟩
end Lw
namespace Lw
open Iv
def ones : List D := [.non, .int 0, .str "room", .tup [.int 1, .int 2], .lst [.int 1], .dct [.str "a"] [.lst [.int 1]], .bl true, .str "", .int (-1000000000000000000000000000000000000000000000000000000000000), .str "u.said"]
def twos : List D := [.str "", .int 5, .non, .lst [.lst []], .tup [.str "x"], .bl false, .lst [.int 2], .int 1000000000000000000000000000000000000000000000000000000000000, .int 0]
def kOne : DE := (dLst (dCons (dLit .non) (dCons (dLit (.int 0)) (dCons (dLit (.str "room")) (dCons (dTup (dCons (dLit (.int 1)) (dCons (dLit (.int 2)) (dNil)))) (dCons (dLst (dCons (dLit (.int 1)) (dNil))) (dCons (dDicE "a" (dLst (dCons (dLit (.int 1)) (dNil)))) (dCons (dLit (.bl true)) (dCons (dLit (.str "")) (dCons (dNeg (dOp (pureO powO) (dLit (.int 10)) (dLit (.int 60)))) (dCons (dLit (.str "u.said")) (dNil))))))))))))
def kTwo : DE := (dLst (dCons (dLit (.str "")) (dCons (dLit (.int 5)) (dCons (dLit .non) (dCons (dLst (dCons (dLst (dNil)) (dNil))) (dCons (dTup (dCons (dLit (.str "x")) (dNil))) (dCons (dLit (.bl false)) (dCons (dLst (dCons (dLit (.int 2)) (dNil))) (dCons (dOp (pureO powO) (dLit (.int 10)) (dLit (.int 60))) (dCons (dLit (.int 0)) (dNil)))))))))))
theorem kOne_ok (δ : DEnv) (M : List D) : kOne δ M = .ok (.lst ones) M := by kernel_rfl
theorem kTwo_ok (δ : DEnv) (M : List D) : kTwo δ M = .ok (.lst twos) M := by kernel_rfl
def isStr : Option D → Bool
  | some (.str _) => true
  | _ => false
theorem isStr_get : ∀ {o : Option D}, isStr o = true → ∃ s, o = some (.str s)
  | some (.str s), _ => ⟨s, rfl⟩
theorem one_all : (ones.all fun d => isStr (reprV 16 (.tup [d])) && isStr (reprV 16 d)) = true := by kernel_rfl
theorem two_all : (ones.all fun d => twos.all fun e => isStr (reprV 16 (.tup [d, e]))) = true := by kernel_rfl
theorem one_ok {d : D} (h : d ∈ ones) : (∃ s, reprV 16 (.tup [d]) = some (.str s)) ∧ ∃ s, reprV 16 d = some (.str s) := by
  have := List.all_eq_true.mp one_all d h
  rw [Bool.and_eq_true] at this
  exact ⟨isStr_get this.1, isStr_get this.2⟩
theorem due_ok {d e : D} (h : d ∈ ones) (h2 : e ∈ twos) (i : Nat) : ∃ s, reprV 16 (.tup (dueD d e i)) = some (.str s) := by
  unfold dueD
  split
  · exact (one_ok h).1
  · split
    · exact isStr_get (List.all_eq_true.mp (List.all_eq_true.mp two_all d h) e h2)
    · exact isStr_get (o := reprV 16 (.tup [])) (by kernel_rfl)
theorem right2_ok (k : Nat) {d e : D} (x : D) (h : d ∈ ones) (h2 : e ∈ twos) : Fs (k + 2) 8 [.lst (errs d e), d, e] [x] = .ok (.bl true) [x] := right_ok k d e x fun i _ => due_ok h h2 i
def kLp1 (F : Nat → List D → Ev D) : DT := (dTru truO (dOp (pureO neO) (dBlt (oneO (reprV 16)) (dCons (dFld kf "name" (dVar 4)) (dNil))) (dBlt (oneO (reprV 16)) (dCons (dVar 2) (dNil)))))
def kLp2 (F : Nat → List D → Ev D) : DT := (dOrT (dTru truO (dOp (pureO inO) (dLit (.bl true)) (dCall 1 [] (F 6) (dCons (dVar 4) (dNil))))) (dNotT (dTru truO (dCall 1 [] (F 7) (dCons (dVar 4) (dNil))))))
def kIf4 (F : Nat → List D → Ev D) : DT := (dOrT (dNotT (dTru truO (dCall 1 [] (F 7) (dCons (dVar 5) (dNil))))) (dOrT (dTru truO (dOp (pureO inO) (dLit (.bl true)) (dCall 1 [] (F 6) (dCons (dVar 5) (dNil))))) (dTru truO (dIsi kt [.o 1012] (dVar 5)))))
def kRt : DS := (dRet (dAnd truO (dIsi kt [.o 1023] (dFld kf "error" (dVar 6))) (dAnd truO (dOp (pureO eqO) (dFld kf "line" (dFld kf "error" (dVar 6))) (dLit (.int 0))) (dOp (pureO eqO) (dFld kf "line" (dVar 6)) (dLit (.int 3))))))
theorem b9_eq (F : Nat → List D → Ev D) : b9 F = dSeq (dAsg (dCall 1 [] (F 0) (dCons (dVar 0) (dNil))) (gVar 1)) (dSeq (dAsg (dCall 2 [] (F 2) (dCons (dVar 1) (dCons kOne dNil))) (gVar 2)) (dSeq (dAsg (dCall 2 [] (F 2) (dCons (dVar 1) (dCons kTwo dNil))) (gVar 3)) (dSeq (dIf (dOrT (dNotT (dTru truO (dCall 3 [] (F 8) (dCons (dCall 2 [] (F 3) (dCons (dVar 2) (dCons (dVar 3) (dNil)))) (dCons (dVar 2) (dCons (dVar 3) (dNil))))))) (dNotT (dTru truO (dCall 3 [] (F 8) (dCons (dCall 2 [] (F 4) (dCons (dVar 2) (dCons (dVar 3) (dNil)))) (dCons (dVar 2) (dCons (dVar 3) (dNil)))))))) (dRet (dLit (.bl false))) (dNext)) (dSeq (dFor (dIt (dLst (dCons (dExn 1012 1 [("name", 0)] (dCons (dVar 2) (dNil))) (dCons (dExnK 1012 1 [("name", 0)] [0] (dCons (dVar 2) (dNil))) (dNil))))) (gVar 4) (dIf (dOrT (kLp1 F) (kLp2 F)) (dRet (dLit (.bl false))) (dNext))) (dSeq (dPar [5, 6] (dCons (dLit (.ins 1000 [] [])) (dCons (dExn 1024 2 [("error", 1), ("line", 0)] (dCons (dLit (.int 3)) (dCons (dExn 1023 2 [("word", 1), ("line", 0)] (dCons (dLit (.int 0)) (dCons (dCall 2 [] (F 1) (dCons (dVar 1) (dCons (dLit (.int 9)) (dNil)))) (dNil)))) (dNil)))) (dNil)))) (dSeq (dIf (kIf4 F) (dRet (dLit (.bl false))) (dNext)) kRt)))))) := rfl
abbrev dl (v a b : D) (c e f : Option D) : DEnv := [some v, some (.cell 0), some a, some b, c, e, f]
abbrev mis (a : D) : D := .ins 1012 ["name"] [a]
theorem it_ok (v a b x : D) : (dIt (dLst (dCons (dExn 1012 1 [("name", 0)] (dCons (dVar 2) (dNil))) (dCons (dExnK 1012 1 [("name", 0)] [0] (dCons (dVar 2) (dNil))) (dNil))))) (dl v a b none none none) [x] = .ok (.vals [mis a, mis a]) [x] := by kernel_rfl
theorem lp2_ok (k : Nat) (v a b x : D) : kLp2 (Fs (k + 1)) (dl v a b (some (mis a)) none none) [x] = .ok false [x] := by kernel_rfl
theorem if4_ok (k : Nat) (v a b x c y : D) : kIf4 (Fs (k + 1)) (dl v a b (some c) (some (.ins 1000 [] [])) (some y)) [x] = .ok false [x] := by kernel_rfl
theorem rt_ok (v a b x c y z : D) : kRt (dl v a b (some c) (some y) (some (.ins 1024 ["error", "line"] [.ins 1023 ["word", "line"] [z, .int 0], .int 3]))) [x] = .ok (.rt (.bl true)) [x] := by kernel_rfl
end Lw
namespace Lw
open Iv
theorem lcs_map {ds : List D} {v : Nat} {te : DE} {δ : DEnv} {M : List D} {f : D → D} (h : ∀ d ∈ ds, te (δ.set v (some d)) M = .ok (f d) M) : ∀ (n i : Nat), i + n = ds.length → lcs (.vals ds) (gVar v) dYes te δ n i M = .ok ((ds.drop i).map f) M
  | 0, i, e => by
    have e2 : ds.drop i = [] := List.drop_eq_nil_of_le (by omega)
    rw [e2]
    rfl
  | n + 1, i, e => by
    have hi : i < ds.length := by omega
    have ih := lcs_map h n (i + 1) (by omega)
    have e2 : ds.drop i = ds[i] :: ds.drop (i + 1) := List.drop_eq_getElem_cons hi
    unfold lcs
    simp only [Src.get, List.getElem?_eq_getElem hi, gVar, bnd, Iv.ret, dYes, if_true, h ds[i] (List.getElem_mem hi), ih, e2, List.map_cons]
theorem dLc_map {it : DI} {te : DE} {v : Nat} {δ : DEnv} {M : List D} {ds : List D} {f : D → D} (hi : it δ M = .ok (.vals ds) M) (hz : ds.length ≤ PySem.sizeLine) (h : ∀ d ∈ ds, te ((wipeD δ [v]).set v (some d)) M = .ok (f d) M) : dLc it (gVar v) dYes te [v] δ M = .ok (.lst (ds.map f)) M := by
  have e := lcs_map (δ := wipeD δ [v]) h ds.length 0 (Nat.zero_add _)
  rw [List.drop_zero] at e
  have hz' : (Src.vals ds).len ≤ PySem.sizeLine := hz
  unfold dLc
  simp only [bnd, hi]
  rw [if_pos hz']
  have e' : lcs (Src.vals ds) (gVar v) dYes te (wipeD δ [v]) (Src.vals ds).len 0 M = .ok (ds.map f) M := e
  simp only [noX]
  unfold bnd
  rw [e']
  rfl
theorem pen_ok (k : Nat) (ns : List Int) (hn : ns.length ≤ 63) : Fs (k + 1) 0 [.scr (ns.map .int)] [] = .ok (.cell 0) [pn (ns.take 60) 0 0] := by
  have sl : PySem.sizeLine = 16777216 := rfl
  have cu : cutD (ns.map D.int) none (some 60) = (ns.take 60).map .int := by
    have h1 : HT.sIx (ns.map D.int).length 0 none = 0 := rfl
    have h2 : HT.sIx (ns.map D.int).length (ns.map D.int).length (some ((60 : Nat) : Int)) = min 60 ns.length := by
      rw [HT.sIx_nat, List.length_map]
    unfold cutD
    rw [h1, show (60 : Int) = ((60 : Nat) : Int) from rfl, h2, List.drop_zero, Nat.sub_zero, List.map_take]
    rw [show min 60 ns.length = min 60 (ns.map D.int).length from by rw [List.length_map], ← List.take_eq_take_min]
  have it : dIt (dSli (dVar 0) dNoP (dPart (dLit (.int 60)))) [some (.scr (ns.map .int)), none] [] = .ok (.vals ((ns.take 60).map .int)) [] := by
    rw [← cu]
    rfl
  have lc := dLc_map (v := 1) (te := dBlt (oneO Iv.intD) (dCons (dVar 1) dNil)) (f := fun d => d) it (by simp; omega) (fun d hd => by
    obtain ⟨i, _, rfl⟩ := List.mem_map.mp hd
    rfl)
  rw [List.map_id''] at lc
  · show runF true 2 (b0 (Fs k)) _ _ = _
    have n3 : 3 ≤ PySem.sizeLine := by omega
    simp [runF, entry, b0, dRet, lft, bnd, Iv.ret, dCel, dCons, dNil, dLit, Iv.fin, lc, n3]
  · exact fun _ => rfl

theorem law_plain (ns : List Int) (h : ns.length ≤ 63) : ∃ M', Fs 40 9 [.scr (ns.map .int)] [] = .ok (.bl true) M' := by
  have sl : PySem.sizeLine = 16777216 := rfl
  have pe := pen_ok 38 ns h
  generalize ns.take 60 = zs at pe
  obtain ⟨d, a1, g1, hd, e1, p1⟩ := pick_lst 37 zs ones 0 0 0 [] ⟨by omega, by omega, by omega⟩ (by decide) (by decide) (by decide)
  obtain ⟨e, a2, g2, he, e2, p2⟩ := pick_lst 37 zs twos a1 g1 _ [] p1 (by decide) (by decide) (by decide)
  obtain ⟨i, a3, g3, hi, e3, p3⟩ := drawN 38 zs 9 a2 g2 _ [] p2 (by decide) (by decide) (by decide)
  have body : wp0 (b9 (Fs 39) (entry 7 [.scr (ns.map .int)]) []) fun f M => f = .rt (.bl true) ∧ ∃ x, M = [x] := by
    rw [b9_eq]
    have rp := right2_ok 37 (pn zs a2 g2) hd he
    have pl := place_ok 38 d e (pn zs a2 g2)
    have nm := name_ok 38 d e (pn zs a2 g2)
    obtain ⟨s, hs⟩ := (one_ok hd).2
    simp -implicitDefEqProofs only [wp0, wp_dSeq, wp_dAsg, wp_dIf, wp_dRet, wp_dDrop, wp_dNext, wp_dOp, wp_dTru, wp_dCons, wp_dNil, wp_dCall, wp_dNotT, wp_dAndT, wp_dOrT, wp_dAnd, wp_dOr, wp_dNot, wp_dIte, wp_dTup, wp_dLst, wp_dMth, wp_dBlt, wp_dPar, wp_dNoP, wp_dPart, wp_dSli, wp_dCel, wp_dNeg, setAll, wp_ok, wp_exc, wp_ret, dVar, dLit, dNil, entry, List.map_cons, List.map_nil, List.replicate, List.cons_append, List.nil_append, List.append_nil, List.getElem?_cons_succ, List.getElem?_cons_zero, List.set_cons_succ, List.set_cons_zero, List.length_cons, List.length_nil, Nat.reduceAdd, Nat.reduceSub, reduceIte, Bool.false_eq_true, pureO, optE, truO, truM, valD, seqD, gVar, stuck, Bool.not_true, Bool.not_false, true_and, and_true, pe, kOne_ok, e1, kTwo_ok, e2, pl, nm, rp]
    refine wp_for ?_
    refine wp_of (it_ok _ d e _) ⟨fun i δ M => ∃ c, δ = dl (.scr (ns.map .int)) d e c none none ∧ M = [pn zs a2 g2] ∧ (0 < i → ∃ y, c = some y), ⟨none, rfl, rfl, fun z => absurd z (by decide)⟩, ?_, ?_⟩
    · rintro i δ M ⟨c, rfl, rfl, hc⟩ hi
      have hi : i < 2 := hi
      have gt : (Src.vals [mis d, mis d]).get [pn zs a2 g2] i = some (mis d) := match i, hi with | 0, _ => rfl | 1, _ => rfl | n + 2, h => absurd h (by omega)
      refine ⟨_, gt, ?_⟩
      have g4 : gVar 4 (mis d) (dl (.scr (ns.map .int)) d e c none none) [pn zs a2 g2] = .ok (dl (.scr (ns.map .int)) d e (some (mis d)) none none) [pn zs a2 g2] := rfl
      refine wp_of g4 ?_
      have fl : dFld kf "name" (dVar 4) (dl (.scr (ns.map .int)) d e (some (mis d)) none none) [pn zs a2 g2] = .ok d [pn zs a2 g2] := by kernel_rfl
      have ne : neO [pn zs a2 g2] (.str s) (.str s) = some (.bl false) := by
        have h5 : eqv (.str s) (.str s) = true := by simp [eqv]
        simp only [neO, eqM, valD, h5]
        rfl
      have c1 : kLp1 (Fs 39) (dl (.scr (ns.map .int)) d e (some (mis d)) none none) [pn zs a2 g2] = .ok false [pn zs a2 g2] := by
        simp [kLp1, dTru, dOp, dBlt, dCons, dNil, dVar, bnd, Iv.ret, pureO, optE, oneO, hs, fl, ne, truO, truM, valD]
      simp -implicitDefEqProofs only [wp_dIf, wp_dOrT]
      refine wp_of c1 ?_
      simp -implicitDefEqProofs only [Bool.false_eq_true, reduceIte]
      refine wp_of (lp2_ok 38 _ d e _) ?_
      simp -implicitDefEqProofs only [Bool.false_eq_true, reduceIte, wp_dNext]
      exact ⟨_, rfl, trivial, fun _ => ⟨_, rfl⟩⟩
    · rintro δ M ⟨c, rfl, rfl, hc⟩
      refine ⟨rfl, ?_⟩
      obtain ⟨y, hy⟩ : ∃ y, c = some y := hc (show 0 < 2 by decide)
      subst hy
      have pr : (dExn 1024 2 [("error", 1), ("line", 0)] (dCons (dLit (.int 3)) (dCons (dExn 1023 2 [("word", 1), ("line", 0)] (dCons (dLit (.int 0)) (dCons (dCall 2 [] (Fs 39 1) (dCons (dVar 1) (dCons (dLit (.int 9)) (dNil)))) (dNil)))) (dNil)))) (dl (.scr (ns.map .int)) d e (some y) none none) [pn zs a2 g2] = .ok (.ins 1024 ["error", "line"] [.ins 1023 ["word", "line"] [.int i, .int 0], .int 3]) [pn zs a3 g3] := by
        have e4 : Fs 39 1 [.cell 0, .int 9] [pn zs a2 g2] = .ok (.int i) [pn zs a3 g3] := e3
        simp [dCons, dNil, dLit, dExn, dCall, dVar, bnd, Iv.ret, e4, exnV]
      refine wp_of pr ?_
      refine wp_of (if4_ok 38 _ d e _ y _) ?_
      simp -implicitDefEqProofs only [Bool.false_eq_true, reduceIte]
      refine wp_of (rt_ok _ d e _ y _ _) ?_
      exact ⟨rfl, _, rfl⟩
  obtain ⟨f, M, e, rfl, x, rfl⟩ := body.get
  refine ⟨[], ?_⟩
  show runF false 7 (b9 (Fs 39)) _ _ = _
  unfold runF
  rw [show List.length ([] : List D) = 0 from rfl, e]
  have c : closes 0 [.bl true] [x] = some ([.bl true], []) := by
    unfold closes
    rw [if_neg (by simp)]
    rfl
  simp only [Iv.fin, Bool.false_eq_true, if_false, c]
end Lw
open PySem PySem.W PySem.Calls PyProof.Rows
theorem PySem.Challenge.cw_saidenough_k00_errors_keep_their_fields_holds : PySem.Challenge.rw_saidenough_k00_errors_keep_their_fields.Holds := by
  w_on; o_law
  refine HandSHeadRun.head_any (r := Lw.Rw) (q := view Lw.Rw.prog [36]) (H := Lw.hk) (ob := Lw.ob) (M := 7000) (loose := Lw.names) (d := HandSHeadRun.topDef Lw.Rw.prog 36) (kwd := []) Lw.ob_eq
    (by kernel_rfl) (fun s => by kernel_rfl) Lw.run (by kernel_rfl) (by kernel_rfl) (by kernel_rfl) (by rfl) (by first | assumption | decide +kernel) (by decide +kernel) ⟨rfl, rfl, rfl, rfl, rfl, by decide +kernel⟩ ?hw ?hc
  case hw => w_witness2
  case hc =>
    refine Iv.walkIv (l := PySem.Challenge.rw_saidenough_k00_errors_keep_their_fields) (n := 63) (k := 43) (x := "_law_script") rfl (by decide) (by kernel_rfl) ⟨rfl, by decide, by decide⟩ ?F
    intro w mg fa h Y Nm hmg0
    obtain ⟨K, KX, c⟩ := Y
    have hmg : mg ("law" : PySem.Str) = some (.ref fa) := by
      have e : (HandSHeadRun.topDef Lw.Rw.prog 36).name = ("law" : PySem.Str) := by kernel_rfl
      rw [← e]
      exact hmg0
    obtain ⟨fd, F⟩ := c.d.def_ 9 (d := Lw.d9) rfl
    have e := hmg.symm.trans (He.glo_ok (x := "law") KX Nm (c.d.fact 9 rfl))
    cases e
    have b := L2.FunD.bindsA (ps := ["_law_script"]) F fun _ _ _ _ _ _ us hl => match us, hl with | [_], _ => rfl
    exact ⟨Lw.G0 K, fd, Lw.Fs 40 9, rfl, KX, fun s v => b s [v] rfl, fun ns hl => Lw.law_plain ns hl, fun base X N => Lw.all_ok X N c 40 9 (by decide) [] fd F⟩
