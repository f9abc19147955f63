import PyProof.Rows.All
import Wide.All
import OpenK.AllK
import Wide.FinOn
import KE.KStateDown
import HandS.ForMost
import HandS.ForExc
import HandS.Deep
import HandS.DeepEq
import HandS.Conv
import HandS.Defaults
import HandS.ExcInit
import PyProof.NeKinds
import HandS.TupAny
import HandS.Wide
import HandS.IsInst
import HandS.RaiseMore
import KE.KExcIs
import HandS.Style
import HandS.Iter
import HandS.Comp
import HandS.Strs
import HandS.Head0
import HandS.Head1
import HandS.Head2
import HandS.HeadHook1
import HandS.HeadHook2
import KE.KExcSuper
import HandS.Nested
import HandS.ExcField
import HandS.ExcValue
import HandS.Star
import HandS.ClsMeth
import PyProof.InstNe
import PyProof.Conv_bool
import HandS.Dict
import HandS.Small
import KE.SortData
import KE.DataMinMax
import PyProof.Claim2Refuses
import KE.KDictZip
import Lean
import HandS.HeadEnd
import HandS.Words
import HandS.WordsExc
import PySem.Challenge.RW_saidenough_k03_papers_keep_what_they_tel
set_option Elab.async false
set_option linter.all false
set_option maxRecDepth 100000
set_option maxHeartbeats 0
/-! Data by value, a store of cells, and how a heap bears them. -/
namespace Iv
open PySem PySem.Spec PyProof.Rows L2

/-- data by value; a cell stands for an object that is changed -/
inductive D where
  | non | bl (b : Bool) | int (i : Int) | str (x : Str)
  | lst (xs : List D) | tup (xs : List D) | dct (ks vs : List D)
  | ins (c : Nat) (ns : List Str) (vs : List D)
  | scr (xs : List D) | lck (ks vs : List D)
  | cell (n : Nat) | fn (n : Nat) | cls (n : Nat) | ty (n : String)
  deriving Inhabited

/-- what the text's classes and defs stand at -/
structure Gd where
  K : PySem.W.Frag
  cls : Nat → Addr
  fns : Nat → Addr
  hid : List Addr := []

/-- the heap without the cells -/
def off (G : Gd) (r : List Addr) (H : Hp) : Hp := fun a => if a ∈ G.hid ∨ a ∈ r then none else H a
theorem off_some {G : Gd} {r : List Addr} {H : Hp} {a : Addr} {o : HO} : off G r H a = some o ↔ (a ∉ G.hid ∧ a ∉ r) ∧ H a = some o := by
  unfold off
  by_cases h : a ∈ G.hid ∨ a ∈ r
  · rw [if_pos h]
    exact ⟨(fun z => nomatch z), fun z => absurd h (not_or.mpr z.1)⟩
  · rw [if_neg h]
    exact ⟨(fun z => ⟨not_or.mp h, z⟩), fun z => z.2⟩

/-- a key of a dict -/
def kD : Key → D
  | .inl i => .int i
  | .inr x => .str x

/-- classes of exceptions are numbered from 1000 on -/
def isEx (c : Nat) : Bool := Nat.ble 1000 c
mutual
inductive Rep (G : Gd) (r : List Addr) (H : Hp) : V → D → Prop
  | non : Rep G r H .non .non
  | bl {b} : Rep G r H (.bl b) (.bl b)
  | int {i} : Rep G r H (.int i) (.int i)
  | str {x} : Rep G r H (.str x) (.str x)
  | lst {a vs ds} : off G r H a = some (.lst vs) → Reps G r H vs ds → Rep G r H (.ref a) (.lst ds)
  | scr {a vs ds} : SqL G.K (off G r H) a vs → Reps G r H vs ds → Rep G r H (.ref a) (.scr ds)
  | tup {a vs ds} : SqT G.K (off G r H) a vs → Reps G r H vs ds → Rep G r H (.ref a) (.tup ds)
  | dct {a kvs vs} : Rd (off G r H) a (.dK kvs) → Reps G r H (kvs.map (·.2)) vs → Rep G r H (.ref a) (.dct (kvs.map fun p => kD p.1) vs)
  | ins {a c dx fs vs} : isEx c = false → off G r H a = some (.ins (G.cls c) dx fs) → Reps G r H (fs.map (·.2)) vs → Rep G r H (.ref a) (.ins c (fs.map (·.1)) vs)
  | exn {a c dx fs vs} : isEx c = true → off G r H a = some (exo a (G.cls c) (some dx)) → off G r H dx = some (exd dx fs) → Reps G r H (fs.map (·.2)) vs → Rep G r H (.ref a) (.ins c (fs.map (·.1)) vs)
  | exn0 {a c} : isEx c = true → off G r H a = some (exo a (G.cls c) none) → Rep G r H (.ref a) (.ins c [] [])
  | cell {a n} : r[n]? = some a → Rep G r H (.ref a) (.cell n)
  | fn {n} : Rep G r H (.ref (G.fns n)) (.fn n)
  | cls {n} : Rep G r H (.ref (G.cls n)) (.cls n)
  | ty {n} : Rep G r H (.ty n) (.ty n)
inductive Reps (G : Gd) (r : List Addr) (H : Hp) : List V → List D → Prop
  | nil : Reps G r H [] []
  | cons {v d vs ds} : Rep G r H v d → Reps G r H vs ds → Reps G r H (v :: vs) (d :: ds)
end

/-- what stands stays, but a dict may be locked -/
def Up (o : HO) (x : Option HO) : Prop := x = some o ∨ ∃ kvs ob, o = .dK kvs ∧ x = some (.frz ob (.dK kvs))
def noDK : HO → Bool
  | .dK _ => false
  | _ => true
theorem Up.refl {o : HO} : Up o (some o) := .inl rfl
theorem Up.get {o : HO} {x : Option HO} (h : Up o x) (n : noDK o = true) : x = some o := by
  rcases h with h | ⟨kvs, ob, rfl, _⟩
  · exact h
  · cases n
theorem Up.rd {kvs : List (Key × V)} {H : Hp} {a : Addr} (h : Up (.dK kvs) (H a)) : Rd H a (.dK kvs) := by
  rcases h with h | ⟨_, ob, e, h⟩
  · exact .inl h
  · cases e; exact .inr ⟨ob, h⟩
theorem Up.ne {o : HO} {x : Option HO} (h : Up o x) : x ≠ none := by
  rcases h with h | ⟨_, _, _, h⟩ <;> (rw [h]; intro z; cases z)
/-- what happens to a heap with cells: cells are added, all else that stood stands; what is locked stays so -/
structure Le (r : List Addr) (H : Hp) (r' : List Addr) (H' : Hp) : Prop where
  pre : ∃ new, r' = r ++ new ∧ ∀ b ∈ new, H b = none
  keep : ∀ a o, H a = some o → a ∉ r → Up o (H' a)
  there : ∀ a ∈ r, H' a ≠ none
  fz : ∀ a ob u, H a = some (.frz ob u) → H' a = some (.frz ob u)

section
variable {G : Gd} {r r1 r2 : List Addr} {H H1 H2 : Hp} {M : List D}
theorem Le.offU (l : Le r H r1 H1) {a : Addr} {o : HO} (h : off G r H a = some o) : Up o (off G r1 H1 a) := by
  obtain ⟨⟨h0, h1⟩, h2⟩ := off_some.mp h
  have nm : a ∉ r1 := by
    obtain ⟨new, rfl, hn⟩ := l.pre
    intro hm
    rcases List.mem_append.mp hm with hm | hm
    · exact h1 hm
    · rw [hn a hm] at h2
      cases h2
  rcases l.keep a o h2 h1 with e | ⟨kvs, ob, e1, e⟩
  · exact .inl (off_some.mpr ⟨⟨h0, nm⟩, e⟩)
  · exact .inr ⟨kvs, ob, e1, off_some.mpr ⟨⟨h0, nm⟩, e⟩⟩
theorem Le.off (l : Le r H r1 H1) {a : Addr} {o : HO} (h : off G r H a = some o) (n : noDK o = true := by rfl) : off G r1 H1 a = some o := (l.offU h).get n
theorem Le.rd (l : Le r H r1 H1) {a : Addr} {kvs : List (Key × V)} (h : Rd (Iv.off G r H) a (.dK kvs)) : Rd (Iv.off G r1 H1) a (.dK kvs) := by
  rcases h with h | ⟨ob, h⟩
  · exact (l.offU h).rd
  · exact .inr ⟨ob, l.off h⟩
theorem Le.get (l : Le r H r1 H1) {n : Nat} {a : Addr} (h : r[n]? = some a) : r1[n]? = some a := by
  obtain ⟨new, rfl, _⟩ := l.pre
  rw [List.getElem?_append_left (List.getElem?_eq_some_iff.mp h).1]
  exact h
theorem Le.refl (h : ∀ a ∈ r, H a ≠ none) : Le r H r H := ⟨⟨[], by simp, fun _ z => nomatch z⟩, fun _ _ h _ => .inl h, h, fun _ _ _ h => h⟩
theorem Le.trans (l : Le r H r1 H1) (l' : Le r1 H1 r2 H2) : Le r H r2 H2 := by
  obtain ⟨new, rfl, hn⟩ := l.pre
  obtain ⟨new', rfl, hn'⟩ := l'.pre
  refine ⟨⟨new ++ new', by simp, fun b hb => ?_⟩, fun a o h hr => ?_, fun a ha => l'.there a (List.mem_append_left _ ha), fun a ob u h => l'.fz a ob u (l.fz a ob u h)⟩
  · rcases List.mem_append.mp hb with hb | hb
    · exact hn b hb
    · have h1 := hn' b hb
      cases e : H b with
      | none => rfl
      | some o =>
        by_cases hr : b ∈ r
        · exact absurd h1 (l.there b hr)
        · exact absurd h1 (l.keep b o e hr).ne
  · have nm : a ∉ r ++ new := fun hm => by
      rcases List.mem_append.mp hm with hm | hm
      · exact hr hm
      · rw [hn a hm] at h
        cases h
    rcases l.keep a o h hr with e | ⟨kvs, ob, rfl, e⟩
    · exact l'.keep a o e nm
    · exact .inr ⟨kvs, ob, rfl, l'.fz a ob _ e⟩
theorem Le.sqL (l : Le r H r1 H1) {K : PySem.W.Frag} {a : Addr} {xs : List V} (h : SqL K (Iv.off G r H) a xs) : SqL K (Iv.off G r1 H1) a xs := by
  rcases h with (h | ⟨o, h⟩) | h
  · exact .inl (.inl (l.off h))
  · exact .inl (.inr ⟨o, l.off h⟩)
  · exact .inr h
theorem Le.sqT (l : Le r H r1 H1) {K : PySem.W.Frag} {a : Addr} {xs : List V} (h : SqT K (Iv.off G r H) a xs) : SqT K (Iv.off G r1 H1) a xs := by
  rcases h with (h | ⟨o, h⟩) | h
  · exact .inl (.inl (l.off h))
  · exact .inl (.inr ⟨o, l.off h⟩)
  · exact .inr h
theorem rd_off {a : Addr} {u : HO} (h : Rd (Iv.off G r H) a u) : Rd H a u := by
  rcases h with h | ⟨ob, h⟩
  · exact .inl (off_some.mp h).2
  · exact .inr ⟨ob, (off_some.mp h).2⟩
theorem sqL_off {K : PySem.W.Frag} {a : Addr} {xs : List V} (h : SqL K (Iv.off G r H) a xs) : SqL K H a xs := by
  rcases h with (h | ⟨o, h⟩) | h
  · exact .inl (.inl (off_some.mp h).2)
  · exact .inl (.inr ⟨o, (off_some.mp h).2⟩)
  · exact .inr h
theorem sqT_off {K : PySem.W.Frag} {a : Addr} {xs : List V} (h : SqT K (Iv.off G r H) a xs) : SqT K H a xs := by
  rcases h with (h | ⟨o, h⟩) | h
  · exact .inl (.inl (off_some.mp h).2)
  · exact .inl (.inr ⟨o, (off_some.mp h).2⟩)
  · exact .inr h
mutual
theorem Rep.le (l : Le r H r1 H1) : ∀ {v : V} {d : D}, Rep G r H v d → Rep G r1 H1 v d
  | _, _, .non => .non
  | _, _, .bl => .bl
  | _, _, .int => .int
  | _, _, .str => .str
  | _, _, .lst h hs => .lst (l.off h) (Reps.le l hs)
  | _, _, .scr h hs => .scr (l.sqL h) (Reps.le l hs)
  | _, _, .tup h hs => .tup (l.sqT h) (Reps.le l hs)
  | _, _, .dct h hs => .dct (l.rd h) (Reps.le l hs)
  | _, _, .ins z h hs => .ins z (l.off h) (Reps.le l hs)
  | _, _, .exn z h h2 hs => .exn z (l.off h) (l.off h2) (Reps.le l hs)
  | _, _, .exn0 z h => .exn0 z (l.off h)
  | _, _, .cell h => .cell (l.get h)
  | _, _, .fn => .fn
  | _, _, .cls => .cls
  | _, _, .ty => .ty
theorem Reps.le (l : Le r H r1 H1) : ∀ {vs : List V} {ds : List D}, Reps G r H vs ds → Reps G r1 H1 vs ds
  | _, _, .nil => .nil
  | _, _, .cons h hs => .cons (Rep.le l h) (Reps.le l hs)
end

theorem Reps.length : ∀ {vs : List V} {ds : List D}, Reps G r H vs ds → vs.length = ds.length
  | _, _, .nil => rfl
  | _, _, .cons _ hs => by simp [Reps.length hs]
theorem Reps.get : ∀ {vs : List V} {ds : List D} {i : Nat} {d : D}, Reps G r H vs ds → ds[i]? = some d → ∃ v, vs[i]? = some v ∧ Rep G r H v d
  | _, _, _, _, .nil, e => by simp at e
  | _, _, 0, _, .cons h _, e => by
    simp at e
    subst e
    exact ⟨_, rfl, h⟩
  | _, _, i + 1, d, .cons _ hs, e => by
    obtain ⟨v, h1, h2⟩ := Reps.get (i := i) (d := d) hs (by simpa using e)
    exact ⟨v, by simpa using h1, h2⟩
theorem Reps.get' : ∀ {vs : List V} {ds : List D} {i : Nat} {v : V}, Reps G r H vs ds → vs[i]? = some v → ∃ d, ds[i]? = some d ∧ Rep G r H v d
  | _, _, _, _, .nil, e => by simp at e
  | _, _, 0, _, .cons h _, e => by
    simp at e
    subst e
    exact ⟨_, rfl, h⟩
  | _, _, i + 1, d, .cons _ hs, e => by
    obtain ⟨v, h1, h2⟩ := Reps.get' (i := i) (v := d) hs (by simpa using e)
    exact ⟨v, by simpa using h1, h2⟩
theorem Reps.append : ∀ {vs ws : List V} {ds es : List D}, Reps G r H vs ds → Reps G r H ws es → Reps G r H (vs ++ ws) (ds ++ es)
  | _, _, _, _, .nil, h => h
  | _, _, _, _, .cons h hs, h' => .cons h (Reps.append hs h')
theorem Reps.set {v : V} {d : D} (h : Rep G r H v d) : ∀ {vs : List V} {ds : List D} (i : Nat), Reps G r H vs ds → Reps G r H (vs.set i v) (ds.set i d)
  | _, _, _, .nil => .nil
  | _, _, 0, .cons _ hs => .cons h hs
  | _, _, i + 1, .cons q hs => .cons q (Reps.set h i hs)
theorem Reps.take : ∀ {vs : List V} {ds : List D} (n : Nat), Reps G r H vs ds → Reps G r H (vs.take n) (ds.take n)
  | _, _, 0, _ => .nil
  | _, _, _ + 1, .nil => .nil
  | _, _, n + 1, .cons h hs => .cons h (Reps.take n hs)
theorem Reps.drop : ∀ {vs : List V} {ds : List D} (n : Nat), Reps G r H vs ds → Reps G r H (vs.drop n) (ds.drop n)
  | _, _, 0, h => h
  | _, _, _ + 1, .nil => .nil
  | _, _, n + 1, .cons _ hs => Reps.drop n hs
theorem Reps.erase : ∀ {vs : List V} {ds : List D} (n : Nat), Reps G r H vs ds → Reps G r H (vs.eraseIdx n) (ds.eraseIdx n)
  | _, _, _, .nil => .nil
  | _, _, 0, .cons _ hs => hs
  | _, _, n + 1, .cons h hs => .cons h (Reps.erase n hs)
theorem Reps.rev {vs : List V} {ds : List D} (h : Reps G r H vs ds) : Reps G r H vs.reverse ds.reverse := by
  induction ds generalizing vs with
  | nil => cases h; exact .nil
  | cons d ds ih =>
    cases h with
    | cons h hs =>
      rw [List.reverse_cons, List.reverse_cons]
      exact (ih hs).append (.cons h .nil)
theorem Reps.strs {xs : List Str} : ∀ {ds : List D}, ds = xs.map D.str → Reps G r H (xs.map V.str) ds := by
  intro ds e
  subst e
  induction xs with
  | nil => exact .nil
  | cons x xs ih => exact .cons .str ih
theorem Reps.ints {xs : List Int} : Reps G r H (xs.map V.int) (xs.map D.int) := by
  induction xs with
  | nil => exact .nil
  | cons x xs ih => exact .cons .int ih
theorem Reps.of_strs : ∀ {vs : List V} {xs : List Str}, Reps G r H vs (xs.map D.str) → vs = xs.map V.str
  | _, [], .nil => rfl
  | _, x :: xs, .cons h hs => by
    cases h
    rw [Reps.of_strs hs]
    rfl
theorem Reps.of_ints : ∀ {vs : List V} {xs : List Int}, Reps G r H vs (xs.map D.int) → vs = xs.map V.int
  | _, [], .nil => rfl
  | _, x :: xs, .cons h hs => by
    cases h
    rw [Reps.of_ints hs]
    rfl
theorem Reps.of_bls : ∀ {vs : List V} {xs : List Bool}, Reps G r H vs (xs.map D.bl) → vs = xs.map V.bl
  | _, [], .nil => rfl
  | _, x :: xs, .cons h hs => by
    cases h
    rw [Reps.of_bls hs]
    rfl

/-! ### the cells -/
/-- what stands at a cell -/
def CellAt (G : Gd) (r : List Addr) (H : Hp) (a : Addr) : D → Prop
  | .lst ds => ∃ vs, H a = some (.lst vs) ∧ Reps G r H vs ds
  | .dct ks ds => ∃ kvs, H a = some (.dK kvs) ∧ ks = (kvs.map fun p => kD p.1) ∧ Reps G r H (kvs.map (·.2)) ds
  | .lck ks ds => ∃ ob kvs, H a = some (.frz ob (.dK kvs)) ∧ ks = (kvs.map fun p => kD p.1) ∧ Reps G r H (kvs.map (·.2)) ds
  | .ins c ns ds => ∃ dx fs, H a = some (.ins (G.cls c) dx fs) ∧ ns = fs.map (·.1) ∧ Reps G r H (fs.map (·.2)) ds ∧ isEx c = false
  | _ => False
structure StOk (G : Gd) (r : List Addr) (M : List D) (H : Hp) : Prop where
  len : r.length = M.length
  nd : r.Nodup
  at_ : ∀ (n : Nat) (a : Addr) (o : D), r[n]? = some a → M[n]? = some o → CellAt G r H a o
  hid : ∀ a ∈ G.hid, H a ≠ none ∧ a ∉ r
theorem CellAt.there {a : Addr} {o : D} (h : CellAt G r H a o) : H a ≠ none := by
  cases o with
  | lst ds => obtain ⟨vs, e, _⟩ := h; rw [e]; intro z; cases z
  | dct ks ds => obtain ⟨kvs, e, _⟩ := h; rw [e]; intro z; cases z
  | lck ks ds => obtain ⟨ob, kvs, e, _⟩ := h; rw [e]; intro z; cases z
  | ins c ns ds => obtain ⟨dx, fs, e, _⟩ := h; rw [e]; intro z; cases z
  | _ => exact h.elim
theorem StOk.get (S : StOk G r M H) {n : Nat} {o : D} (h : M[n]? = some o) : ∃ a, r[n]? = some a ∧ CellAt G r H a o := by
  have hn : n < r.length := by rw [S.len]; exact (List.getElem?_eq_some_iff.mp h).1
  exact ⟨r[n], List.getElem?_eq_getElem hn, S.at_ n _ o (List.getElem?_eq_getElem hn) h⟩
theorem StOk.there (S : StOk G r M H) : ∀ a ∈ r, H a ≠ none := fun a ha => by
  obtain ⟨n, hn, e⟩ := List.getElem_of_mem ha
  have hm : n < M.length := by rw [← S.len]; exact hn
  exact (S.at_ n a M[n] (by rw [List.getElem?_eq_getElem hn, e]) (List.getElem?_eq_getElem hm)).there
theorem StOk.le (S : StOk G r M H) : Le r H r H := .refl S.there
theorem StOk.fresh (S : StOk G r M H) {p : Addr} (h : H p = none) : p ∉ G.hid ∧ p ∉ r := ⟨fun z => (S.hid p z).1 h, fun z => S.there p z h⟩
/-- cells whose contents stand as they stood -/
theorem CellAt.le (l : Le r H r1 H1) {a : Addr} (e : H1 a = H a) {o : D} (h : CellAt G r H a o) : CellAt G r1 H1 a o := by
  cases o with
  | lst ds => obtain ⟨vs, e1, hs⟩ := h; exact ⟨vs, e.trans e1, hs.le l⟩
  | dct ks ds => obtain ⟨kvs, e1, e2, hs⟩ := h; exact ⟨kvs, e.trans e1, e2, hs.le l⟩
  | lck ks ds => obtain ⟨ob, kvs, e1, e2, hs⟩ := h; exact ⟨ob, kvs, e.trans e1, e2, hs.le l⟩
  | ins c ns ds => obtain ⟨dx, fs, e1, e2, hs, hx⟩ := h; exact ⟨dx, fs, e.trans e1, e2, hs.le l, hx⟩
  | _ => exact h.elim
end
end Iv
/-! The evaluator's frame: results, posts, soundness of an expression. -/
namespace Iv
open PySem PySem.Spec PyProof.Rows L2

inductive R (α : Type) where
  | ok (a : α) (M : List D)
  | exc (e : D) (M : List D)
  | stk
abbrev Ev (α : Type) := List D → R α
def bnd {α β : Type} (x : Ev α) (f : α → Ev β) : Ev β := fun M => match x M with
  | .ok a M' => f a M'
  | .exc e M' => .exc e M'
  | .stk => .stk
def ret {α : Type} (a : α) : Ev α := fun M => .ok a M
def stuck {α : Type} : Ev α := fun _ => .stk
/-- a value, if there is one -/
def optE {α : Type} (x : Option α) : Ev α := match x with
  | some a => ret a
  | none => stuck
abbrev DEnv := List (Option D)
abbrev DE := DEnv → Ev D
abbrev DT := DEnv → Ev Bool
abbrev DA := DEnv → Ev (List D)

structure EnvOk (G : Gd) (r : List Addr) (H : Hp) (σ : L2.St) (δ : DEnv) : Prop where
  len : σ.length = δ.length
  at_ : ∀ (i : Nat) (d : D), δ[i]? = some (some d) → ∃ v, σ[i]? = some (some v) ∧ Rep G r H v d

/-- an exception: its class, its fields -/
def ExcRep (G : Gd) (r : List Addr) (H : Hp) (cls : Value) (dd : Option Addr) (e : D) : Prop :=
  ∃ c ns vs, e = .ins c ns vs ∧ cls = .ref (G.cls c) ∧ ((dd = none ∧ ns = [] ∧ vs = []) ∨ ∃ dx fs, dd = some dx ∧ off G r H dx = some (exd dx fs) ∧ ns = fs.map (·.1) ∧ Reps G r H (fs.map (·.2)) vs)

/-- what is wanted of a result -/
def Post {α : Type} (G : Gd) (W : WX) (σ : L2.St) (J : α → List D → List Addr → Hp → Prop) (r : List Addr) (H : Hp) : R α → Prop
  | .ok a M' => ∀ r' H', Le r H r' H' → StOk G r' M' H' → J a M' r' H'
  | .exc e M' => ∀ cls dd r' H', Le r H r' H' → StOk G r' M' H' → ExcRep G r' H' cls dd e → W cls dd σ H'
  | .stk => False

section
variable {G : Gd} {W : WX} {σ : L2.St} {r r1 : List Addr} {H H1 : Hp} {M : List D} {δ : DEnv}
theorem Post.mono {α : Type} {J : α → List D → List Addr → Hp → Prop} {x : R α} (l : Le r H r1 H1) (p : Post G W σ J r H x) : Post G W σ J r1 H1 x := by
  cases x with
  | ok a M' => exact fun r' H' l' S => p r' H' (l.trans l') S
  | exc e M' => exact fun c d r' H' l' S e => p c d r' H' (l.trans l') S e
  | stk => exact p
theorem Post.imp {α : Type} {J J' : α → List D → List Addr → Hp → Prop} {x : R α} (p : Post G W σ J r H x)
    (h : ∀ a M' r' H', Le r H r' H' → StOk G r' M' H' → J a M' r' H' → J' a M' r' H') : Post G W σ J' r H x := by
  cases x with
  | ok a M' => exact fun r' H' l' S => h a M' r' H' l' S (p r' H' l' S)
  | exc e M' => exact p
  | stk => exact p
theorem Post.bnd {α β : Type} {J : β → List D → List Addr → Hp → Prop} {m : Ev α} {f : α → Ev β} (p : Post G W σ J r H (bnd m f M)) :
    Post G W σ (fun a M1 r1 H1 => Post G W σ J r1 H1 (f a M1)) r H (m M) := by
  unfold Iv.bnd at p
  cases e : m M with
  | ok a M' =>
    rw [e] at p
    exact fun r' H' l' S => p.mono l'
  | exc e' M' =>
    rw [e] at p
    exact p
  | stk =>
    rw [e] at p
    exact p
theorem EnvOk.le (l : Le r H r1 H1) (E : EnvOk G r H σ δ) : EnvOk G r1 H1 σ δ := ⟨E.len, fun i d h =>
  let ⟨v, h1, h2⟩ := E.at_ i d h
  ⟨v, h1, h2.le l⟩⟩
theorem EnvOk.set {i : Nat} {v : V} {d : D} (h : Rep G r H v d) (E : EnvOk G r H σ δ) : EnvOk G r H (σ.set i (some v)) (δ.set i (some d)) := by
  refine ⟨by simp [E.len], fun j d' hj => ?_⟩
  by_cases hij : i = j
  · subst hij
    rw [List.getElem?_set] at hj
    by_cases hl : i < δ.length
    · simp only [hl, if_true] at hj
      cases hj
      refine ⟨v, ?_, h⟩
      rw [List.getElem?_set]
      simp [E.len, hl]
    · simp [hl] at hj
  · rw [List.getElem?_set_ne hij] at hj ⊢
    exact E.at_ j d' hj
end

/-! ### the semantics' own readings -/
section
variable {X : Cx}
/-- an expression comes to Q -/
def WE (X : Cx) (e : Expr) (σ : L2.St) (H : Hp) (Q : VK) : Prop := ∀ (pins : List (Addr × Obj)) (s : Shared), Inv X pins σ H s → wpAny (model X.prog X.w) X.A (eval e X.env) (EP X pins σ Q) X.xe s
def WT (X : Cx) (e : Expr) (σ : L2.St) (H : Hp) (Q : Bool → Hp → Prop) : Prop := ∀ (pins : List (Addr × Obj)) (s : Shared), Inv X pins σ H s → wpAny (model X.prog X.w) X.A (isTrue e X.env (eval e X.env)) (TP X pins σ Q) X.xe s
def WW (X : Cx) (e : Expr) (σ : L2.St) (H : Hp) (Q : Bool → Hp → Prop) : Prop := ∀ (whole : Sem Value) (pins : List (Addr × Obj)) (s : Shared), Inv X pins σ H s → wpAny (model X.prog X.w) X.A (isTrue e X.env whole) (TP X pins σ Q) X.xe s
def WA (X : Cx) (es : List Expr) (σ : L2.St) (H : Hp) (Q : List V → Hp → Prop) : Prop := ∀ (pos : Pos) (pins : List (Addr × Obj)) (s : Shared), Inv X pins σ H s → wpAny (model X.prog X.w) X.A (spliced (backTo pos (starEach es X.env))) (AP X pins σ Q) X.xe s
theorem peW (e : Expr) : PE X e (WE X e) := ⟨fun pins s _ _ _ I h => h pins s I⟩
theorem ptW (e : Expr) : PT X e (WT X e) := ⟨fun pins s _ _ _ I h => h pins s I⟩
theorem pwW (e : Expr) : PW X e (WW X e) := ⟨fun whole pins s _ _ _ I h => h whole pins s I⟩
theorem paW (es : List Expr) : PA X es (WA X es) := ⟨fun pos pins s _ _ _ I h => h pos pins s I⟩
theorem _root_.L2.PE.we {e : Expr} {t : TE} (h : PE X e t) {σ : L2.St} {H : Hp} {Q : VK} (q : t σ H Q) : WE X e σ H Q := fun pins s I => h.run pins s σ H Q I q
theorem _root_.L2.PT.wt {e : Expr} {t : TT} (h : PT X e t) {σ : L2.St} {H : Hp} {Q : Bool → Hp → Prop} (q : t σ H Q) : WT X e σ H Q := fun pins s I => h.run pins s σ H Q I q
theorem _root_.L2.PW.ww {e : Expr} {t : TT} (h : PW X e t) {σ : L2.St} {H : Hp} {Q : Bool → Hp → Prop} (q : t σ H Q) : WW X e σ H Q := fun whole pins s I => h.run whole pins s σ H Q I q
theorem _root_.L2.PA.wa {es : List Expr} {t : TA} (h : PA X es t) {σ : L2.St} {H : Hp} {Q : List V → Hp → Prop} (q : t σ H Q) : WA X es σ H Q := fun pos pins s I => h.run pos pins s σ H Q I q
theorem WW.wt {e : Expr} {σ : L2.St} {H : Hp} {Q : Bool → Hp → Prop} (h : WW X e σ H Q) : WT X e σ H Q := fun pins s I => h _ pins s I
/-- an operation on values comes to Q, whatever stands in the slots -/
def rW0 (X : Cx) (f : Value → Value → Sem Value) : R2 := fun x y H Q => ∀ (pins : List (Addr × Obj)) (s : Shared) (σ : L2.St) (v u : Value), Inv X pins σ H s → RelV x v → RelV y u → wpAny (model X.prog X.w) X.A (f v u) (EP X pins σ Q) X.xe s
theorem rW0_op (f : Value → Value → Sem Value) : OpR X f (rW0 X f) := fun pins s σ _ _ _ v u _ I rx ry h => h pins s σ v u I rx ry
theorem _root_.L2.OpR.rw {f : Value → Value → Sem Value} {rr : R2} (h : OpR X f rr) {x y : V} {H : Hp} {Q : VK} (q : rr x y H Q) : rW0 X f x y H Q := fun pins s σ v u I rx ry => h pins s σ H x y v u Q I rx ry q
/-- the same, with these slots -/
def rW (X : Cx) (f : Value → Value → Sem Value) (σ : L2.St) : R2 := fun x y H Q => ∀ (pins : List (Addr × Obj)) (s : Shared) (v u : Value), Inv X pins σ H s → RelV x v → RelV y u → wpAny (model X.prog X.w) X.A (f v u) (EP X pins σ Q) X.xe s
theorem WE.bin {op : Operator} {a b : Expr} {pos : Pos} {σ : L2.St} {H : Hp} {Q : VK} (h : WE X a σ H fun x H1 => WE X b σ H1 fun y H2 => rW X (binaryOp op) σ x y H2 Q) : WE X (.BinOp a op b pos) σ H Q := fun _ _ I =>
  wpAny_BinOp (binT (R := fun x y H2 => rW X (binaryOp op) σ x y H2 Q) (peW a) (peW b) I h fun v u s2 _ _ _ I2 rx ry q => q _ s2 v u I2 rx ry)
theorem WE.cmp {op : CmpOp} {a b : Expr} {pos : Pos} {σ : L2.St} {H : Hp} {Q : VK} (hm : behindInMarks op b = false) (h : WE X a σ H fun x H1 => WE X b σ H1 fun y H2 => rW X (compareOp op) σ x y H2 Q) : WE X (.Compare a [op] [b] pos) σ H Q := fun _ _ I =>
  wpAny_Compare1 (binT (R := fun x y H2 => rW X (compareOp op) σ x y H2 Q) (peW a) (peW b) I h fun v u s2 _ _ _ I2 rx ry q => q _ s2 v u I2 rx ry) hm
def uW (X : Cx) (f : Value → Sem Value) : V → Hp → VK → Prop := fun x H Q => ∀ (pins : List (Addr × Obj)) (s : Shared) (σ : L2.St) (v : Value), Inv X pins σ H s → RelV x v → wpAny (model X.prog X.w) X.A (f v) (EP X pins σ Q) X.xe s
theorem uW_op (f : Value → Sem Value) : UnR X f (uW X f) := fun pins s σ _ _ v _ I rx h => h pins s σ v I rx
theorem _root_.L2.UnR.rw {f : Value → Sem Value} {rr : V → Hp → VK → Prop} (h : UnR X f rr) {x : V} {H : Hp} {Q : VK} (q : rr x H Q) : uW X f x H Q := fun pins s σ v I rx => h pins s σ H x v Q I rx q
def cW (X : Cx) (f : Value) : List V → Hp → VK → Prop := fun xs H Q => ∀ (pins : List (Addr × Obj)) (s : Shared) (σ : L2.St) (us : List Value), Inv X pins σ H s → Vals xs us → wpAny (model X.prog X.w) X.A (call f us) (EP X pins σ Q) X.xe s
theorem cW_op (f : Value) : CallR X f (cW X f) := fun pins s σ _ _ us _ I rx h => h pins s σ us I rx
theorem _root_.L2.CallR.rw {f : Value} {rr : List V → Hp → VK → Prop} (h : CallR X f rr) {xs : List V} {H : Hp} {Q : VK} (q : rr xs H Q) : cW X f xs H Q := fun pins s σ us I rx => h pins s σ H xs us Q I rx q
end

/-! ### soundness -/
/-- what follows an expression's value -/
abbrev JE (G : Gd) (Q : VK) : D → List D → List Addr → Hp → Prop := fun d _ r H => ∀ v, Rep G r H v d → Q v H
abbrev JT (Q : Bool → Hp → Prop) : Bool → List D → List Addr → Hp → Prop := fun b _ _ H => Q b H
abbrev JA (G : Gd) (Q : List V → Hp → Prop) : List D → List D → List Addr → Hp → Prop := fun ds _ r H => ∀ vs, Reps G r H vs ds → Q vs H
structure SE (G : Gd) (X : Cx) (e : Expr) (m : DE) : Prop where
  ru : ∀ (W : WX), Takes X W → ∀ (δ : DEnv) (M : List D) (σ : L2.St) (r : List Addr) (H : Hp) (Q : VK),
  StOk G r M H → EnvOk G r H σ δ → Post G W σ (JE G Q) r H (m δ M) → WE X e σ H Q
structure ST (G : Gd) (X : Cx) (e : Expr) (m : DT) : Prop where
  ru : ∀ (W : WX), Takes X W → ∀ (δ : DEnv) (M : List D) (σ : L2.St) (r : List Addr) (H : Hp) (Q : Bool → Hp → Prop),
  StOk G r M H → EnvOk G r H σ δ → Post G W σ (JT Q) r H (m δ M) → WT X e σ H Q
structure SW (G : Gd) (X : Cx) (e : Expr) (m : DT) : Prop where
  ru : ∀ (W : WX), Takes X W → ∀ (δ : DEnv) (M : List D) (σ : L2.St) (r : List Addr) (H : Hp) (Q : Bool → Hp → Prop),
  StOk G r M H → EnvOk G r H σ δ → Post G W σ (JT Q) r H (m δ M) → WW X e σ H Q
structure SA (G : Gd) (X : Cx) (es : List Expr) (m : DA) : Prop where
  ru : ∀ (W : WX), Takes X W → ∀ (δ : DEnv) (M : List D) (σ : L2.St) (r : List Addr) (H : Hp) (Q : List V → Hp → Prop),
  StOk G r M H → EnvOk G r H σ δ → Post G W σ (JA G Q) r H (m δ M) → WA X es σ H Q
theorem SW.st {G : Gd} {X : Cx} {e : Expr} {m : DT} (h : SW G X e m) : ST G X e m := ⟨fun W tk δ M σ r H Q S E p => (h.ru W tk δ M σ r H Q S E p).wt⟩

/-! ### names, constants -/
def dVar (i : Nat) : DE := fun δ => match δ[i]? with
  | some (some d) => ret d
  | _ => stuck
def dLit (d : D) : DE := fun _ => ret d
section
variable {G : Gd} {X : Cx}
theorem SE.var {i : Nat} {x : Str} {pos : Pos} (hN : X.N[i]? = some x) (hv : Vis X.env.scope x) (hd : (x == ("__debug__" : Str)) = false) (hcd : (x == ("__classdict__" : Str)) = false) : SE G X (.Name x pos) (dVar i) := by
  refine ⟨?_⟩
  intro W tk δ M σ r H Q S E p
  unfold dVar at p
  cases e : δ[i]? with
  | none => rw [e] at p; exact p.elim
  | some o =>
    rw [e] at p
    cases o with
    | none => exact p.elim
    | some d =>
      obtain ⟨v, h1, h2⟩ := E.at_ i d e
      exact (pe_var hN hv hd hcd).we ⟨v, h1, p r H S.le S v h2⟩
theorem SE.lit {e : Expr} {v : V} {d : D} (h : PE X e (tC v)) (hr : ∀ r H, Rep G r H v d) : SE G X e (dLit d) := by
  refine ⟨?_⟩
  intro W tk δ M σ r H Q S E p
  exact h.we (p r H S.le S v (hr r H))

/-! ### operations -/
/-- an operation on values is told by g, which looks at the cells -/
def OpP (G : Gd) (X : Cx) (f : Value → Value → Sem Value) (g : List D → D → D → Option D) : Prop := ∀ (r : List Addr) (M : List D) (H : Hp) (x y : V) (d d' z : D) (Q : VK),
  StOk G r M H → Rep G r H x d → Rep G r H y d' → g M d d' = some z → (∀ H' v, Le r H r H' → StOk G r M H' → Rep G r H' v z → Q v H') → rW0 X f x y H Q
/-- an operation on values is told by g, which may change the cells and raise -/
def OpS (G : Gd) (X : Cx) (f : Value → Value → Sem Value) (g : D → D → Ev D) : Prop := ∀ (W : WX), Takes X W → ∀ (σ : L2.St) (r : List Addr) (M : List D) (H : Hp) (x y : V) (d d' : D) (Q : VK),
  StOk G r M H → Rep G r H x d → Rep G r H y d' → Post G W σ (JE G Q) r H (g d d' M) → rW X f σ x y H Q
def pureO (g : List D → D → D → Option D) : D → D → Ev D := fun x y M => optE (g M x y) M
theorem OpP.s {f : Value → Value → Sem Value} {g : List D → D → D → Option D} (h : OpP G X f g) : OpS G X f (pureO g) := by
  intro W tk σ r M H x y d d' Q S h1 h2 p
  unfold pureO at p
  cases e : g M d d' with
  | none =>
    rw [e] at p
    exact p.elim
  | some z =>
    rw [e] at p
    exact fun pins s v u I rx ry => h r M H x y d d' z Q S h1 h2 e (fun H' v l S' R' => p r H' l S' v R') pins s σ v u I rx ry
def dOp (g : D → D → Ev D) (a b : DE) : DE := fun δ => bnd (a δ) fun x => bnd (b δ) fun y => g x y
theorem SE.op2 {e a b : Expr} {f : Value → Value → Sem Value} {g : D → D → Ev D} {ma mb : DE} (hr : ∀ {σ : L2.St} {H : Hp} {Q : VK}, (WE X a σ H fun x H1 => WE X b σ H1 fun y H2 => rW X f σ x y H2 Q) → WE X e σ H Q) (ho : OpS G X f g) (ha : SE G X a ma) (hb : SE G X b mb) : SE G X e (dOp g ma mb) := by
  refine ⟨?_⟩
  intro W tk δ M σ r H Q S E p
  refine hr ?_
  refine ha.ru W tk δ M σ r H _ S E (p.bnd.imp ?_)
  intro d1 M1 r1 H1 L1 S1 h1 v1 R1
  refine hb.ru W tk δ M1 σ r1 H1 _ S1 (E.le L1) (h1.bnd.imp ?_)
  intro d2 M2 r2 H2 L2 S2 h2 v2 R2
  exact ho W tk σ r2 M2 H2 v1 v2 d1 d2 Q S2 (R1.le L2) R2 h2
theorem SE.bin {op : Operator} {a b : Expr} {pos : Pos} {g : D → D → Ev D} {ma mb : DE} (ho : OpS G X (binaryOp op) g) (ha : SE G X a ma) (hb : SE G X b mb) : SE G X (.BinOp a op b pos) (dOp g ma mb) :=
  .op2 WE.bin ho ha hb
theorem SE.cmp {op : CmpOp} {a b : Expr} {pos : Pos} {g : D → D → Ev D} {ma mb : DE} (hm : behindInMarks op b = false) (ho : OpS G X (compareOp op) g) (ha : SE G X a ma) (hb : SE G X b mb) : SE G X (.Compare a [op] [b] pos) (dOp g ma mb) :=
  .op2 (WE.cmp hm) ho ha hb
/-- a test whose value is a truth value -/
def dBool (a : DE) : DT := fun δ => bnd (a δ) fun x => match x with
  | .bl b => ret b
  | _ => stuck
theorem ST.tst {e : Expr} {te : TE} {m : DE} (ht : PT X e (tTest te)) (he : ∀ (W : WX), Takes X W → ∀ (δ : DEnv) (M : List D) (σ : L2.St) (r : List Addr) (H : Hp) (Q : VK),
  StOk G r M H → EnvOk G r H σ δ → Post G W σ (JE G Q) r H (m δ M) → te σ H Q) : ST G X e (dBool m) := by
  refine ⟨?_⟩
  intro W tk δ M σ r H Q S E p
  refine ht.wt ?_
  refine he W tk δ M σ r H _ S E (p.bnd.imp ?_)
  intro d1 M1 r1 H1 L1 S1 h1 v1 R1
  cases R1 with
  | bl => exact ⟨_, rfl, h1 r1 H1 S1.le S1⟩
  | _ => exact h1.elim
end
end Iv
/-! Operations on data: equality. -/
namespace Iv
open PySem PySem.Spec PyProof.Rows L2

mutual
/-- == of plain data -/
def eqv : D → D → Bool
  | .non, .non => true
  | .bl a, .bl b => a == b
  | .bl a, .int j => (if a then 1 else 0) == j
  | .int i, .bl b => i == (if b then 1 else 0)
  | .int i, .int j => i == j
  | .str x, .str y => x == y
  | .lst xs, .lst ys => eqvs xs ys
  | .tup xs, .tup ys => eqvs xs ys
  | _, _ => false
def eqvs : List D → List D → Bool
  | [], [] => true
  | x :: xs, y :: ys => eqv x y && eqvs xs ys
  | _, _ => false
end
mutual
/-- none, bools, ints, texts, lists and tuples of these -/
def plainD : D → Bool
  | .non | .bl _ | .int _ | .str _ => true
  | .lst xs => plainDs xs
  | .tup xs => plainDs xs
  | _ => false
def plainDs : List D → Bool
  | [] => true
  | x :: xs => plainD x && plainDs xs
end
mutual
def depD : D → Nat
  | .lst xs => depDs xs + 1
  | .tup xs => depDs xs + 1
  | _ => 0
def depDs : List D → Nat
  | [] => 0
  | x :: xs => max (depD x) (depDs xs)
end
mutual
theorem eqv_refl : ∀ d : D, plainD d = true → eqv d d = true
  | .non, _ => by simp [eqv]
  | .bl _, _ => by simp [eqv]
  | .int _, _ => by simp [eqv]
  | .str _, _ => by simp [eqv]
  | .lst xs, h => by
    unfold eqv
    exact eqvs_refl xs (by simpa [plainD] using h)
  | .tup xs, h => by
    unfold eqv
    exact eqvs_refl xs (by simpa [plainD] using h)
  | .dct _ _, h => by simp [plainD] at h
  | .ins _ _ _, h => by simp [plainD] at h
  | .scr _, h => by simp [plainD] at h
  | .cell _, h => by simp [plainD] at h
  | .fn _, h => by simp [plainD] at h
  | .cls _, h => by simp [plainD] at h
  | .ty _, h => by simp [plainD] at h
theorem eqvs_refl : ∀ ds : List D, plainDs ds = true → eqvs ds ds = true
  | [], _ => by simp [eqvs]
  | d :: ds, h => by
    obtain ⟨h1, h2⟩ : plainD d = true ∧ plainDs ds = true := by simpa [plainDs] using h
    unfold eqvs
    rw [eqv_refl d h1, eqvs_refl ds h2]
    rfl
end
/-- places of two lists -/
def eqAt (xs ys : List D) (j : Nat) : Bool := match xs[j]?, ys[j]? with
  | some x, some y => eqv x y
  | _, _ => false
theorem eqvs_len : ∀ {xs ys : List D}, xs.length ≠ ys.length → eqvs xs ys = false
  | [], [], h => absurd rfl h
  | [], _ :: _, _ => by simp [eqvs]
  | _ :: _, [], _ => by simp [eqvs]
  | x :: xs, y :: ys, h => by
    unfold eqvs
    rw [eqvs_len (xs := xs) (ys := ys) (by simpa using h)]
    simp
theorem all_range_succ (n : Nat) (e : Nat → Bool) : (List.range (n + 1)).all e = (e 0 && (List.range n).all fun i => e (i + 1)) := by
  rw [List.range_succ_eq_map, List.all_cons, List.all_map]
  rfl
theorem eqvs_all : ∀ {xs ys : List D}, xs.length = ys.length → (List.range xs.length).all (eqAt xs ys) = eqvs xs ys
  | [], [], _ => by simp [eqvs]
  | [], _ :: _, h => by simp at h
  | _ :: _, [], h => by simp at h
  | x :: xs, y :: ys, h => by
    rw [List.length_cons, all_range_succ]
    unfold eqvs
    rw [← eqvs_all (xs := xs) (ys := ys) (by simpa using h)]
    rfl
theorem plain_get {ds : List D} (h : plainDs ds = true) {i : Nat} {d : D} (e : ds[i]? = some d) : plainD d = true := by
  induction ds generalizing i with
  | nil => simp at e
  | cons x xs ih =>
    obtain ⟨h1, h2⟩ : plainD x = true ∧ plainDs xs = true := by simpa [plainDs] using h
    cases i with
    | zero => simp at e; rw [← e]; exact h1
    | succ i => exact ih h2 (by simpa using e)
theorem dep_get {ds : List D} {i : Nat} {d : D} (e : ds[i]? = some d) : depD d ≤ depDs ds := by
  induction ds generalizing i with
  | nil => simp at e
  | cons x xs ih =>
    unfold depDs
    cases i with
    | zero => simp at e; rw [← e]; exact Nat.le_max_left _ _
    | succ i => exact Nat.le_trans (ih (by simpa using e)) (Nat.le_max_right _ _)

/-- how two values compare: the shapes -/
inductive Sh (A : Around) (s : Shared) : Value → Value → Bool → Prop
  | none_none : Sh A s .none .none true
  | none_bool (a2 : Bool) : Sh A s .none (.bool a2) false
  | none_int (a2 : Int) (t2 : Tok) : Sh A s .none (.int a2 t2) false
  | none_str (a2 : Str) (t2 : Tok) : Sh A s .none (.str a2 t2) false
  | bool_none (a1 : Bool) : Sh A s (.bool a1) .none false
  | bool_bool (a1 : Bool) (a2 : Bool) : Sh A s (.bool a1) (.bool a2) (a1 == a2)
  | bool_int (a1 : Bool) (a2 : Int) (t2 : Tok) : Sh A s (.bool a1) (.int a2 t2) ((if a1 then 1 else 0) == a2)
  | bool_str (a1 : Bool) (a2 : Str) (t2 : Tok) : Sh A s (.bool a1) (.str a2 t2) false
  | int_none (a1 : Int) (t1 : Tok) : Sh A s (.int a1 t1) .none false
  | int_bool (a1 : Int) (t1 : Tok) (a2 : Bool) : Sh A s (.int a1 t1) (.bool a2) (a1 == (if a2 then 1 else 0))
  | int_int (a1 : Int) (t1 : Tok) (a2 : Int) (t2 : Tok) : Sh A s (.int a1 t1) (.int a2 t2) (a1 == a2)
  | int_str (a1 : Int) (t1 : Tok) (a2 : Str) (t2 : Tok) : Sh A s (.int a1 t1) (.str a2 t2) false
  | str_none (a1 : Str) (t1 : Tok) : Sh A s (.str a1 t1) .none false
  | str_bool (a1 : Str) (t1 : Tok) (a2 : Bool) : Sh A s (.str a1 t1) (.bool a2) false
  | str_int (a1 : Str) (t1 : Tok) (a2 : Int) (t2 : Tok) : Sh A s (.str a1 t1) (.int a2 t2) false
  | str_str (a1 : Str) (t1 : Tok) (a2 : Str) (t2 : Tok) : Sh A s (.str a1 t1) (.str a2 t2) (a1 == a2)
  | list_none {l : Addr} {its : Array Value} : s.heap.IsList l its → Sh A s (.ref l) .none false
  | none_list {l : Addr} {its : Array Value} : s.heap.IsList l its → Sh A s .none (.ref l) false
  | list_bool {l : Addr} {its : Array Value} (a1 : Bool) : s.heap.IsList l its → Sh A s (.ref l) (.bool a1) false
  | bool_list {l : Addr} {its : Array Value} (a1 : Bool) : s.heap.IsList l its → Sh A s (.bool a1) (.ref l) false
  | list_int {l : Addr} {its : Array Value} (a1 : Int) (t1 : Tok) : s.heap.IsList l its → Sh A s (.ref l) (.int a1 t1) false
  | int_list {l : Addr} {its : Array Value} (a1 : Int) (t1 : Tok) : s.heap.IsList l its → Sh A s (.int a1 t1) (.ref l) false
  | list_str {l : Addr} {its : Array Value} (a1 : Str) (t1 : Tok) : s.heap.IsList l its → Sh A s (.ref l) (.str a1 t1) false
  | str_list {l : Addr} {its : Array Value} (a1 : Str) (t1 : Tok) : s.heap.IsList l its → Sh A s (.str a1 t1) (.ref l) false
  | tuple_none {l : Addr} {its : Array Value} : s.heap.IsTuple l its → Sh A s (.ref l) .none false
  | none_tuple {l : Addr} {its : Array Value} : s.heap.IsTuple l its → Sh A s .none (.ref l) false
  | tuple_bool {l : Addr} {its : Array Value} (a1 : Bool) : s.heap.IsTuple l its → Sh A s (.ref l) (.bool a1) false
  | bool_tuple {l : Addr} {its : Array Value} (a1 : Bool) : s.heap.IsTuple l its → Sh A s (.bool a1) (.ref l) false
  | tuple_int {l : Addr} {its : Array Value} (a1 : Int) (t1 : Tok) : s.heap.IsTuple l its → Sh A s (.ref l) (.int a1 t1) false
  | int_tuple {l : Addr} {its : Array Value} (a1 : Int) (t1 : Tok) : s.heap.IsTuple l its → Sh A s (.int a1 t1) (.ref l) false
  | tuple_str {l : Addr} {its : Array Value} (a1 : Str) (t1 : Tok) : s.heap.IsTuple l its → Sh A s (.ref l) (.str a1 t1) false
  | str_tuple {l : Addr} {its : Array Value} (a1 : Str) (t1 : Tok) : s.heap.IsTuple l its → Sh A s (.str a1 t1) (.ref l) false
  | list_tuple {l b : Addr} {its its2 : Array Value} : s.heap.IsList l its → s.heap.IsTuple b its2 → Sh A s (.ref l) (.ref b) false
  | tuple_list {l b : Addr} {its its2 : Array Value} : s.heap.IsTuple l its → s.heap.IsList b its2 → Sh A s (.ref l) (.ref b) false
  | lists {l b : Addr} {its its2 : Array Value} {e : Nat → Bool} : s.heap.IsList l its → s.heap.IsList b its2 → its.size = its2.size → (∀ j (h1 : j < its.size) (h2 : j < its2.size), SeqAt.EqAt A.in1 s its[j] its2[j] (e j)) → Sh A s (.ref l) (.ref b) ((List.range its.size).all e)
  | lists_len {l b : Addr} {its its2 : Array Value} : s.heap.IsList l its → s.heap.IsList b its2 → (its.size != its2.size) = true → Sh A s (.ref l) (.ref b) false
  | tuples {l b : Addr} {its its2 : Array Value} {e : Nat → Bool} : s.heap.IsTuple l its → s.heap.IsTuple b its2 → (∀ j (h1 : j < its.size) (h2 : j < its2.size), SeqAt.EqAt A.in1 s its[j] its2[j] (e j)) → Sh A s (.ref l) (.ref b) ((List.range (min its.size its2.size)).all e && its.size == its2.size)
theorem Sh.eq {A : Around} {s : Shared} {u v : Value} {b : Bool} (h : Sh A s u v b) (hu : A.units < cLine) (hs : u = v → b = true) : SeqAt.EqAt A s u v b := by
  cases h with
  | none_none => exact SeqAt.EqAt.same _
  | none_bool => exact SeqAt.EqAt.none_bool _
  | none_int => exact SeqAt.EqAt.none_int _ _
  | none_str => exact SeqAt.EqAt.none_str _ _
  | bool_none => exact SeqAt.EqAt.bool_none _
  | bool_bool => exact SeqAt.EqAt.bool_bool _ _
  | bool_int => exact SeqAt.EqAt.bool_int _ _ _
  | bool_str => exact SeqAt.EqAt.bool_str _ _ _
  | int_none => exact SeqAt.EqAt.int_none _ _
  | int_bool => exact SeqAt.EqAt.int_bool _ _ _
  | int_int => exact SeqAt.EqAt.int_int _ _ _ _
  | int_str => exact SeqAt.EqAt.int_str _ _ _ _
  | str_none => exact SeqAt.EqAt.str_none _ _
  | str_bool => exact SeqAt.EqAt.str_bool _ _ _
  | str_int => exact SeqAt.EqAt.str_int _ _ _ _
  | str_str => exact SeqAt.EqAt.str_str _ _ _ _
  | list_none h => exact SeqAt.EqAt.list_none h hu
  | none_list h => exact SeqAt.EqAt.none_list h hu
  | list_bool _ h => exact SeqAt.EqAt.list_bool _ h hu
  | bool_list _ h => exact SeqAt.EqAt.bool_list _ h hu
  | list_int _ _ h => exact SeqAt.EqAt.list_int _ _ h hu
  | int_list _ _ h => exact SeqAt.EqAt.int_list _ _ h hu
  | list_str _ _ h => exact SeqAt.EqAt.list_str _ _ h hu
  | str_list _ _ h => exact SeqAt.EqAt.str_list _ _ h hu
  | tuple_none h => exact SeqAt.EqAt.tuple_none h hu
  | none_tuple h => exact SeqAt.EqAt.none_tuple h hu
  | tuple_bool _ h => exact SeqAt.EqAt.tuple_bool _ h hu
  | bool_tuple _ h => exact SeqAt.EqAt.bool_tuple _ h hu
  | tuple_int _ _ h => exact SeqAt.EqAt.tuple_int _ _ h hu
  | int_tuple _ _ h => exact SeqAt.EqAt.int_tuple _ _ h hu
  | tuple_str _ _ h => exact SeqAt.EqAt.tuple_str _ _ h hu
  | str_tuple _ _ h => exact SeqAt.EqAt.str_tuple _ _ h hu
  | list_tuple h h2 => exact SeqAt.EqAt.list_tuple h h2 hu
  | tuple_list h h2 => exact SeqAt.EqAt.tuple_list h h2 hu
  | lists h h2 hz he =>
    rename_i l b its its2 e
    by_cases q : l = b
    · subst q; rw [hs rfl]; exact SeqAt.EqAt.same _
    · exact .of_refs q (SeqAt.RcAt.lists h h2 hz hu he)
  | lists_len h h2 hz =>
    rename_i l b its its2
    by_cases q : l = b
    · subst q; rw [hs rfl]; exact SeqAt.EqAt.same _
    · exact .of_refs q (SeqAt.RcAt.lists_lengths h h2 hz hu)
  | tuples h h2 he =>
    rename_i l b its its2 e
    by_cases q : l = b
    · subst q; rw [hs rfl]; exact SeqAt.EqAt.same _
    · exact .of_refs q (SeqAt.RcAt.tuples h h2 hu he)
theorem Sh.rc {A : Around} {s : Shared} {u v : Value} {b : Bool} (h : Sh A s u v b) (hu : A.units < cLine) : SeqAt.RcAt A s u v b := by
  cases h with
  | none_none => exact SeqAt.RcAt.none_none
  | none_bool => exact SeqAt.RcAt.none_bool _
  | none_int => exact SeqAt.RcAt.none_int _ _
  | none_str => exact SeqAt.RcAt.none_str _ _
  | bool_none => exact SeqAt.RcAt.bool_none _
  | bool_bool => exact SeqAt.RcAt.bool_bool _ _
  | bool_int => exact SeqAt.RcAt.bool_int _ _ _
  | bool_str => exact SeqAt.RcAt.bool_str _ _ _
  | int_none => exact SeqAt.RcAt.int_none _ _
  | int_bool => exact SeqAt.RcAt.int_bool _ _ _
  | int_int => exact SeqAt.RcAt.int_int _ _ _ _
  | int_str => exact SeqAt.RcAt.int_str _ _ _ _
  | str_none => exact SeqAt.RcAt.str_none _ _
  | str_bool => exact SeqAt.RcAt.str_bool _ _ _
  | str_int => exact SeqAt.RcAt.str_int _ _ _ _
  | str_str => exact SeqAt.RcAt.str_str _ _ _ _
  | list_none h => exact SeqAt.RcAt.list_none h hu
  | none_list h => exact SeqAt.RcAt.none_list h hu
  | list_bool _ h => exact SeqAt.RcAt.list_bool _ h hu
  | bool_list _ h => exact SeqAt.RcAt.bool_list _ h hu
  | list_int _ _ h => exact SeqAt.RcAt.list_int _ _ h hu
  | int_list _ _ h => exact SeqAt.RcAt.int_list _ _ h hu
  | list_str _ _ h => exact SeqAt.RcAt.list_str _ _ h hu
  | str_list _ _ h => exact SeqAt.RcAt.str_list _ _ h hu
  | tuple_none h => exact SeqAt.RcAt.tuple_none h hu
  | none_tuple h => exact SeqAt.RcAt.none_tuple h hu
  | tuple_bool _ h => exact SeqAt.RcAt.tuple_bool _ h hu
  | bool_tuple _ h => exact SeqAt.RcAt.bool_tuple _ h hu
  | tuple_int _ _ h => exact SeqAt.RcAt.tuple_int _ _ h hu
  | int_tuple _ _ h => exact SeqAt.RcAt.int_tuple _ _ h hu
  | tuple_str _ _ h => exact SeqAt.RcAt.tuple_str _ _ h hu
  | str_tuple _ _ h => exact SeqAt.RcAt.str_tuple _ _ h hu
  | list_tuple h h2 => exact SeqAt.RcAt.list_tuple h h2 hu
  | tuple_list h h2 => exact SeqAt.RcAt.tuple_list h h2 hu
  | lists h h2 hz he => exact SeqAt.RcAt.lists h h2 hz hu he
  | lists_len h h2 hz => exact SeqAt.RcAt.lists_lengths h h2 hz hu
  | tuples h h2 he => exact SeqAt.RcAt.tuples h h2 hu he
theorem Sh.ne {A : Around} {s : Shared} {u v : Value} {b : Bool} (h : Sh A s u v b) (hu : A.units < cLine) : SeqAt.RcNeAt A s u v (!b) := by
  cases h with
  | none_none => exact SeqAt.RcNeAt.none_none
  | none_bool => exact SeqAt.RcNeAt.none_bool _
  | none_int => exact SeqAt.RcNeAt.none_int _ _
  | none_str => exact SeqAt.RcNeAt.none_str _ _
  | bool_none => exact SeqAt.RcNeAt.bool_none _
  | bool_bool => exact SeqAt.RcNeAt.bool_bool _ _
  | bool_int => exact SeqAt.RcNeAt.bool_int _ _ _
  | bool_str => exact SeqAt.RcNeAt.bool_str _ _ _
  | int_none => exact SeqAt.RcNeAt.int_none _ _
  | int_bool => exact SeqAt.RcNeAt.int_bool _ _ _
  | int_int => exact SeqAt.RcNeAt.int_int _ _ _ _
  | int_str => exact SeqAt.RcNeAt.int_str _ _ _ _
  | str_none => exact SeqAt.RcNeAt.str_none _ _
  | str_bool => exact SeqAt.RcNeAt.str_bool _ _ _
  | str_int => exact SeqAt.RcNeAt.str_int _ _ _ _
  | str_str => exact SeqAt.RcNeAt.str_str _ _ _ _
  | list_none h => exact SeqAt.RcNeAt.list_none h hu
  | none_list h => exact SeqAt.RcNeAt.none_list h hu
  | list_bool _ h => exact SeqAt.RcNeAt.list_bool _ h hu
  | bool_list _ h => exact SeqAt.RcNeAt.bool_list _ h hu
  | list_int _ _ h => exact SeqAt.RcNeAt.list_int _ _ h hu
  | int_list _ _ h => exact SeqAt.RcNeAt.int_list _ _ h hu
  | list_str _ _ h => exact SeqAt.RcNeAt.list_str _ _ h hu
  | str_list _ _ h => exact SeqAt.RcNeAt.str_list _ _ h hu
  | tuple_none h => exact SeqAt.RcNeAt.tuple_none h hu
  | none_tuple h => exact SeqAt.RcNeAt.none_tuple h hu
  | tuple_bool _ h => exact SeqAt.RcNeAt.tuple_bool _ h hu
  | bool_tuple _ h => exact SeqAt.RcNeAt.bool_tuple _ h hu
  | tuple_int _ _ h => exact SeqAt.RcNeAt.tuple_int _ _ h hu
  | int_tuple _ _ h => exact SeqAt.RcNeAt.int_tuple _ _ h hu
  | tuple_str _ _ h => exact SeqAt.RcNeAt.tuple_str _ _ h hu
  | str_tuple _ _ h => exact SeqAt.RcNeAt.str_tuple _ _ h hu
  | list_tuple h h2 => exact SeqAt.RcNeAt.list_tuple h h2 hu
  | tuple_list h h2 => exact SeqAt.RcNeAt.tuple_list h h2 hu
  | lists h h2 hz he => exact SeqAt.RcNeAt.lists h h2 hz hu he
  | lists_len h h2 hz => exact SeqAt.RcNeAt.lists_lengths h h2 hz hu
  | tuples h h2 he => exact SeqAt.RcNeAt.tuples h h2 hu he
section
variable {X : Cx} {G : Gd} {pins : List (Addr × Obj)} {σ : L2.St} {H : Hp} {s : Shared} {r : List Addr}
mutual
theorem Rep.inj (I : Inv X pins σ H s) (hK : G.K = X.K) : ∀ (d d' : D) (v : V), plainD d = true → plainD d' = true → Rep G r H v d → Rep G r H v d' → d = d'
  | .non, _, _, _, p, .non, h => by cases h <;> first | rfl | simp [plainD] at p
  | .bl _, _, _, _, p, .bl, h => by cases h <;> first | rfl | simp [plainD] at p
  | .int _, _, _, _, p, .int, h => by cases h <;> first | rfl | simp [plainD] at p
  | .str _, _, _, _, p, .str, h => by cases h <;> first | rfl | simp [plainD] at p
  | .lst ds, d', _, p, p', .lst hs ha, h => by
    cases h with
    | lst hs' ha' =>
      have e := I.list_inj (.of (off_some.mp hs).2) (.of (off_some.mp hs').2)
      subst e
      rw [Reps.inj I hK _ _ _ (by simpa [plainD] using p) (by simpa [plainD] using p') ha ha']
    | tup hs' ha' =>
      obtain ⟨_, _, p1, _⟩ := I.list (.of (off_some.mp hs).2)
      obtain ⟨_, _, p2, _⟩ := I.tuple (hK ▸ sqT_off hs')
      obtain ⟨o, n, e1, c1, _⟩ := p1
      obtain ⟨o', e2, c2, _⟩ := p2
      rw [e1] at e2
      cases e2
      rw [c1] at c2
      injection c2 with c3
      exact absurd c3 (by decide)
    | _ => simp [plainD] at p'
  | .tup ds, d', _, p, p', .tup hs ha, h => by
    cases h with
    | tup hs' ha' =>
      have e := I.tuple_inj (hK ▸ sqT_off hs) (hK ▸ sqT_off hs')
      subst e
      rw [Reps.inj I hK _ _ _ (by simpa [plainD] using p) (by simpa [plainD] using p') ha ha']
    | lst hs' ha' =>
      obtain ⟨_, _, p1, _⟩ := I.list (.of (off_some.mp hs').2)
      obtain ⟨_, _, p2, _⟩ := I.tuple (hK ▸ sqT_off hs)
      obtain ⟨o, n, e1, c1, _⟩ := p1
      obtain ⟨o', e2, c2, _⟩ := p2
      rw [e1] at e2
      cases e2
      rw [c1] at c2
      injection c2 with c3
      exact absurd c3 (by decide)
    | _ => simp [plainD] at p'
  | .dct _ _, _, _, p, _, _, _ => by simp [plainD] at p
  | .ins _ _ _, _, _, p, _, _, _ => by simp [plainD] at p
  | .scr _, _, _, p, _, _, _ => by simp [plainD] at p
  | .cell _, _, _, p, _, _, _ => by simp [plainD] at p
  | .fn _, _, _, p, _, _, _ => by simp [plainD] at p
  | .cls _, _, _, p, _, _, _ => by simp [plainD] at p
  | .ty _, _, _, p, _, _, _ => by simp [plainD] at p
theorem Reps.inj (I : Inv X pins σ H s) (hK : G.K = X.K) : ∀ (ds ds' : List D) (vs : List V), plainDs ds = true → plainDs ds' = true → Reps G r H vs ds → Reps G r H vs ds' → ds = ds'
  | [], _, _, _, _, .nil, h => by cases h; rfl
  | d :: ds, _, _, p, p', .cons h1 h2, .cons h3 h4 => by
    obtain ⟨q1, q2⟩ : plainD d = true ∧ plainDs ds = true := by simpa [plainDs] using p
    obtain ⟨q3, q4⟩ : plainD _ = true ∧ plainDs _ = true := by simpa [plainDs] using p'
    rw [Rep.inj I hK d _ _ q1 q3 h1 h3, Reps.inj I hK ds _ _ q2 q4 h2 h4]
end
/-- the items of a list, of a tuple -/
theorem reps_val {vs : List V} {us : List Value} {ds : List D} (rv : Vals vs us) (h : Reps G r H vs ds) {j : Nat} (hj : j < us.length) : ∃ v d, vs[j]? = some v ∧ RelV v us[j] ∧ ds[j]? = some d ∧ Rep G r H v d := by
  have hv : j < vs.length := by rw [rv.length]; exact hj
  have hd : j < ds.length := by rw [← h.length]; exact hv
  obtain ⟨u, e, rr⟩ := rv.get (List.getElem?_eq_getElem hv)
  rw [List.getElem?_eq_getElem hj] at e
  cases e
  obtain ⟨v, e1, e2⟩ := h.get (List.getElem?_eq_getElem hd)
  refine ⟨v, ds[j], e1, ?_, List.getElem?_eq_getElem hd, e2⟩
  rw [List.getElem?_eq_getElem hv] at e1
  cases e1
  exact rr
/-- what is no list and no tuple -/
def leafD : D → Bool
  | .non | .bl _ | .int _ | .str _ => true
  | _ => false
theorem leafSh {A : Around} : ∀ {d d' : D} {v v' : V} {u u' : Value}, leafD d = true → leafD d' = true → Rep G r H v d → Rep G r H v' d' → RelV v u → RelV v' u' → Sh A s u u' (eqv d d') := by
  intro d d' v v' u u' p p' h h' ru ru'
  cases h with
  | non =>
    cases ru
    cases h' with
    | non => cases ru'; unfold eqv; exact .none_none
    | bl => cases ru'; unfold eqv; exact .none_bool _
    | int => obtain ⟨t, rfl⟩ := ru'; unfold eqv; exact .none_int _ _
    | str => obtain ⟨t, rfl⟩ := ru'; unfold eqv; exact .none_str _ _
    | _ => cases p'
  | bl =>
    cases ru
    cases h' with
    | non => cases ru'; unfold eqv; exact .bool_none _
    | bl => cases ru'; unfold eqv; exact .bool_bool _ _
    | int => obtain ⟨t, rfl⟩ := ru'; unfold eqv; exact .bool_int _ _ _
    | str => obtain ⟨t, rfl⟩ := ru'; unfold eqv; exact .bool_str _ _ _
    | _ => cases p'
  | int =>
    obtain ⟨t0, rfl⟩ := ru
    cases h' with
    | non => cases ru'; unfold eqv; exact .int_none _ _
    | bl => cases ru'; unfold eqv; exact .int_bool _ _ _
    | int => obtain ⟨t, rfl⟩ := ru'; unfold eqv; exact .int_int _ _ _ _
    | str => obtain ⟨t, rfl⟩ := ru'; unfold eqv; exact .int_str _ _ _ _
    | _ => cases p'
  | str =>
    obtain ⟨t0, rfl⟩ := ru
    cases h' with
    | non => cases ru'; unfold eqv; exact .str_none _ _
    | bl => cases ru'; unfold eqv; exact .str_bool _ _ _
    | int => obtain ⟨t, rfl⟩ := ru'; unfold eqv; exact .str_int _ _ _ _
    | str => obtain ⟨t, rfl⟩ := ru'; unfold eqv; exact .str_str _ _ _ _
    | _ => cases p'
  | _ => cases p
theorem list_leafSh {A : Around} {a : Addr} {its : Array Value} {ds : List D} (hl : s.heap.IsList a its) : ∀ {d' : D} {v' : V} {u' : Value}, leafD d' = true → Rep G r H v' d' → RelV v' u' →
    Sh A s (.ref a) u' (eqv (.lst ds) d') ∧ Sh A s u' (.ref a) (eqv d' (.lst ds)) := by
  intro d' v' u' p' h' ru'
  cases h' with
  | non => cases ru'; unfold eqv; exact ⟨.list_none hl, .none_list hl⟩
  | bl => cases ru'; unfold eqv; exact ⟨.list_bool _ hl, .bool_list _ hl⟩
  | int => obtain ⟨t, rfl⟩ := ru'; unfold eqv; exact ⟨.list_int _ _ hl, .int_list _ _ hl⟩
  | str => obtain ⟨t, rfl⟩ := ru'; unfold eqv; exact ⟨.list_str _ _ hl, .str_list _ _ hl⟩
  | _ => cases p'
theorem tup_leafSh {A : Around} {a : Addr} {its : Array Value} {ds : List D} (hl : s.heap.IsTuple a its) : ∀ {d' : D} {v' : V} {u' : Value}, leafD d' = true → Rep G r H v' d' → RelV v' u' →
    Sh A s (.ref a) u' (eqv (.tup ds) d') ∧ Sh A s u' (.ref a) (eqv d' (.tup ds)) := by
  intro d' v' u' p' h' ru'
  cases h' with
  | non => cases ru'; unfold eqv; exact ⟨.tuple_none hl, .none_tuple hl⟩
  | bl => cases ru'; unfold eqv; exact ⟨.tuple_bool _ hl, .bool_tuple _ hl⟩
  | int => obtain ⟨t, rfl⟩ := ru'; unfold eqv; exact ⟨.tuple_int _ _ hl, .int_tuple _ _ hl⟩
  | str => obtain ⟨t, rfl⟩ := ru'; unfold eqv; exact ⟨.tuple_str _ _ hl, .str_tuple _ _ hl⟩
  | _ => cases p'
/-- how plain data compares, to any depth -/
theorem shD (I : Inv X pins σ H s) (hK : G.K = X.K) : ∀ (n : Nat) (A : Around), A.units + n < cLine → ∀ (d d' : D) (v v' : V) (u u' : Value), plainD d = true → plainD d' = true → depD d ≤ n → depD d' ≤ n → Rep G r H v d → Rep G r H v' d' → RelV v u → RelV v' u' →
    Sh A s u u' (eqv d d') := by
  intro n
  induction n with
  | zero =>
    intro A hu d d' v v' u u' p p' hd hd' h h' ru ru'
    refine leafSh ?_ ?_ h h' ru ru'
    · cases d <;> simp_all [leafD, plainD, depD]
    · cases d' <;> simp_all [leafD, plainD, depD]
  | succ n ih =>
    intro A hu d d' v v' u u' p p' hd hd' h h' ru ru'
    have item : ∀ {ds ds' : List D} {vs vs' : List V} {us us' : List Value}, plainDs ds = true → plainDs ds' = true → depDs ds ≤ n → depDs ds' ≤ n → Reps G r H vs ds → Reps G r H vs' ds' → Vals vs us → Vals vs' us' →
        ∀ j (h1 : j < us.length) (h2 : j < us'.length), SeqAt.EqAt A.in1 s us[j] us'[j] (eqAt ds ds' j) := by
      intro ds ds' vs vs' us us' p p' hd hd' ha ha' rv rv' j h1 h2
      obtain ⟨x, dx, e1, rx, e2, hx⟩ := reps_val rv ha h1
      obtain ⟨y, dy, e3, ry, e4, hy⟩ := reps_val rv' ha' h2
      have q1 := plain_get p e2
      have q2 := plain_get p' e4
      have k := ih A.in1 (by show A.units + 1 + n < cLine; omega) dx dy x y _ _ q1 q2 (Nat.le_trans (dep_get e2) hd) (Nat.le_trans (dep_get e4) hd') hx hy rx ry
      have ee : eqAt ds ds' j = eqv dx dy := by unfold eqAt; rw [e2, e4]
      rw [ee]
      refine k.eq (by show A.units + 1 < cLine; omega) fun z => ?_
      rw [z] at rx
      have exy := rx.inj ry
      subst exy
      rw [Rep.inj I hK dx dy x q1 q2 hx hy]
      exact eqv_refl _ q2
    by_cases l : leafD d = true
    · by_cases l' : leafD d' = true
      · exact leafSh l l' h h' ru ru'
      · cases h' with
        | lst hs' ha' =>
          cases ru'
          obtain ⟨_, _, q, _⟩ := I.list (.of (off_some.mp hs').2)
          exact (list_leafSh q.isList l h ru).2
        | tup hs' ha' =>
          cases ru'
          obtain ⟨_, _, q, _⟩ := I.tuple (hK ▸ sqT_off hs')
          exact (tup_leafSh q l h ru).2
        | _ => first | exact absurd rfl l' | simp [plainD] at p'
    · cases h with
      | lst hs ha =>
        cases ru
        obtain ⟨us, rv, q, z0⟩ := I.list (.of (off_some.mp hs).2)
        by_cases l' : leafD d' = true
        · exact (list_leafSh q.isList l' h' ru').1
        · cases h' with
          | lst hs' ha' =>
            cases ru'
            rename_i a vs ds b vs' ds'
            obtain ⟨us', rv', q', z1⟩ := I.list (.of (off_some.mp hs').2)
            have z : us.length = ds.length := by rw [← rv.length, ha.length]
            have z' : us'.length = ds'.length := by rw [← rv'.length, ha'.length]
            by_cases hz : ds.length = ds'.length
            · unfold eqv
              rw [← eqvs_all hz, show ds.length = us.toArray.size from by simp [z]]
              refine .lists q.isList q'.isList (by simp only [List.size_toArray]; omega) fun j h1 h2 => ?_
              have k := item (by simpa [plainD] using p) (by simpa [plainD] using p') (by simp [depD] at hd; omega) (by simp [depD] at hd'; omega) ha ha' rv rv' j (by simpa using h1) (by simpa using h2)
              simpa using k
            · unfold eqv
              rw [eqvs_len hz]
              exact .lists_len q.isList q'.isList (by simp only [List.size_toArray, bne_iff_ne]; omega)
          | tup hs' ha' =>
            cases ru'
            obtain ⟨_, _, q', _⟩ := I.tuple (hK ▸ sqT_off hs')
            unfold eqv
            exact .list_tuple q.isList q'
          | _ => first | exact absurd rfl l' | simp [plainD] at p'
      | tup hs ha =>
        cases ru
        obtain ⟨us, rv, q, z0⟩ := I.tuple (hK ▸ sqT_off hs)
        by_cases l' : leafD d' = true
        · exact (tup_leafSh q l' h' ru').1
        · cases h' with
          | tup hs' ha' =>
            cases ru'
            rename_i a vs ds b vs' ds'
            obtain ⟨us', rv', q', z1⟩ := I.tuple (hK ▸ sqT_off hs')
            have z : us.length = ds.length := by rw [← rv.length, ha.length]
            have z' : us'.length = ds'.length := by rw [← rv'.length, ha'.length]
            have t : Sh A s (.ref a) (.ref b) ((List.range (min us.toArray.size us'.toArray.size)).all (eqAt ds ds') && us.toArray.size == us'.toArray.size) := by
              refine .tuples q q' fun j h1 h2 => ?_
              have k := item (by simpa [plainD] using p) (by simpa [plainD] using p') (by simp [depD] at hd; omega) (by simp [depD] at hd'; omega) ha ha' rv rv' j (by simpa using h1) (by simpa using h2)
              simpa using k
            have e : ((List.range (min us.toArray.size us'.toArray.size)).all (eqAt ds ds') && us.toArray.size == us'.toArray.size) = eqvs ds ds' := by
              simp only [List.size_toArray, z, z']
              by_cases hz : ds.length = ds'.length
              · rw [← eqvs_all hz, hz]
                simp
              · rw [eqvs_len hz]
                simp [hz]
            rw [e] at t
            unfold eqv
            exact t
          | lst hs' ha' =>
            cases ru'
            obtain ⟨_, _, q', _⟩ := I.list (.of (off_some.mp hs').2)
            unfold eqv
            exact .tuple_list q q'.isList
          | _ => first | exact absurd rfl l' | simp [plainD] at p'
      | _ => first | exact absurd rfl l | simp [plainD] at p
end
end Iv
/-! Operations on data: comparisons, arithmetic, truth, places. -/
namespace Iv
open PySem PySem.Spec PyProof.Rows L2

/-- what stands at a cell, else the datum itself -/
def valD (M : List D) : D → D
  | .cell n => match M[n]? with
    | some o => o
    | none => .cell n
  | d => d
section
variable {G : Gd} {r r1 : List Addr} {H H1 : Hp} {M : List D} {v : V} {d : D} {ds : List D}
theorem val_lst (S : StOk G r M H) (h : Rep G r H v d) (e : valD M d = .lst ds) : ∃ a vs, v = .ref a ∧ H a = some (.lst vs) ∧ Reps G r H vs ds := by
  cases h with
  | lst h1 h2 => cases e; exact ⟨_, _, rfl, (off_some.mp h1).2, h2⟩
  | cell h1 =>
    rename_i a n
    have e' : (match M[n]? with | some o => o | none => D.cell n) = D.lst ds := e
    cases em : M[n]? with
    | none => rw [em] at e'; cases e'
    | some o =>
      rw [em] at e'
      have e2 : o = .lst ds := e'
      subst e2
      obtain ⟨vs, q1, q2⟩ := S.at_ n a _ h1 em
      exact ⟨a, vs, rfl, q1, q2⟩
  | _ => cases e
theorem val_tup (S : StOk G r M H) (h : Rep G r H v d) (e : valD M d = .tup ds) : ∃ a vs, v = .ref a ∧ SqT G.K H a vs ∧ Reps G r H vs ds ∧ d = .tup ds := by
  cases h with
  | tup h1 h2 => cases e; exact ⟨_, _, rfl, sqT_off h1, h2, rfl⟩
  | cell h1 =>
    rename_i a n
    have e' : (match M[n]? with | some o => o | none => D.cell n) = D.tup ds := e
    cases em : M[n]? with
    | none => rw [em] at e'; cases e'
    | some o =>
      rw [em] at e'
      have e2 : o = .tup ds := e'
      subst e2
      exact (S.at_ n a _ h1 em).elim
  | _ => cases e
theorem val_scr (S : StOk G r M H) (h : Rep G r H v d) (e : valD M d = .scr ds) : ∃ a vs, v = .ref a ∧ SqL G.K H a vs ∧ Reps G r H vs ds := by
  cases h with
  | scr h1 h2 => cases e; exact ⟨_, _, rfl, sqL_off h1, h2⟩
  | cell h1 =>
    rename_i a n
    have e' : (match M[n]? with | some o => o | none => D.cell n) = D.scr ds := e
    cases em : M[n]? with
    | none => rw [em] at e'; cases e'
    | some o =>
      rw [em] at e'
      have e2 : o = .scr ds := e'
      subst e2
      exact (S.at_ n a _ h1 em).elim
  | _ => cases e
theorem val_leaf (S : StOk G r M H) (h : Rep G r H v d) (e : leafD (valD M d) = true) : valD M d = d := by
  cases h with
  | cell h1 =>
    rename_i a n
    cases em : M[n]? with
    | none =>
      have e' : valD M (.cell n) = .cell n := by show (match M[n]? with | some o => o | none => D.cell n) = _; rw [em]
      exact e'
    | some o =>
      have e' : valD M (.cell n) = o := by show (match M[n]? with | some o => o | none => D.cell n) = _; rw [em]
      rw [e'] at e
      have q := S.at_ n a _ h1 em
      cases o with
      | lst _ => cases e
      | dct _ _ => cases e
      | lck _ _ => cases e
      | ins _ _ _ => cases e
      | _ => exact q.elim
  | _ => rfl
/-- a list's or tuple's items as they stand -/
def seqD (M : List D) (d : D) : Option (List D) := match valD M d with
  | .lst ds => some ds
  | .tup ds => some ds
  | .scr ds => some ds
  | _ => none
theorem seq_at (S : StOk G r M H) (h : Rep G r H v d) (e : seqD M d = some ds) : ∃ a vs, v = .ref a ∧ (SqL G.K H a vs ∨ SqT G.K H a vs) ∧ Reps G r H vs ds := by
  unfold seqD at e
  cases ev : valD M d with
  | lst xs => rw [ev] at e; cases e; obtain ⟨a, vs, e1, e2, e3⟩ := val_lst S h ev; exact ⟨a, vs, e1, .inl (.of e2), e3⟩
  | tup xs => rw [ev] at e; cases e; obtain ⟨a, vs, e1, e2, e3, _⟩ := val_tup S h ev; exact ⟨a, vs, e1, .inr e2, e3⟩
  | scr xs => rw [ev] at e; cases e; obtain ⟨a, vs, e1, e2, e3⟩ := val_scr S h ev; exact ⟨a, vs, e1, .inl e2, e3⟩
  | _ => rw [ev] at e; cases e

/-! ### == and != -/
def RepF (G : Gd) (r : List Addr) (H : Hp) (v : V) : D → Prop
  | .lst ds => ∃ a vs, v = .ref a ∧ H a = some (.lst vs) ∧ Reps G r H vs ds
  | d => Rep G r H v d
theorem repF_val (S : StOk G r M H) (h : Rep G r H v d) (p : plainD (valD M d) = true) : RepF G r H v (valD M d) := by
  cases e : valD M d with
  | lst ds => exact val_lst S h e
  | tup ds =>
    obtain ⟨_, _, _, _, _, ed⟩ := val_tup S h e
    subst ed
    exact h
  | non => rw [← e]; have q := val_leaf S h (by rw [e]; rfl); rw [q, show RepF G r H v d = Rep G r H v d from by rw [← q, e]; rfl]; exact h
  | bl b => rw [← e]; have q := val_leaf S h (by rw [e]; rfl); rw [q, show RepF G r H v d = Rep G r H v d from by rw [← q, e]; rfl]; exact h
  | int b => rw [← e]; have q := val_leaf S h (by rw [e]; rfl); rw [q, show RepF G r H v d = Rep G r H v d from by rw [← q, e]; rfl]; exact h
  | str b => rw [← e]; have q := val_leaf S h (by rw [e]; rfl); rw [q, show RepF G r H v d = Rep G r H v d from by rw [← q, e]; rfl]; exact h
  | _ => rw [e] at p; simp [plainD] at p
end
section
variable {X : Cx} {G : Gd} {pins : List (Addr × Obj)} {σ : L2.St} {H : Hp} {s : Shared} {r : List Addr}
theorem shTop (I : Inv X pins σ H s) (hK : G.K = X.K) {n : Nat} {A : Around} (hu : A.units + (n + 1) < cLine) {d d' : D} {v v' : V} {u u' : Value} (p : plainD d = true) (p' : plainD d' = true) (hd : depD d ≤ n + 1) (hd' : depD d' ≤ n + 1)
    (h : RepF G r H v d) (h' : RepF G r H v' d') (ru : RelV v u) (ru' : RelV v' u') : Sh A s u u' (eqv d d') := by
  have item : ∀ {ds ds' : List D} {vs vs' : List V} {us us' : List Value}, plainDs ds = true → plainDs ds' = true → depDs ds ≤ n → depDs ds' ≤ n → Reps G r H vs ds → Reps G r H vs' ds' → Vals vs us → Vals vs' us' →
      ∀ j (h1 : j < us.length) (h2 : j < us'.length), SeqAt.EqAt A.in1 s us[j] us'[j] (eqAt ds ds' j) := by
    intro ds ds' vs vs' us us' p p' hd hd' ha ha' rv rv' j h1 h2
    obtain ⟨x, dx, e1, rx, e2, hx⟩ := reps_val rv ha h1
    obtain ⟨y, dy, e3, ry, e4, hy⟩ := reps_val rv' ha' h2
    have q1 := plain_get p e2
    have q2 := plain_get p' e4
    have k := shD I hK n A.in1 (by show A.units + 1 + n < cLine; omega) dx dy x y _ _ q1 q2 (Nat.le_trans (dep_get e2) hd) (Nat.le_trans (dep_get e4) hd') hx hy rx ry
    have ee : eqAt ds ds' j = eqv dx dy := by unfold eqAt; rw [e2, e4]
    rw [ee]
    refine k.eq (by show A.units + 1 < cLine; omega) fun z => ?_
    rw [z] at rx
    have exy := rx.inj ry
    subst exy
    rw [Rep.inj I hK dx dy x q1 q2 hx hy]
    exact eqv_refl _ q2
  have lists : ∀ {a b : Addr} {vs vs' : List V} {ds ds' : List D}, H a = some (.lst vs) → H b = some (.lst vs') → Reps G r H vs ds → Reps G r H vs' ds' → plainDs ds = true → plainDs ds' = true → depDs ds ≤ n → depDs ds' ≤ n → Sh A s (.ref a) (.ref b) (eqv (.lst ds) (.lst ds')) := by
    intro a b vs vs' ds ds' hs hs' ha ha' p p' hd hd'
    obtain ⟨us, rv, q, z0⟩ := I.list (.of hs)
    obtain ⟨us', rv', q', z1⟩ := I.list (.of hs')
    have z : us.length = ds.length := by rw [← rv.length, ha.length]
    have z' : us'.length = ds'.length := by rw [← rv'.length, ha'.length]
    by_cases hz : ds.length = ds'.length
    · unfold eqv
      rw [← eqvs_all hz, show ds.length = us.toArray.size from by simp [z]]
      refine .lists q.isList q'.isList (by simp only [List.size_toArray]; omega) fun j h1 h2 => ?_
      have k := item p p' hd hd' ha ha' rv rv' j (by simpa using h1) (by simpa using h2)
      simpa using k
    · unfold eqv
      rw [eqvs_len hz]
      exact .lists_len q.isList q'.isList (by simp only [List.size_toArray, bne_iff_ne]; omega)
  cases d with
  | lst ds =>
    obtain ⟨a, vs, rfl, hs, ha⟩ := h
    cases ru
    cases d' with
    | lst ds' =>
      obtain ⟨b, vs', rfl, hs', ha'⟩ := h'
      cases ru'
      exact lists hs hs' ha ha' (by simpa [plainD] using p) (by simpa [plainD] using p') (by simp [depD] at hd; omega) (by simp [depD] at hd'; omega)
    | tup ds' =>
      cases h' with
      | tup hs' ha' =>
        cases ru'
        obtain ⟨_, _, q, _⟩ := I.list (.of hs)
        obtain ⟨_, _, q', _⟩ := I.tuple (hK ▸ sqT_off hs')
        unfold eqv
        exact .list_tuple q.isList q'
    | non | bl | int | str => 
      obtain ⟨_, _, q, _⟩ := I.list (.of hs)
      exact (list_leafSh q.isList rfl h' ru').1
    | _ => simp [plainD] at p'
  | _ =>
    cases d' with
    | lst ds' =>
      obtain ⟨b, vs', rfl, hs', ha'⟩ := h'
      cases ru'
      obtain ⟨_, _, q', _⟩ := I.list (.of hs')
      first
        | exact (list_leafSh q'.isList rfl h ru).2
        | (cases h with
          | tup hs ha =>
            cases ru
            obtain ⟨_, _, q, _⟩ := I.tuple (hK ▸ sqT_off hs)
            unfold eqv
            exact .tuple_list q q'.isList)
        | simp [plainD] at p
    | _ => first | exact shD I hK (n + 1) A hu _ _ v v' u u' p p' hd hd' h h' ru ru' | simp [plainD] at p | simp [plainD] at p'
end
/-- == where it is told: plain data, not too deep -/
def eqM (M : List D) (x y : D) : Option Bool := let d := valD M x; let d' := valD M y
  if plainD d && plainD d' && Nat.ble (depD d) 40 && Nat.ble (depD d') 40 then some (eqv d d') else none
def eqO (M : List D) (x y : D) : Option D := (eqM M x y).map .bl
def neO (M : List D) (x y : D) : Option D := (eqM M x y).map fun b => .bl (!b)
section
variable {X : Cx} {G : Gd}
theorem eqM_sh {pins : List (Addr × Obj)} {σ : L2.St} {H : Hp} {s : Shared} {r : List Addr} {M : List D} (I : Inv X pins σ H s) (hK : G.K = X.K) (hu : X.A.units + 64 < cLine) (S : StOk G r M H) {d d' : D} {x y : V} {u v : Value} {b : Bool}
    (h : Rep G r H x d) (h' : Rep G r H y d') (e : eqM M d d' = some b) (ru : RelV x u) (rv : RelV y v) : Sh X.A s u v b := by
  unfold eqM at e
  by_cases c : (plainD (valD M d) && plainD (valD M d') && Nat.ble (depD (valD M d)) 40 && Nat.ble (depD (valD M d')) 40) = true
  · simp only [c, if_true, Option.some.injEq] at e
    simp only [Bool.and_eq_true, Nat.ble_eq] at c
    obtain ⟨⟨⟨c1, c2⟩, c3⟩, c4⟩ := c
    rw [← e]
    exact shTop I hK (n := 39) (by omega) c1 c2 c3 c4 (repF_val S h c1) (repF_val S h' c2) ru rv
  · simp [c] at e
theorem OpP.eq (hK : G.K = X.K) (hu : X.A.units + 64 < cLine) : OpP G X (compareOp .Eq) eqO := by
  intro r M H x y d d' z Q S h h' e k pins s σ v u I rx ry
  unfold eqO at e
  cases em : eqM M d d' with
  | none => rw [em] at e; cases e
  | some b =>
    rw [em] at e
    cases e
    exact (eqM_sh I hK hu S h h' em rx ry).rc (by omega) X.prog X.w _ _ ⟨.bl b, H, I, rfl, k H _ S.le S .bl⟩
theorem OpP.ne (hK : G.K = X.K) (hu : X.A.units + 64 < cLine) : OpP G X (compareOp .NotEq) neO := by
  intro r M H x y d d' z Q S h h' e k pins s σ v u I rx ry
  unfold neO at e
  cases em : eqM M d d' with
  | none => rw [em] at e; cases e
  | some b =>
    rw [em] at e
    cases e
    exact (eqM_sh I hK hu S h h' em rx ry).ne (by omega) X.prog X.w _ _ ⟨.bl (!b), H, I, rfl, k H _ S.le S .bl⟩
end
end Iv
/-! Operations on data: in, order, is, arithmetic. -/
namespace Iv
open PySem PySem.Spec PyProof.Rows L2

/-! ### new objects -/
section
variable {G : Gd} {r : List Addr} {H : Hp} {M : List D}
theorem StOk.new (S : StOk G r M H) {p : Addr} {o : HO} (hp : H p = none) : Le r H r (upd H p o) ∧ StOk G r M (upd H p o) := by
  have np := S.fresh hp
  have l : Le r H r (upd H p o) := ⟨⟨[], by simp, fun _ z => nomatch z⟩, fun a u e _ => by rw [upd_ne (ne_of_none e hp)]; exact .inl e, fun a ha => by
    rw [upd_ne (show a ≠ p from fun z => np.2 (by rw [← z]; exact ha))]
    exact S.there a ha, fun a ob u e => by rw [upd_ne (ne_of_none e hp)]; exact e⟩
  refine ⟨l, S.len, S.nd, fun n a o' h1 h2 => ?_, fun a ha => ⟨by rw [upd_ne (show a ≠ p from fun z => np.1 (by rw [← z]; exact ha))]; exact (S.hid a ha).1, (S.hid a ha).2⟩⟩
  have hne : a ≠ p := fun z => np.2 (by rw [← z]; exact List.mem_of_getElem? h1)
  exact (S.at_ n a o' h1 h2).le l (upd_ne hne)
theorem off_new {p : Addr} {o : HO} (np : p ∉ G.hid ∧ p ∉ r) : off G r (upd H p o) p = some o := off_some.mpr ⟨np, upd_same⟩
end

/-! ### in, not in -/
/-- x in some items -/
def anyEq (x : D) (ds : List D) : Bool := ds.any fun d => eqv d x
def inM (M : List D) (x y : D) : Option Bool := match valD M y with
  | .str z => match x with
    | .str t => some (!(Builtin.Str.occurrences z t 0 z.length 1).isEmpty)
    | _ => none
  | _ => match seqD M y with
    | some ds => if plainD x && plainDs ds && Nat.ble (depD x) 40 && Nat.ble (depDs ds) 40 then some (anyEq x ds) else none
    | none => none
def inO (M : List D) (x y : D) : Option D := (inM M x y).map .bl
def ninO (M : List D) (x y : D) : Option D := (inM M x y).map fun b => .bl (!b)
section
variable {X : Cx} {G : Gd} {pins : List (Addr × Obj)} {σ : L2.St} {H : Hp} {s : Shared} {r : List Addr} {M : List D}
open Classical in
/-- the answers by value -/
noncomputable def ansV (us : List Value) (ds : List D) (x : D) (u : Value) : Bool := decide (∃ j : Nat, us[j]? = some u ∧ ∃ d, ds[j]? = some d ∧ eqv d x = true)
open Classical in
theorem ansV_at (I : Inv X pins σ H s) (hK : G.K = X.K) {vs : List V} {us : List Value} {ds : List D} {x : D} (rv : Vals vs us) (ha : Reps G r H vs ds) (p : plainDs ds = true) {j : Nat} (hj : j < us.length) (hd : j < ds.length) : ansV us ds x us[j] = eqv ds[j] x := by
  unfold ansV
  cases e : eqv ds[j] x with
  | true => exact decide_eq_true ⟨j, List.getElem?_eq_getElem hj, ds[j], List.getElem?_eq_getElem hd, e⟩
  | false =>
    refine decide_eq_false ?_
    rintro ⟨i, h1, d, h2, h3⟩
    have hi : i < us.length := (List.getElem?_eq_some_iff.mp h1).1
    obtain ⟨v1, d1, a1, a2, a3, a4⟩ := reps_val rv ha hi
    obtain ⟨v2, d2, b1, b2, b3, b4⟩ := reps_val rv ha hj
    have e1 : us[i] = us[j] := by
      rw [List.getElem?_eq_getElem hi] at h1
      exact Option.some.inj h1
    rw [e1] at a2
    have ev := a2.inj b2
    subst ev
    rw [h2] at a3
    cases a3
    rw [List.getElem?_eq_getElem hd] at b3
    cases b3
    have q := Rep.inj I hK d ds[j] v1 (plain_get p h2) (plain_get p (List.getElem?_eq_getElem hd)) a4 b4
    rw [← q, h3] at e
    cases e
theorem any_ans (I : Inv X pins σ H s) (hK : G.K = X.K) {vs : List V} {us : List Value} {ds : List D} {x : D} (rv : Vals vs us) (ha : Reps G r H vs ds) (p : plainDs ds = true) : us.any (ansV us ds x) = anyEq x ds := by
  have hl : us.length = ds.length := by rw [← rv.length, ha.length]
  have e1 : us.map (ansV us ds x) = ds.map fun d => eqv d x := by
    refine List.ext_getElem (by simp [hl]) fun j h1 h2 => ?_
    simp only [List.length_map] at h1 h2
    rw [List.getElem_map, List.getElem_map]
    exact ansV_at I hK rv ha p h1 h2
  unfold anyEq
  have e2 : ∀ (α : Type) (l : List α) (f : α → Bool), l.any f = (l.map f).any id := fun α l f => by rw [List.any_map]; rfl
  rw [e2 _ us, e2 _ ds, e1]
theorem in_items (I : Inv X pins σ H s) (hK : G.K = X.K) {n : Nat} (hu : X.A.units + (n + 1) < cLine) {vs : List V} {us : List Value} {ds : List D} {x : D} {vx : V} {ux : Value} (rv : Vals vs us) (ha : Reps G r H vs ds) (p : plainDs ds = true) (px : plainD x = true)
    (hd : depDs ds ≤ n) (hx : depD x ≤ n) (h : Rep G r H vx x) (ru : RelV vx ux) : ∀ w, w ∈ us.toArray → SeqAt.EqAt X.A.in1 s w ux (ansV us ds x w) := by
  intro w hw
  have hw' : w ∈ us := by simpa using hw
  obtain ⟨j, hj, e⟩ := List.getElem_of_mem hw'
  have hjd : j < ds.length := by rw [← ha.length, rv.length]; exact hj
  rw [← e, ansV_at I hK rv ha p hj hjd]
  obtain ⟨v1, d1, a1, a2, a3, a4⟩ := reps_val rv ha hj
  rw [List.getElem?_eq_getElem hjd] at a3
  cases a3
  have q1 := plain_get p (List.getElem?_eq_getElem hjd)
  refine (shD I hK n X.A.in1 (by show X.A.units + 1 + n < cLine; omega) _ _ _ _ _ _ q1 px (Nat.le_trans (dep_get (List.getElem?_eq_getElem hjd)) hd) hx a4 h a2 ru).eq (by show X.A.units + 1 < cLine; omega) fun z => ?_
  rw [z] at a2
  have ev := a2.inj ru
  subst ev
  rw [Rep.inj I hK _ _ _ q1 px a4 h]
  exact eqv_refl _ px
theorem inM_run (I : Inv X pins σ H s) (hK : G.K = X.K) (hu : X.A.units + 64 < cLine) (S : StOk G r M H) {x y : V} {d d' : D} {u v : Value} {b : Bool} (h : Rep G r H x d) (h' : Rep G r H y d') (e : inM M d d' = some b) (rx : RelV x v) (ry : RelV y u) {Q : VK} (Q0 : Q (.bl b) H) (Q1 : Q (.bl (!b)) H → True) :
    wpAny (model X.prog X.w) X.A (compareOp .In v u) (EP X pins σ Q) X.xe s ∧ ∀ {Q' : VK}, Q' (.bl (!b)) H → wpAny (model X.prog X.w) X.A (compareOp .NotIn v u) (EP X pins σ Q') X.xe s := by
  have seqs : (match seqD M d' with
    | some ds => if plainD d && plainDs ds && Nat.ble (depD d) 40 && Nat.ble (depDs ds) 40 then some (anyEq d ds) else none
    | none => none) = some b → wpAny (model X.prog X.w) X.A (compareOp .In v u) (EP X pins σ Q) X.xe s ∧ ∀ {Q' : VK}, Q' (.bl (!b)) H → wpAny (model X.prog X.w) X.A (compareOp .NotIn v u) (EP X pins σ Q') X.xe s := by
    intro e
    cases es : seqD M d' with
    | none => rw [es] at e; cases e
    | some ds =>
      rw [es] at e
      by_cases c : (plainD d && plainDs ds && Nat.ble (depD d) 40 && Nat.ble (depDs ds) 40) = true
      · simp only [c, if_true, Option.some.injEq] at e
        simp only [Bool.and_eq_true, Nat.ble_eq] at c
        obtain ⟨⟨⟨c1, c2⟩, c3⟩, c4⟩ := c
        obtain ⟨a, vs, rfl, hs, ha⟩ := seq_at S h' es
        cases ry
        rw [hK] at hs
        rcases hs with hs | hs
        · obtain ⟨us, rv, q, _⟩ := I.list hs
          have k := in_items I hK (n := 40) (by omega) rv ha c2 c1 c4 c3 h rx
          have ea : us.toArray.any (ansV us ds d) = b := by rw [← e, ← any_ans I hK rv ha c2]; simp
          refine ⟨SeqAt.in_listAt _ q.isList k ⟨.bl b, H, I, by rw [ea]; rfl, Q0⟩, fun hq => SeqAt.notIn_listAt _ q.isList k ⟨.bl (!b), H, I, by rw [ea]; rfl, hq⟩⟩
        · obtain ⟨us, rv, q, _⟩ := I.tuple hs
          have k := in_items I hK (n := 40) (by omega) rv ha c2 c1 c4 c3 h rx
          have ea : us.toArray.any (ansV us ds d) = b := by rw [← e, ← any_ans I hK rv ha c2]; simp
          refine ⟨SeqAt.in_tupleAt _ q k ⟨.bl b, H, I, by rw [ea]; rfl, Q0⟩, fun hq => SeqAt.notIn_tupleAt _ q k ⟨.bl (!b), H, I, by rw [ea]; rfl, hq⟩⟩
      · simp [c] at e
  unfold inM at e
  cases ev : valD M d' with
  | str z =>
    rw [ev] at e
    have q := val_leaf S h' (by rw [ev]; rfl)
    rw [ev] at q
    subst q
    cases d with
    | str t =>
      cases h
      cases h'
      have e2 : (!(Builtin.Str.occurrences z t 0 z.length 1).isEmpty) = b := Option.some.inj e
      exact ⟨op_in_str pins s σ H _ _ v u Q I rx ry ⟨t, z, rfl, rfl, by rw [e2]; exact Q0⟩, fun {Q'} hq => op_notin_str pins s σ H _ _ v u Q' I rx ry ⟨t, z, rfl, rfl, by rw [e2]; exact hq⟩⟩
    | _ => cases e
  | _ => rw [ev] at e; exact seqs e
theorem OpP.in_ (hK : G.K = X.K) (hu : X.A.units + 64 < cLine) : OpP G X (compareOp .In) inO := by
  intro r M H x y d d' z Q S h h' e k pins s σ v u I rx ry
  unfold inO at e
  cases em : inM M d d' with
  | none => rw [em] at e; cases e
  | some b =>
    rw [em] at e
    cases e
    exact (inM_run I hK hu S h h' em rx ry (k H _ S.le S .bl) fun _ => trivial).1
theorem OpP.nin (hK : G.K = X.K) (hu : X.A.units + 64 < cLine) : OpP G X (compareOp .NotIn) ninO := by
  intro r M H x y d d' z Q S h h' e k pins s σ v u I rx ry
  unfold ninO at e
  cases em : inM M d d' with
  | none => rw [em] at e; cases e
  | some b =>
    rw [em] at e
    cases e
    exact (inM_run (Q := fun _ _ => True) I hK hu S h h' em rx ry trivial fun _ => trivial).2 (k H _ S.le S .bl)
end

/-! ### order -/
/-- the order of texts -/
def strLt (x y : Str) : Bool := decide (x.cps.toList < y.cps.toList)
def ltO (_ : List D) (x y : D) : Option D := match x, y with
  | .int i, .int j => some (.bl (decide (i < j)))
  | .str i, .str j => some (.bl (strLt i j))
  | _, _ => none
def leO (_ : List D) (x y : D) : Option D := match x, y with
  | .int i, .int j => some (.bl (decide (i ≤ j)))
  | .str i, .str j => some (.bl (!strLt j i))
  | _, _ => none
def gtO (_ : List D) (x y : D) : Option D := match x, y with
  | .int i, .int j => some (.bl (decide (j < i)))
  | .str i, .str j => some (.bl (strLt j i))
  | _, _ => none
def geO (_ : List D) (x y : D) : Option D := match x, y with
  | .int i, .int j => some (.bl (decide (j ≤ i)))
  | .str i, .str j => some (.bl (!strLt i j))
  | _, _ => none
def isO (_ : List D) (x y : D) : Option D := match x, y with
  | .non, .non => some (.bl true)
  | .cell _, .cell _ => none
  | .fn _, _ => none
  | .cls _, _ => none
  | _, .non => some (.bl false)
  | _, _ => none
def isnO (_ : List D) (x y : D) : Option D := match x, y with
  | .non, .non => some (.bl false)
  | .cell _, .cell _ => none
  | .fn _, _ => none
  | .cls _, _ => none
  | _, .non => some (.bl true)
  | _, _ => none
section
variable {X : Cx} {G : Gd}
theorem OpP.lt : OpP G X (compareOp .Lt) ltO := by
  intro r M H x y d d' z Q S h h' e k
  cases h with
  | int => cases h' with
    | int => cases e; exact op_lt.rw ⟨_, _, rfl, rfl, k H _ S.le S .bl⟩
    | _ => cases e
  | str => cases h' with
    | str => cases e; exact op_lt_str.rw ⟨_, _, rfl, rfl, k H _ S.le S .bl⟩
    | _ => cases e
  | _ => cases e
theorem OpP.le : OpP G X (compareOp .LtE) leO := by
  intro r M H x y d d' z Q S h h' e k
  cases h with
  | int => cases h' with
    | int => cases e; exact op_le.rw ⟨_, _, rfl, rfl, k H _ S.le S .bl⟩
    | _ => cases e
  | str => cases h' with
    | str => cases e; exact op_le_str.rw ⟨_, _, rfl, rfl, k H _ S.le S .bl⟩
    | _ => cases e
  | _ => cases e
theorem OpP.gt : OpP G X (compareOp .Gt) gtO := by
  intro r M H x y d d' z Q S h h' e k
  cases h with
  | int => cases h' with
    | int => cases e; exact op_gt.rw ⟨_, _, rfl, rfl, k H _ S.le S .bl⟩
    | _ => cases e
  | str => cases h' with
    | str => cases e; exact op_gt_str.rw ⟨_, _, rfl, rfl, k H _ S.le S .bl⟩
    | _ => cases e
  | _ => cases e
theorem OpP.ge : OpP G X (compareOp .GtE) geO := by
  intro r M H x y d d' z Q S h h' e k
  cases h with
  | int => cases h' with
    | int => cases e; exact op_ge.rw ⟨_, _, rfl, rfl, k H _ S.le S .bl⟩
    | _ => cases e
  | str => cases h' with
    | str => cases e; exact op_ge_str.rw ⟨_, _, rfl, rfl, k H _ S.le S .bl⟩
    | _ => cases e
  | _ => cases e
theorem OpP.is_ : OpP G X (compareOp .Is) isO := by
  intro r M H x y d d' z Q S h h' e k
  have q : ∀ {b : Bool}, z = .bl b → y = .non → decide (x = .non) = b → rW0 X (compareOp .Is) x y H Q := fun {b} e1 e2 e3 => by
    subst e1
    exact op_isN.rw ⟨e2, by rw [e3]; exact k H _ S.le S .bl⟩
  cases h' with
  | non => cases h with
    | non => exact q (by cases e; rfl) rfl (by simp)
    | fn => cases e
    | cls => cases e
    | _ => exact q (by cases e; rfl) rfl (by simp)
  | _ => cases h <;> cases e
theorem OpP.isn : OpP G X (compareOp .IsNot) isnO := by
  intro r M H x y d d' z Q S h h' e k
  have q : ∀ (b : Bool), z = .bl (!b) → y = .non → decide (x = .non) = b → rW0 X (compareOp .IsNot) x y H Q := fun b e1 e2 e3 => by
    subst e1
    exact op_notN.rw ⟨e2, by rw [e3]; exact k H _ S.le S .bl⟩
  cases h' with
  | non => cases h with
    | non => exact q true (by cases e; rfl) rfl (by simp)
    | fn => cases e
    | cls => cases e
    | _ => exact q false (by cases e; rfl) rfl (by simp)
  | _ => cases h <;> cases e
end

/-! ### arithmetic -/
def addO (M : List D) (x y : D) : Option D := match x, y with
  | .int i, .int j => some (.int (i + j))
  | .str i, .str j => if i.length + j.length ≤ sizeLine then some (.str (i ++ j)) else none
  | _, _ => match valD M x, valD M y with
    | .lst a, .lst b => if a.length + b.length ≤ sizeLine then some (.lst (a ++ b)) else none
    | .tup a, .tup b => if a.length + b.length ≤ sizeLine then some (.tup (a ++ b)) else none
    | _, _ => none
def subO (_ : List D) (x y : D) : Option D := match x, y with
  | .int i, .int j => some (.int (i - j))
  | _, _ => none
def smallI (i : Int) : Bool := decide (-(2 ^ 64) < i ∧ i < 2 ^ 64)
def mulO (_ : List D) (x y : D) : Option D := match x, y with
  | .int i, .int j => if smallI i || smallI j then some (.int (i * j)) else none
  | _, _ => none
def fdivO (_ : List D) (x y : D) : Option D := match x, y with
  | .int i, .int j => if 0 < j ∧ j.natAbs.log2 < 9000 then some (.int (i / j)) else none
  | _, _ => none
def modO (_ : List D) (x y : D) : Option D := match x, y with
  | .int i, .int j => if 0 < j then some (.int (i % j)) else none
  | _, _ => none
def powO (_ : List D) (x y : D) : Option D := match x, y with
  | .int i, .int j => if 0 ≤ j ∧ j ≤ 1000000 ∧ i.natAbs < 2 ^ 64 then some (.int (i ^ j.toNat)) else none
  | _, _ => none
section
variable {X : Cx} {G : Gd}
theorem OpP.sub : OpP G X (binaryOp .Sub) subO := by
  intro r M H x y d d' z Q S h h' e k
  cases h with
  | int => cases h' with
    | int => cases e; exact op_sub.rw ⟨_, _, rfl, rfl, k H _ S.le S .int⟩
    | _ => cases e
  | _ => cases e
theorem OpP.mul : OpP G X (binaryOp .Mult) mulO := by
  intro r M H x y d d' z Q S h h' e k
  cases h with
  | int => cases h' with
    | int =>
      rename_i i j
      have e' : (if smallI i || smallI j then some (D.int (i * j)) else none) = some z := e
      by_cases c : (smallI i || smallI j) = true
      · rw [if_pos c] at e'
        cases e'
        refine op_mul.rw ⟨i, j, rfl, rfl, ?_, k H _ S.le S .int⟩
        rcases Bool.or_eq_true_iff.mp c with c | c
        · exact .inl (of_decide_eq_true c)
        · exact .inr (of_decide_eq_true c)
      · rw [if_neg c] at e'
        cases e'
    | _ => cases e
  | _ => cases e
theorem OpP.fdiv : OpP G X (binaryOp .FloorDiv) fdivO := by
  intro r M H x y d d' z Q S h h' e k
  cases h with
  | int => cases h' with
    | int =>
      rename_i i j
      have e' : (if 0 < j ∧ j.natAbs.log2 < 9000 then some (D.int (i / j)) else none) = some z := e
      by_cases c : 0 < j ∧ j.natAbs.log2 < 9000
      · rw [if_pos c] at e'
        cases e'
        exact op_fdivW.rw ⟨i, j, rfl, rfl, c, k H _ S.le S .int⟩
      · rw [if_neg c] at e'
        cases e'
    | _ => cases e
  | _ => cases e
theorem OpP.mod : OpP G X (binaryOp .Mod) modO := by
  intro r M H x y d d' z Q S h h' e k
  cases h with
  | int => cases h' with
    | int =>
      rename_i i j
      have e' : (if 0 < j then some (D.int (i % j)) else none) = some z := e
      by_cases c : 0 < j
      · rw [if_pos c] at e'
        cases e'
        exact op_mod.rw ⟨i, j, rfl, rfl, c, k H _ S.le S .int⟩
      · rw [if_neg c] at e'
        cases e'
    | _ => cases e
  | _ => cases e
theorem OpP.pow : OpP G X (binaryOp .Pow) powO := by
  intro r M H x y d d' z Q S h h' e k
  cases h with
  | int => cases h' with
    | int =>
      rename_i i j
      have e' : (if 0 ≤ j ∧ j ≤ 1000000 ∧ i.natAbs < 2 ^ 64 then some (D.int (i ^ j.toNat)) else none) = some z := e
      by_cases c : 0 ≤ j ∧ j ≤ 1000000 ∧ i.natAbs < 2 ^ 64
      · rw [if_pos c] at e'
        cases e'
        exact op_pow.rw ⟨i, j, rfl, rfl, c, k H _ S.le S .int⟩
      · rw [if_neg c] at e'
        cases e'
    | _ => cases e
  | _ => cases e
theorem OpP.add (hK : G.K = X.K) : OpP G X (binaryOp .Add) addO := by
  intro r M H x y d d' z Q S h h' e k
  have seqs : (match valD M d, valD M d' with
    | .lst a, .lst b => if a.length + b.length ≤ sizeLine then some (D.lst (a ++ b)) else none
    | .tup a, .tup b => if a.length + b.length ≤ sizeLine then some (D.tup (a ++ b)) else none
    | _, _ => none) = some z → rW0 X (binaryOp .Add) x y H Q := by
    intro e
    cases e1 : valD M d with
    | lst a =>
      cases e2 : valD M d' with
      | lst b =>
        rw [e1, e2] at e
        have e' : (if a.length + b.length ≤ sizeLine then some (D.lst (a ++ b)) else none) = some z := e
        by_cases c : a.length + b.length ≤ sizeLine
        · rw [if_pos c] at e'
          cases e'
          obtain ⟨p, vs, rfl, hp, ha⟩ := val_lst S h e1
          obtain ⟨q, ws, rfl, hq, hb⟩ := val_lst S h' e2
          refine op_cat.rw ⟨p, q, vs, ws, rfl, rfl, hp, hq, by rw [ha.length, hb.length]; exact c, fun o ho => ?_⟩
          obtain ⟨l, S'⟩ := S.new (o := .lst (vs ++ ws)) ho
          exact k _ _ l S' (.lst (off_new (S.fresh ho)) ((ha.le l).append (hb.le l)))
        · rw [if_neg c] at e'
          cases e'
      | _ => rw [e1, e2] at e; cases e
    | tup a =>
      cases e2 : valD M d' with
      | tup b =>
        rw [e1, e2] at e
        have e' : (if a.length + b.length ≤ sizeLine then some (D.tup (a ++ b)) else none) = some z := e
        by_cases c : a.length + b.length ≤ sizeLine
        · rw [if_pos c] at e'
          cases e'
          obtain ⟨p, vs, rfl, hp, ha, ed⟩ := val_tup S h e1
          obtain ⟨q, ws, rfl, hq, hb, ed'⟩ := val_tup S h' e2
          rw [hK] at hp hq
          subst ed ed'
          refine op_catA.rw ⟨p, q, vs, ws, rfl, rfl, hp, hq, by rw [ha.length, hb.length]; exact c, fun z => ?_, fun _ z => ?_, fun _ _ o ho => ?_⟩
          · subst z
            cases ha
            exact k H _ S.le S h'
          · subst z
            cases hb
            exact k H _ S.le S (by rw [List.append_nil]; exact h)
          · obtain ⟨l, S'⟩ := S.new (o := .tup (vs ++ ws)) ho
            exact k _ _ l S' (.tup (.of (off_new (S.fresh ho))) ((ha.le l).append (hb.le l)))
        · rw [if_neg c] at e'
          cases e'
      | _ => rw [e1, e2] at e; cases e
    | _ => rw [e1] at e; cases valD M d' <;> cases e
  cases h with
  | int => cases h' with
    | int => cases e; exact op_add.rw ⟨_, _, rfl, rfl, k H _ S.le S .int⟩
    | _ => exact seqs e
  | str => cases h' with
    | str =>
      rename_i i j
      have e' : (if i.length + j.length ≤ sizeLine then some (D.str (i ++ j)) else none) = some z := e
      by_cases c : i.length + j.length ≤ sizeLine
      · rw [if_pos c] at e'
        cases e'
        exact op_add_str.rw ⟨i, j, rfl, rfl, c, k H _ S.le S .str⟩
      · rw [if_neg c] at e'
        cases e'
    | _ => exact seqs e
  | _ => exact seqs e
end
end Iv
/-! Tests, boolean operators, displays, subscripts, slices. -/
namespace Iv
open PySem PySem.Spec PyProof.Rows L2

theorem bnd_assoc {α β γ : Type} (x : Ev α) (f : α → Ev β) (g : β → Ev γ) : bnd (bnd x f) g = bnd x fun a => bnd (f a) g := by
  funext M
  unfold bnd
  cases x M <;> rfl
section
variable {X : Cx} {G : Gd}
/-- a value's truth comes to Q -/
def tW (X : Cx) (σ : L2.St) : V → Hp → (Bool → Hp → Prop) → Prop := fun x H Q => ∀ (pins : List (Addr × Obj)) (s : Shared) (v : Value), Inv X pins σ H s → RelV x v → wpAny (model X.prog X.w) X.A (truthy v) (TP X pins σ Q) X.xe s
def TruS (G : Gd) (X : Cx) (g : D → Ev Bool) : Prop := ∀ (W : WX), Takes X W → ∀ (σ : L2.St) (r : List Addr) (M : List D) (H : Hp) (x : V) (d : D) (Q : Bool → Hp → Prop),
  StOk G r M H → Rep G r H x d → Post G W σ (JT Q) r H (g d M) → tW X σ x H Q
/-- the truth of plain data -/
def truM (M : List D) (d : D) : Option Bool := match valD M d with
  | .non => some false
  | .bl b => some b
  | .int i => some (i != 0)
  | .str x => if x.length ≤ sizeLine then some ((x.length : Int) != 0) else none
  | .lst ds => some (!ds.isEmpty)
  | .tup ds => some (!ds.isEmpty)
  | .scr ds => some (!ds.isEmpty)
  | _ => none
def truO : D → Ev Bool := fun d M => optE (truM M d) M
theorem reps_empty {r : List Addr} {H : Hp} {vs : List V} {ds : List D} (h : Reps G r H vs ds) : ds.isEmpty = vs.isEmpty := by cases h <;> rfl
theorem tru_of {σ : L2.St} {x : V} {H : Hp} {Q : Bool → Hp → Prop} {b : Bool} (h : TruV X.K x H b) (q : Q b H) : tW X σ x H Q := fun pins s v I rx => tru_ok pins s σ H x v Q I rx ⟨b, h, q⟩
theorem TruS.pure (hK : G.K = X.K) : TruS G X truO := by
  intro W tk σ r M H x d Q S h p
  unfold truO at p
  cases e : truM M d with
  | none => rw [e] at p; exact p.elim
  | some b =>
    rw [e] at p
    have q : Q b H := p r H S.le S
    refine tru_of ?_ q
    unfold truM at e
    cases ev : valD M d with
    | non => rw [ev] at e; cases e; have z := val_leaf S h (by rw [ev]; rfl); rw [ev] at z; subst z; cases h; exact rfl
    | bl b => rw [ev] at e; cases e; have z := val_leaf S h (by rw [ev]; rfl); rw [ev] at z; subst z; cases h; exact rfl
    | int i => rw [ev] at e; cases e; have z := val_leaf S h (by rw [ev]; rfl); rw [ev] at z; subst z; cases h; exact rfl
    | str y =>
      rw [ev] at e
      have e' : (if y.length ≤ sizeLine then some ((y.length : Int) != 0) else none) = some b := e
      by_cases c : y.length ≤ sizeLine
      · rw [if_pos c] at e'
        have z := val_leaf S h (by rw [ev]; rfl)
        rw [ev] at z
        subst z
        cases h
        cases e'
        exact ⟨c, rfl⟩
      · rw [if_neg c] at e'; cases e'
    | lst ds =>
      rw [ev] at e
      cases e
      obtain ⟨a, vs, rfl, h1, h2⟩ := val_lst S h ev
      exact .inl ⟨vs, .of h1, by rw [reps_empty h2]⟩
    | scr ds =>
      rw [ev] at e
      cases e
      obtain ⟨a, vs, rfl, h1, h2⟩ := val_scr S h ev
      exact .inl ⟨vs, hK ▸ h1, by rw [reps_empty h2]⟩
    | tup ds =>
      rw [ev] at e
      cases e
      obtain ⟨a, vs, rfl, h1, h2, _⟩ := val_tup S h ev
      exact .inr (.inl ⟨vs, hK ▸ h1, by rw [reps_empty h2]⟩)
    | _ => rw [ev] at e; cases e

/-! ### tests -/
def dTru (g : D → Ev Bool) (a : DE) : DT := fun δ => bnd (a δ) g
theorem ST.truth {e : Expr} {m : DE} {g : D → Ev Bool} (ht : TruS G X g) (ha : SE G X e m) (he : ∀ whole, isTrue e X.env whole = (do let v ← whole; standAt e.pos; holding [v] (truthy v))) : ST G X e (dTru g m) := by
  refine ⟨?_⟩
  intro W tk δ M σ r H Q S E p
  intro pins s I
  refine isTrue_plain (thn (ha.ru W tk δ M σ r H (fun x H1 => tW X σ x H1 Q) S E (p.bnd.imp ?_) pins s I) fun v s1 ⟨x, H1, I1, r1, q1⟩ => q1 pins s1 v I1 r1) (he _)
  intro d1 M1 r1 H1 L1 S1 h1 v1 R1
  exact ht W tk σ r1 M1 H1 v1 d1 Q S1 R1 h1
/-- a comparison as a test -/
theorem ST.cmp {op : CmpOp} {a b : Expr} {pos : Pos} {g : D → D → Ev D} {t : D → Ev Bool} {ma mb : DE} (hm : behindInMarks op b = false) (ho : OpS G X (compareOp op) g) (ht : TruS G X t) (ha : SE G X a ma) (hb : SE G X b mb) : ST G X (.Compare a [op] [b] pos) (dTru t (dOp g ma mb)) := by
  refine ⟨?_⟩
  intro W tk δ M σ r H Q S E p
  intro pins s I
  have p0 : Post G W σ (JT Q) r H (bnd (ma δ) (fun x => bnd (mb δ) fun y => bnd (g x y) t) M) := by
    have e : bnd (ma δ) (fun x => bnd (mb δ) fun y => bnd (g x y) t) M = dTru t (dOp g ma mb) δ M := by
      unfold dTru dOp
      rw [bnd_assoc]
      simp only [bnd_assoc]
    rw [e]
    exact p
  have h : WE X a σ H fun x H1 => WE X b σ H1 fun y H2 => rW X (compareOp op) σ x y H2 fun z H3 => tW X σ z H3 Q := by
    refine ha.ru W tk δ M σ r H _ S E (p0.bnd.imp ?_)
    intro d1 M1 r1 H1 L1 S1 h1 v1 R1
    refine hb.ru W tk δ M1 σ r1 H1 _ S1 (E.le L1) (h1.bnd.imp ?_)
    intro d2 M2 r2 H2 L2 S2 h2 v2 R2
    refine ho W tk σ r2 M2 H2 v1 v2 d1 d2 _ S2 (R1.le L2) R2 (h2.bnd.imp ?_)
    intro d3 M3 r3 H3 L3 S3 h3 v3 R3
    exact ht W tk σ r3 M3 H3 v3 d3 Q S3 R3 h3
  refine wpAny_isTrue_Compare1 (thn (h pins s I) fun v s1 ⟨x, H1, I1, r1, q1⟩ => thn (q1 pins s1 I1) fun u s2 ⟨y, H2, I2, r2, q2⟩ => thn (q2 pins s2 v u I2 r1 r2) fun c s3 ⟨z, H3, I3, r3, q3⟩ => q3 pins s3 c I3 r3) hm
def dNotT (a : DT) : DT := fun δ => bnd (a δ) fun b => ret (!b)
theorem ST.not {a : Expr} {pos : Pos} {ma : DT} (ha : ST G X a ma) : ST G X (.UnaryOp .Not a pos) (dNotT ma) := by
  refine ⟨?_⟩
  intro W tk δ M σ r H Q S E p
  refine (pt_not (ptW a)).wt ?_
  refine ha.ru W tk δ M σ r H _ S E (p.bnd.imp ?_)
  intro b M1 r1 H1 L1 S1 h1
  exact h1 r1 H1 S1.le S1
def dAndT (a b : DT) : DT := fun δ => bnd (a δ) fun c => if c then b δ else ret false
def dOrT (a b : DT) : DT := fun δ => bnd (a δ) fun c => if c then ret true else b δ
theorem SW.and1 {a : Expr} {pos : Pos} {ma : DT} (ha : ST G X a ma) : SW G X (.BoolOp .And [a] pos) ma := ⟨fun W tk δ M σ r H Q S E p => (pw_and1 (ptW a)).ww (ha.ru W tk δ M σ r H Q S E p)⟩
theorem SW.or1 {a : Expr} {pos : Pos} {ma : DT} (ha : ST G X a ma) : SW G X (.BoolOp .Or [a] pos) ma := ⟨fun W tk δ M σ r H Q S E p => (pw_or1 (ptW a)).ww (ha.ru W tk δ M σ r H Q S E p)⟩
theorem SW.and {a b : Expr} {rest : List Expr} {pos : Pos} {ma mb : DT} (ha : ST G X a ma) (hb : SW G X (.BoolOp .And (b :: rest) pos) mb) : SW G X (.BoolOp .And (a :: b :: rest) pos) (dAndT ma mb) := by
  refine ⟨?_⟩
  intro W tk δ M σ r H Q S E p
  refine (pw_and (ptW a) (pwW _)).ww ?_
  refine ha.ru W tk δ M σ r H _ S E (p.bnd.imp ?_)
  intro c M1 r1 H1 L1 S1 h1
  cases c with
  | true => exact hb.ru W tk δ M1 σ r1 H1 Q S1 (E.le L1) h1
  | false => exact h1 r1 H1 S1.le S1
theorem SW.or {a b : Expr} {rest : List Expr} {pos : Pos} {ma mb : DT} (ha : ST G X a ma) (hb : SW G X (.BoolOp .Or (b :: rest) pos) mb) : SW G X (.BoolOp .Or (a :: b :: rest) pos) (dOrT ma mb) := by
  refine ⟨?_⟩
  intro W tk δ M σ r H Q S E p
  refine (pw_or (ptW a) (pwW _)).ww ?_
  refine ha.ru W tk δ M σ r H _ S E (p.bnd.imp ?_)
  intro c M1 r1 H1 L1 S1 h1
  cases c with
  | true => exact h1 r1 H1 S1.le S1
  | false => exact hb.ru W tk δ M1 σ r1 H1 Q S1 (E.le L1) h1
/-! ### the same as values -/
def dNot (g : D → Ev Bool) (a : DE) : DE := fun δ => bnd (a δ) fun x => bnd (g x) fun b => ret (.bl (!b))
theorem SE.not {a : Expr} {pos : Pos} {ma : DE} {g : D → Ev Bool} (ht : TruS G X g) (ha : SE G X a ma) : SE G X (.UnaryOp .Not a pos) (dNot g ma) := by
  refine ⟨?_⟩
  intro W tk δ M σ r H Q S E p
  intro pins s I
  refine UnaryOp_ (thn (ha.ru W tk δ M σ r H (fun x H1 => tW X σ x H1 fun b H2 => Q (.bl (!b)) H2) S E (p.bnd.imp ?_) pins s I) fun v s1 ⟨x, H1, I1, r1, q1⟩ =>
    not_of (thn (q1 pins s1 v I1 r1) fun c s2 ⟨H2, I2, q2⟩ => ⟨.bl (!c), H2, I2, rfl, q2⟩))
  intro d1 M1 r1 H1 L1 S1 h1 v1 R1
  refine ht W tk σ r1 M1 H1 v1 d1 _ S1 R1 (h1.bnd.imp ?_)
  intro b M2 r2 H2 L2 S2 h2
  exact h2 r2 H2 S2.le S2 _ .bl
def dAnd (g : D → Ev Bool) (a b : DE) : DE := fun δ => bnd (a δ) fun x => bnd (g x) fun c => if c then b δ else ret x
def dOr (g : D → Ev Bool) (a b : DE) : DE := fun δ => bnd (a δ) fun x => bnd (g x) fun c => if c then ret x else b δ
theorem SE.one {op : BoolOp} {a : Expr} {pos : Pos} {ma : DE} (ha : SE G X a ma) : SE G X (.BoolOp op [a] pos) ma := ⟨fun W tk δ M σ r H Q S E p => (pe_one (peW a)).we (ha.ru W tk δ M σ r H Q S E p)⟩
theorem SE.and {a b : Expr} {rest : List Expr} {pos : Pos} {ma mb : DE} {g : D → Ev Bool} (ht : TruS G X g) (ha : SE G X a ma) (hb : SE G X (.BoolOp .And (b :: rest) pos) mb) : SE G X (.BoolOp .And (a :: b :: rest) pos) (dAnd g ma mb) := by
  refine ⟨?_⟩
  intro W tk δ M σ r H Q S E p
  intro pins s I
  refine BoolOp_and (thn (ha.ru W tk δ M σ r H (fun x H1 => tW X σ x H1 fun c H2 => if c = true then WE X (.BoolOp .And (b :: rest) pos) σ H2 Q else Q x H2) S E (p.bnd.imp ?_) pins s I) fun v s1 ⟨x, H1, I1, r1, q1⟩ =>
    thn (q1 pins s1 v I1 r1) fun c s2 ⟨H2, I2, q2⟩ => ?_)
  · intro d1 M1 r1 H1 L1 S1 h1 v1 R1
    refine ht W tk σ r1 M1 H1 v1 d1 _ S1 R1 (h1.bnd.imp ?_)
    intro c M2 r2 H2 L2 S2 h2
    cases c with
    | true => refine iteT ?_; exact hb.ru W tk δ M2 σ r2 H2 Q S2 (E.le (L1.trans L2)) h2
    | false => refine iteF ?_; exact h2 r2 H2 S2.le S2 _ (R1.le L2)
  · cases c with
    | true => exact (show WE X _ σ H2 Q from q2) pins s2 I2
    | false => exact ⟨x, H2, I2, r1, q2⟩
theorem SE.or {a b : Expr} {rest : List Expr} {pos : Pos} {ma mb : DE} {g : D → Ev Bool} (ht : TruS G X g) (ha : SE G X a ma) (hb : SE G X (.BoolOp .Or (b :: rest) pos) mb) : SE G X (.BoolOp .Or (a :: b :: rest) pos) (dOr g ma mb) := by
  refine ⟨?_⟩
  intro W tk δ M σ r H Q S E p
  intro pins s I
  refine BoolOp_or (thn (ha.ru W tk δ M σ r H (fun x H1 => tW X σ x H1 fun c H2 => if c = true then Q x H2 else WE X (.BoolOp .Or (b :: rest) pos) σ H2 Q) S E (p.bnd.imp ?_) pins s I) fun v s1 ⟨x, H1, I1, r1, q1⟩ =>
    thn (q1 pins s1 v I1 r1) fun c s2 ⟨H2, I2, q2⟩ => ?_)
  · intro d1 M1 r1 H1 L1 S1 h1 v1 R1
    refine ht W tk σ r1 M1 H1 v1 d1 _ S1 R1 (h1.bnd.imp ?_)
    intro c M2 r2 H2 L2 S2 h2
    cases c with
    | true => refine iteT ?_; exact h2 r2 H2 S2.le S2 _ (R1.le L2)
    | false => refine iteF ?_; exact hb.ru W tk δ M2 σ r2 H2 Q S2 (E.le (L1.trans L2)) h2
  · cases c with
    | true => exact ⟨x, H2, I2, r1, q2⟩
    | false => exact (show WE X _ σ H2 Q from q2) pins s2 I2
def dIte (c : DT) (a b : DE) : DE := fun δ => bnd (c δ) fun k => if k then a δ else b δ
theorem SE.ite {c a b : Expr} {pos : Pos} {mc : DT} {ma mb : DE} (hc : ST G X c mc) (ha : SE G X a ma) (hb : SE G X b mb) : SE G X (.IfExp c a b pos) (dIte mc ma mb) := by
  refine ⟨?_⟩
  intro W tk δ M σ r H Q S E p
  refine (pe_ifExp (ptW c) (peW a) (peW b)).we ?_
  refine hc.ru W tk δ M σ r H _ S E (p.bnd.imp ?_)
  intro k M1 r1 H1 L1 S1 h1
  cases k with
  | true => refine iteT ?_; exact ha.ru W tk δ M1 σ r1 H1 Q S1 (E.le L1) h1
  | false => refine iteF ?_; exact hb.ru W tk δ M1 σ r1 H1 Q S1 (E.le L1) h1
/-- a test that is a conditional expression -/
theorem ST.ite {c a b : Expr} {pos : Pos} {mc ma mb : DT} (hc : ST G X c mc) (ha : ST G X a ma) (hb : ST G X b mb) : ST G X (.IfExp c a b pos) (fun δ => bnd (mc δ) fun k => if k then ma δ else mb δ) := by
  refine ⟨?_⟩
  intro W tk δ M σ r H Q S E p
  intro pins s I
  have h : WT X c σ H fun k H1 => if k = true then WT X a σ H1 Q else WT X b σ H1 Q := by
    refine hc.ru W tk δ M σ r H _ S E (p.bnd.imp ?_)
    intro k M1 r1 H1 L1 S1 h1
    cases k with
    | true => refine iteT ?_; exact ha.ru W tk δ M1 σ r1 H1 Q S1 (E.le L1) h1
    | false => refine iteF ?_; exact hb.ru W tk δ M1 σ r1 H1 Q S1 (E.le L1) h1
  show wpAny _ _ (do if ← isTrue c X.env (eval c X.env) then isTrue a X.env (eval a X.env) else isTrue b X.env (eval b X.env)) _ _ _
  refine wpAny_bind (thn (h pins s I) fun k s1 ⟨H1, I1, q1⟩ => ?_)
  cases k with
  | true => exact (show WT X a σ H1 Q from q1) pins s1 I1
  | false => exact (show WT X b σ H1 Q from q1) pins s1 I1
/-- -a, of an int -/
def dNeg (a : DE) : DE := fun δ => bnd (a δ) fun x => match x with
  | .int i => ret (.int (-i))
  | _ => stuck
theorem SE.neg {a : Expr} {pos : Pos} {ma : DE} (ha : SE G X a ma) : SE G X (.UnaryOp .USub a pos) (dNeg ma) := by
  refine ⟨?_⟩
  intro W tk δ M σ r H Q S E p
  refine (pe_un un_neg (peW a)).we ?_
  refine ha.ru W tk δ M σ r H _ S E (p.bnd.imp ?_)
  intro d1 M1 r1 H1 L1 S1 h1 v1 R1
  cases R1 with
  | int => exact ⟨_, rfl, h1 r1 H1 S1.le S1 _ .int⟩
  | _ => exact h1.elim
/-- a op b op' c, of ints and texts -/
def dChain (g g' : List D → D → D → Option D) (a b c : DE) : DE := fun δ => bnd (a δ) fun x => bnd (b δ) fun y => fun M => match g M x y with
  | some (.bl true) => bnd (c δ) (fun z M' => optE (g' M' y z) M') M
  | some (.bl false) => .ok (.bl false) M
  | _ => .stk
theorem chain_run {op op' : CmpOp} {a b c : Expr} {g g' : List D → D → D → Option D} {ma mb mc : DE} (ho : OpP G X (compareOp op) g) (ho' : OpP G X (compareOp op') g') (ha : SE G X a ma) (hb : SE G X b mb) (hc : SE G X c mc) (W : WX) (tk : Takes X W)
    (δ : DEnv) (M : List D) (σ : L2.St) (r : List Addr) (H : Hp) (Q : VK) (S : StOk G r M H) (E : EnvOk G r H σ δ) (p : Post G W σ (JE G Q) r H (dChain g g' ma mb mc δ M)) :
    tChain (rW0 X (compareOp op)) (rW0 X (compareOp op')) (WE X a) (WE X b) (WE X c) σ H Q := by
  refine ha.ru W tk δ M σ r H _ S E (p.bnd.imp ?_)
  intro d1 M1 r1 H1 L1 S1 h1 v1 R1
  refine hb.ru W tk δ M1 σ r1 H1 _ S1 (E.le L1) (h1.bnd.imp ?_)
  intro d2 M2 r2 H2 L2 S2 h2 v2 R2
  cases e : g M2 d1 d2 with
  | none => simp only [e] at h2; exact h2.elim
  | some z =>
    refine ho r2 M2 H2 v1 v2 d1 d2 z _ S2 (R1.le L2) R2 e fun H3 v L3 S3 R3 => ?_
    cases R3 with
    | bl =>
      rename_i k
      refine ⟨k, rfl, ?_⟩
      cases k with
      | true =>
        simp only [e] at h2
        rw [if_pos rfl]
        refine hc.ru W tk δ M2 σ r2 H3 _ S3 (E.le ((L1.trans L2).trans L3)) ((h2.mono L3).bnd.imp ?_)
        intro d4 M4 r4 H4 L4 S4 h4 v4 R4
        cases e4 : g' M4 d2 d4 with
        | none => rw [e4] at h4; exact h4.elim
        | some z4 =>
          rw [e4] at h4
          exact ho' r4 M4 H4 v2 v4 d2 d4 z4 _ S4 ((R2.le L3).le L4) R4 e4 fun H5 v5 L5 S5 R5 => h4 r4 H5 L5 S5 v5 R5
      | false =>
        simp only [e] at h2
        rw [if_neg Bool.false_ne_true]
        exact h2 r2 H3 L3 S3 _ .bl
    | _ => simp only [e] at h2; exact h2.elim
theorem SE.chain {op op' : CmpOp} {a b c : Expr} {pos : Pos} {g g' : List D → D → D → Option D} {ma mb mc : DE} (hm : lastMarks [op, op'] [b, c] = false) (ho : OpP G X (compareOp op) g) (ho' : OpP G X (compareOp op') g') (ha : SE G X a ma) (hb : SE G X b mb) (hc : SE G X c mc) :
    SE G X (.Compare a [op, op'] [b, c] pos) (dChain g g' ma mb mc) := by
  refine ⟨?_⟩
  exact fun W tk δ M σ r H Q S E p =>
  (pe_chain (rW0_op _) (rW0_op _) (peW a) (peW b) (peW c) hm).we (chain_run ho ho' ha hb hc W tk δ M σ r H Q S E p)
theorem ST.chain {op op' : CmpOp} {a b c : Expr} {pos : Pos} {g g' : List D → D → D → Option D} {ma mb mc : DE} (hm : lastMarks [op, op'] [b, c] = false) (ho : OpP G X (compareOp op) g) (ho' : OpP G X (compareOp op') g') (ha : SE G X a ma) (hb : SE G X b mb) (hc : SE G X c mc) :
    ST G X (.Compare a [op, op'] [b, c] pos) (dBool (dChain g g' ma mb mc)) :=
  .tst (pt_chain (rW0_op _) (rW0_op _) (peW a) (peW b) (peW c) hm) fun W tk δ M σ r H Q S E p => chain_run ho ho' ha hb hc W tk δ M σ r H Q S E p

/-! ### arguments, displays -/
def dNil : DA := fun _ => ret []
def dCons (a : DE) (b : DA) : DA := fun δ => bnd (a δ) fun x => bnd (b δ) fun xs => ret (x :: xs)
theorem SA.nil : SA G X [] dNil := ⟨fun W tk δ M σ r H Q S E p => pa_nil.wa (p r H S.le S _ .nil)⟩
theorem SA.cons {e : Expr} {es : List Expr} {ma : DE} {mb : DA} (ha : SE G X e ma) (hb : SA G X es mb) (hs : starEach (e :: es) X.env = (false, eval e X.env) :: starEach es X.env) : SA G X (e :: es) (dCons ma mb) := by
  refine ⟨?_⟩
  intro W tk δ M σ r H Q S E p
  refine (pa_cons (peW e) (paW es) hs).wa ?_
  refine ha.ru W tk δ M σ r H _ S E (p.bnd.imp ?_)
  intro d1 M1 r1 H1 L1 S1 h1 v1 R1
  refine hb.ru W tk δ M1 σ r1 H1 _ S1 (E.le L1) (h1.bnd.imp ?_)
  intro d2 M2 r2 H2 L2 S2 h2 v2 R2
  exact h2 r2 H2 S2.le S2 _ (.cons (R1.le L2) R2)
def dTup (a : DA) : DE := fun δ => bnd (a δ) fun xs => if xs.length ≤ sizeLine then ret (.tup xs) else stuck
def dLst (a : DA) : DE := fun δ => bnd (a δ) fun xs => if xs.length ≤ sizeLine then ret (.lst xs) else stuck
theorem SE.tup {es : List Expr} {x1 : Nat} {pos : Pos} {m : DA} (h : SA G X es m) : SE G X (.Tuple es x1 pos) (dTup m) := by
  refine ⟨?_⟩
  intro W tk δ M σ r H Q S E p
  refine (pe_tup (paW es)).we ?_
  refine h.ru W tk δ M σ r H _ S E (p.bnd.imp ?_)
  intro ds M1 r1 H1 L1 S1 h1 vs Rs
  by_cases c : ds.length ≤ sizeLine
  · rw [if_pos c] at h1
    refine ⟨by rw [Rs.length]; exact c, fun q hq => ?_⟩
    obtain ⟨l, S'⟩ := S1.new (o := .tup vs) hq
    exact h1 r1 _ l S' _ (.tup (.of (off_new (S1.fresh hq))) (Rs.le l))
  · rw [if_neg c] at h1
    exact h1.elim
theorem SE.lst {es : List Expr} {pos : Pos} {m : DA} (h : SA G X es m) : SE G X (.List es pos) (dLst m) := by
  refine ⟨?_⟩
  intro W tk δ M σ r H Q S E p
  refine (pe_lst (paW es)).we ?_
  refine h.ru W tk δ M σ r H _ S E (p.bnd.imp ?_)
  intro ds M1 r1 H1 L1 S1 h1 vs Rs
  by_cases c : ds.length ≤ sizeLine
  · rw [if_pos c] at h1
    refine ⟨by rw [Rs.length]; exact c, fun q hq => ?_⟩
    obtain ⟨l, S'⟩ := S1.new (o := .lst vs) hq
    exact h1 r1 _ l S' _ (.lst (off_new (S1.fresh hq)) (Rs.le l))
  · rw [if_neg c] at h1
    exact h1.elim
end
end Iv
/-! Subscripts, slices, built-in functions, methods of texts. -/
namespace Iv
open PySem PySem.Spec PyProof.Rows L2

/-! ### subscripts -/
/-- a subscript of lists, tuples, texts -/
def idxM (M : List D) (x y : D) : Option D := match y with
  | .int i => match valD M x with
    | .str z => if z.length ≤ sizeLine then (atI z.cps.toList i).map fun c => .str ⟨#[c]⟩ else none
    | _ => match seqD M x with
      | some ds => atI ds i
      | none => none
  | _ => none
section
variable {X : Cx} {G : Gd}
theorem reps_atI {r : List Addr} {H : Hp} {vs : List V} {ds : List D} (h : Reps G r H vs ds) {i : Int} {d : D} (e : atI ds i = some d) : ∃ v, atI vs i = some v ∧ Rep G r H v d := by
  unfold atI at e ⊢
  rw [h.length]
  cases q : ixN ds.length i with
  | none => rw [q] at e; cases e
  | some j =>
    rw [q] at e
    exact h.get (show ds[j]? = some d from e)
/-- a subscript's value comes to Q -/
def xW (X : Cx) (a b : Expr) (σ : L2.St) : R2 := fun x y H Q => ∀ (pins : List (Addr × Obj)) (s : Shared) (v u : Value), Inv X pins σ H s → RelV x v → RelV y u → wpAny (model X.prog X.w) X.A (subscriptTail a b v u) (EP X pins σ Q) X.xe s
theorem WE.sub {a b : Expr} {pos : Pos} {σ : L2.St} {H : Hp} {Q : VK} (h : WE X a σ H fun x H1 => WE X b σ H1 fun y H2 => xW X a b σ x y H2 Q) : WE X (.Subscript a b pos) σ H Q := fun _ _ I =>
  Subscript_ (binT (R := fun x y H2 => xW X a b σ x y H2 Q) (peW a) (peW b) I h fun v u s2 _ _ _ I2 rx ry q => q _ s2 v u I2 rx ry)
def IxS (G : Gd) (X : Cx) (a b : Expr) (g : D → D → Ev D) : Prop := ∀ (W : WX), Takes X W → ∀ (σ : L2.St) (r : List Addr) (M : List D) (H : Hp) (x y : V) (d d' : D) (Q : VK),
  StOk G r M H → Rep G r H x d → Rep G r H y d' → Post G W σ (JE G Q) r H (g d d' M) → xW X a b σ x y H Q
theorem IxS.seq (hK : G.K = X.K) {a b : Expr} (hs : PlainIx b) : IxS G X a b (pureO idxM) := by
  intro W tk σ r M H x y d d' Q S h h' p
  unfold pureO at p
  cases e : idxM M d d' with
  | none => rw [e] at p; exact p.elim
  | some z =>
    rw [e] at p
    have k : ∀ v, Rep G r H v z → Q v H := fun v hv => p r H S.le S v hv
    cases h' with
    | int =>
      rename_i i
      intro pins s v u I rx ry
      have seqs : (match seqD M d with | some ds => atI ds i | none => none) = some z → wpAny (model X.prog X.w) X.A (subscriptTail a b v u) (EP X pins σ Q) X.xe s := by
        intro e
        cases es : seqD M d with
        | none => rw [es] at e; cases e
        | some ds =>
          rw [es] at e
          obtain ⟨q, vs, rfl, hq, hv⟩ := seq_at S h es
          rw [hK] at hq
          obtain ⟨w, ew, rw'⟩ := reps_atI hv (show atI ds i = some z from e)
          rcases hq with hq | hq
          · exact ix_list a b pins s σ H _ _ v u Q I rx ry ⟨q, vs, i, w, rfl, rfl, hq, ew, k w rw'⟩ (hs _ _)
          · exact ix_tup a b pins s σ H _ _ v u Q I rx ry ⟨q, vs, i, w, rfl, rfl, hq, ew, k w rw'⟩ (hs _ _)
      have e' : (match valD M d with
        | .str z => if z.length ≤ sizeLine then (atI z.cps.toList i).map fun c => D.str ⟨#[c]⟩ else none
        | _ => match seqD M d with | some ds => atI ds i | none => none) = some z := e
      cases ev : valD M d with
      | str y =>
        rw [ev] at e'
        have e2 : (if y.length ≤ sizeLine then (atI y.cps.toList i).map fun c => D.str ⟨#[c]⟩ else none) = some z := e'
        by_cases c : y.length ≤ sizeLine
        · rw [if_pos c] at e2
          have q := val_leaf S h (by rw [ev]; rfl)
          rw [ev] at q
          subst q
          cases h
          cases ea : atI y.cps.toList i with
          | none => rw [ea] at e2; cases e2
          | some c' =>
            rw [ea] at e2
            cases e2
            exact ix_str a b pins s σ H _ _ v u Q I rx ry ⟨y, i, c', rfl, rfl, c, ea, k _ .str⟩ (hs _ _)
        · rw [if_neg c] at e2; cases e2
      | _ => rw [ev] at e'; exact seqs e'
    | _ => cases e
theorem SE.sub {a b : Expr} {pos : Pos} {g : D → D → Ev D} {ma mb : DE} (hi : IxS G X a b g) (ha : SE G X a ma) (hb : SE G X b mb) : SE G X (.Subscript a b pos) (dOp g ma mb) := by
  refine ⟨?_⟩
  intro W tk δ M σ r H Q S E p
  refine WE.sub ?_
  refine ha.ru W tk δ M σ r H _ S E (p.bnd.imp ?_)
  intro d1 M1 r1 H1 L1 S1 h1 v1 R1
  refine hb.ru W tk δ M1 σ r1 H1 _ S1 (E.le L1) (h1.bnd.imp ?_)
  intro d2 M2 r2 H2 L2 S2 h2 v2 R2
  exact hi W tk σ r2 M2 H2 v1 v2 d1 d2 Q S2 (R1.le L2) R2 h2

/-! ### slices -/
/-- the part of a list from lo to hi -/
def cutD (xs : List D) (lo hi : Option Int) : List D := (xs.drop (HT.sIx xs.length 0 lo)).take (HT.sIx xs.length xs.length hi - HT.sIx xs.length 0 lo)
abbrev DO := DEnv → Ev (Option Int)
def dNoP : DO := fun _ => ret none
def dPart (a : DE) : DO := fun δ => bnd (a δ) fun x => match x with
  | .int i => ret (some i)
  | _ => stuck
def sliM (M : List D) (x : D) (lo hi : Option Int) : Option D := match valD M x with
  | .str z => if z.length ≤ sizeLine then some (.str (cutS z lo hi)) else none
  | .lst ds => some (.lst (cutD ds lo hi))
  | .scr ds => some (.lst (cutD ds lo hi))
  | .tup ds => some (.tup (cutD ds lo hi))
  | _ => none
def dSli (a : DE) (lo hi : DO) : DE := fun δ => bnd (a δ) fun x => bnd (lo δ) fun l => bnd (hi δ) fun h => fun M => optE (sliM M x l h) M
def WO (X : Cx) (e : Option Expr) (σ : L2.St) (H : Hp) (Q : Option Int → Hp → Prop) : Prop := ∃ t, PO X e t ∧ t σ H Q
theorem poW (e : Option Expr) : PO X e (WO X e) := ⟨fun pins s σ H Q I ⟨t, h, q⟩ => h.run pins s σ H Q I q⟩
structure SO (G : Gd) (X : Cx) (e : Option Expr) (m : DO) : Prop where
  ru : ∀ (W : WX), Takes X W → ∀ (δ : DEnv) (M : List D) (σ : L2.St) (r : List Addr) (H : Hp) (Q : Option Int → Hp → Prop),
  StOk G r M H → EnvOk G r H σ δ → Post G W σ (fun o _ _ H => Q o H) r H (m δ M) → WO X e σ H Q
theorem SO.none : SO G X none dNoP := ⟨fun W tk δ M σ r H Q S E p => ⟨_, po_none, p r H S.le S⟩⟩
theorem SO.some {e : Expr} {m : DE} (h : SE G X e m) : SO G X (some e) (dPart m) := by
  refine ⟨?_⟩
  intro W tk δ M σ r H Q S E p
  refine ⟨_, po_some (peW e), ?_⟩
  refine h.ru W tk δ M σ r H _ S E (p.bnd.imp ?_)
  intro d1 M1 r1 H1 L1 S1 h1 v1 R1
  cases R1 with
  | int => exact ⟨_, rfl, h1 r1 H1 S1.le S1⟩
  | _ => exact h1.elim
theorem cut_reps {r : List Addr} {H : Hp} {vs : List V} {ds : List D} (h : Reps G r H vs ds) (lo hi : Option Int) : Reps G r H (cutV vs lo hi) (cutD ds lo hi) := by
  unfold cutV cutD
  rw [h.length]
  exact (h.drop _).take _
/-- any slice: by values -/
def lW (X : Cx) : V → Option Int → Option Int → Hp → VK → Prop := fun x lo hi H Q => ∃ rr, SlR X rr ∧ rr x lo hi H Q
theorem lW_sl : SlR X (lW X) := fun pins s σ H x v vl vu lo hi sl Q I rx h1 h2 h3 ⟨_, h, q⟩ => h pins s σ H x v vl vu lo hi sl Q I rx h1 h2 h3 q
theorem SE.sli (hK : G.K = X.K) {a : Expr} {lo hi : Option Expr} {pos p2 : Pos} {ma : DE} {ml mh : DO} (ha : SE G X a ma) (hl : SO G X lo ml) (hh : SO G X hi mh) : SE G X (.Subscript a (.Slice lo hi none p2) pos) (dSli ma ml mh) := by
  refine ⟨?_⟩
  intro W tk δ M σ r H Q S E p
  refine (pe_slice lW_sl (peW a) (poW lo) (poW hi)).we ?_
  refine ha.ru W tk δ M σ r H _ S E (p.bnd.imp ?_)
  intro d1 M1 r1 H1 L1 S1 h1 v1 R1
  refine hl.ru W tk δ M1 σ r1 H1 _ S1 (E.le L1) (h1.bnd.imp ?_)
  intro l M2 r2 H2 L2 S2 h2
  refine hh.ru W tk δ M2 σ r2 H2 _ S2 (E.le (L1.trans L2)) (h2.bnd.imp ?_)
  intro h M3 r3 H3 L3 S3 h3
  have R := R1.le (L2.trans L3)
  cases e : sliM M3 d1 l h with
  | none => rw [e] at h3; exact h3.elim
  | some z =>
    rw [e] at h3
    unfold sliM at e
    cases ev : valD M3 d1 with
    | str y =>
      rw [ev] at e
      have e2 : (if y.length ≤ sizeLine then some (D.str (cutS y l h)) else none) = some z := e
      by_cases c : y.length ≤ sizeLine
      · rw [if_pos c] at e2
        cases e2
        have q := val_leaf S3 R (by rw [ev]; rfl)
        rw [ev] at q
        subst q
        cases R
        exact ⟨_, sl_str, y, rfl, c, h3 r3 H3 S3.le S3 _ .str⟩
      · rw [if_neg c] at e2; cases e2
    | lst ds =>
      rw [ev] at e
      cases e
      obtain ⟨q, vs, rfl, hq, hv⟩ := val_lst S3 R ev
      refine ⟨_, sl_list, q, vs, rfl, .of hq, fun o ho => ?_⟩
      obtain ⟨L, S'⟩ := S3.new (o := .lst (cutV vs l h)) ho
      exact h3 r3 _ L S' _ (.lst (off_new (S3.fresh ho)) ((cut_reps hv l h).le L))
    | scr ds =>
      rw [ev] at e
      cases e
      obtain ⟨q, vs, rfl, hq, hv⟩ := val_scr S3 R ev
      refine ⟨_, sl_list, q, vs, rfl, hK ▸ hq, fun o ho => ?_⟩
      obtain ⟨L, S'⟩ := S3.new (o := .lst (cutV vs l h)) ho
      exact h3 r3 _ L S' _ (.lst (off_new (S3.fresh ho)) ((cut_reps hv l h).le L))
    | tup ds =>
      rw [ev] at e
      cases e
      obtain ⟨q, vs, rfl, hq, hv, ed⟩ := val_tup S3 R ev
      subst ed
      refine ⟨_, sl_tupA, q, vs, rfl, hK ▸ hq, fun c => ?_, fun _ o ho => ?_⟩
      · have ec : cutD ds l h = ds := by
          unfold cutD
          rw [← hv.length, c.1, c.2, hv.length]
          simp
        rw [ec] at h3
        exact h3 r3 H3 S3.le S3 _ R
      · obtain ⟨L, S'⟩ := S3.new (o := .tup (cutV vs l h)) ho
        exact h3 r3 _ L S' _ (.tup (.of (off_new (S3.fresh ho))) ((cut_reps hv l h).le L))
    | _ => rw [ev] at e; cases e

/-! ### calls of built-in functions and types, by values -/
def CaS (G : Gd) (X : Cx) (f : Value) (g : List D → Ev D) : Prop := ∀ (W : WX), Takes X W → ∀ (σ : L2.St) (r : List Addr) (M : List D) (H : Hp) (xs : List V) (ds : List D) (Q : VK),
  StOk G r M H → Reps G r H xs ds → Post G W σ (JE G Q) r H (g ds M) → cW X f xs H Q
def dBlt (g : List D → Ev D) (a : DA) : DE := fun δ => bnd (a δ) g
theorem SE.bltF {x : Str} {p pos : Pos} {e : Expr} {es : List Expr} {id : String} {g : List D → Ev D} {m : DA} (hc : CaS G X (.builtin id) g) (hg : Gl X x) (hm : X.mg x = none) (hv : bootBuiltins x = some (.builtin id)) (ha : SA G X (e :: es) m)
    (hn : x ≠ "__name__") (hdb : (x == ("__debug__" : Str)) = false) (he : starEach (e :: es) X.env = (false, eval e X.env) :: starEach es X.env) (hpl : (backTo pos (starEach es X.env)).any (·.1) = false) : SE G X (.Call (.Name x p) (e :: es) [] pos) (dBlt g m) := by
  refine ⟨?_⟩
  intro W tk δ M σ r H Q S E q
  refine (pe_callB (cW_op _) hg hm hv (paW (e :: es)) hn hdb he hpl).we ?_
  refine ha.ru W tk δ M σ r H _ S E (q.bnd.imp ?_)
  intro ds M1 r1 H1 L1 S1 h1 vs Rs
  exact hc W tk σ r1 M1 H1 vs ds Q S1 Rs h1
theorem SE.bltT {x : Str} {p pos : Pos} {e : Expr} {es : List Expr} {T : String} {g : List D → Ev D} {m : DA} (hc : CaS G X (.type T) g) (hg : Gl X x) (hm : X.mg x = none) (hv : bootBuiltins x = some (.type T)) (ha : SA G X (e :: es) m)
    (hn : x ≠ "__name__") (hdb : (x == ("__debug__" : Str)) = false) (he : starEach (e :: es) X.env = (false, eval e X.env) :: starEach es X.env) (hpl : (backTo pos (starEach es X.env)).any (·.1) = false) : SE G X (.Call (.Name x p) (e :: es) [] pos) (dBlt g m) := by
  refine ⟨?_⟩
  intro W tk δ M σ r H Q S E q
  refine (pe_callTy (cW_op _) hg hm hv (paW (e :: es)) hn hdb he hpl).we ?_
  refine ha.ru W tk δ M σ r H _ S E (q.bnd.imp ?_)
  intro ds M1 r1 H1 L1 S1 h1 vs Rs
  exact hc W tk σ r1 M1 H1 vs ds Q S1 Rs h1
end
end Iv
/-! isinstance; len, int, abs, list, tuple, all, any, str, bool, repr. -/
namespace Iv
open PySem PySem.Spec PyProof.Rows L2

/-! ### isinstance -/
inductive Ty where
  | b (n : String) | o (c : Nat)
  deriving DecidableEq
def tyVal (G : Gd) : Ty → Value
  | .b n => .type n
  | .o c => .ref (G.cls c)
/-- which of the text's classes are known, and what isinstance answers of two classes -/
structure Kt where
  ok : Nat → Bool
  sub : Ty → Ty → Option Bool
/-- what isinstance asks of an instance's class -/
structure InsTy (K : PySem.W.Frag) (C : Addr) : Prop where
  cl : Cls K C
  ha : PySem.W.findIn K (.ref C) "__class__" = some (some (.builtin "object.__class__"))
  hn : PySem.W.specialIn K (.builtin "object.__class__") "__get__" = some (some (.builtin "getset_descriptor.__get__"))
  htk : PySem.W.takesIn K (.builtin "object.__class__") = some true
  hm : PySem.W.mroIn K C (.type "object") = some true
/-- what isinstance asks of an exception's class -/
structure ExcTy (K : PySem.W.Frag) (C : Addr) : Prop where
  cl : (PySem.W.clsIn K C).isSome = true
  ga : PySem.W.findIn K (.ref C) "__getattribute__" = some (some (.builtin "BaseException.__getattribute__"))
  gt : PySem.W.findIn K (.ref C) "__getattr__" = some none
  su : PySem.W.subIn K (.ref C) (.type "BaseException") = some true
  ha : PySem.W.findIn K (.ref C) "__class__" = some (some (.builtin "object.__class__"))
  hn : PySem.W.specialIn K (.builtin "object.__class__") "__get__" = some (some (.builtin "getset_descriptor.__get__"))
  htk : PySem.W.takesIn K (.builtin "object.__class__") = some true
  hm : PySem.W.mroIn K C (.type "object") = some true
structure KtOk (G : Gd) (kt : Kt) : Prop where
  ins : ∀ c, kt.ok c = true → isEx c = false → InsTy G.K (G.cls c)
  exc : ∀ c, kt.ok c = true → isEx c = true → ExcTy G.K (G.cls c)
  sub : ∀ a b v, kt.sub a b = some v → PySem.W.kitOne G.K (tyVal G a) (tyVal G b) = some v
/-- a value's class: as HandS has it, or an exception that is held as a value -/
inductive TyY (K : PySem.W.Frag) (H : Hp) : V → Value → Prop where
  | of {x : V} {t : Value} (h : TyX K H x t) : TyY K H x t
  | exn {a C dx : Addr} {fs : List (Str × V)} (h : H a = some (exo a C (some dx))) (h2 : H dx = some (exd dx fs)) (k : ExcTy K C) : TyY K H (.ref a) (.ref C)
  | exn0 {a C : Addr} (h : H a = some (exo a C none)) (k : ExcTy K C) : TyY K H (.ref a) (.ref C)
section
variable {X : Cx} {pins : List (Addr × Obj)} {σ : L2.St} {H : Hp} {s : Shared}
theorem kitY {x : V} {u t : Value} (I : Inv X pins σ H s) (rx : RelV x u) (ty : TyY X.K H x t) : ∃ P : Heap → Prop, PySem.W.KitX X.K u t P ∧ P s.heap ∧ u ≠ .builtin "__main__.__loader__#opaque" := by
  cases ty with
  | of h => exact kit_of I rx h
  | exn h h2 k =>
    cases rx
    obtain ⟨t1, ho⟩ := exo_at I.hok h
    obtain ⟨mA, ⟨od, es, ep, hd, _⟩, _⟩ := exd_at I.hok h2
    exact ⟨_, PySem.W.kitx_exc k.cl k.ga k.gt k.su k.ha k.hn k.htk k.hm, (⟨ho, rfl, rfl, hd⟩ : PySem.W.InstAt s.heap _ _ _ (some od)), fun z => nomatch z⟩
  | exn0 h k =>
    cases rx
    obtain ⟨t1, ho⟩ := exo_at I.hok h
    exact ⟨_, PySem.W.kitx_exc k.cl k.ga k.gt k.su k.ha k.hn k.htk k.hm, (⟨ho, rfl, rfl, True.intro⟩ : PySem.W.InstAt s.heap _ _ _ none), fun z => nomatch z⟩
/-- isinstance(x, c); isinstance(x, (c1, ..)) -/
def rIsY (K : PySem.W.Frag) : List V → Hp → VK → Prop := fun xs H Q => ∃ (x c : V) (t u : Value) (b : Bool), xs = [x, c] ∧ ClsV c u ∧ TyY K H x t ∧ PySem.W.kitOne K t u = some b ∧ Q (.bl b) H
def rIsYT (K : PySem.W.Frag) : List V → Hp → VK → Prop := fun xs H Q => ∃ (x : V) (tp : Addr) (cs : List V) (t : Value) (us : List Value) (b : Bool), xs = [x, .ref tp] ∧ H tp = some (.tup cs) ∧ Paired ClsV cs us ∧ TyY K H x t ∧ PySem.W.kitAny K t us = some b ∧ Q (.bl b) H
theorem call_isY {X : Cx} : CallR X (.builtin "isinstance") (rIsY X.K) := fun pins s σ H xs us Q I r ⟨x, c, t, u, b, ex, k, ty, e, q⟩ => by
  subst ex
  obtain ⟨v1, v2, rfl, rx, rc⟩ := vals2 r
  obtain rfl := k.eq rc
  obtain ⟨P, Z, p, ne⟩ := kitY I rx ty
  exact PySem.W.kia_one Z I.kIn p e ne fun tk => ⟨.bl b, H, I.tok tk, rfl, q⟩
theorem call_isYT {X : Cx} : CallR X (.builtin "isinstance") (rIsYT X.K) := fun pins s σ H xs us Q I r ⟨x, tp, cs, t, ws, b, ex, hT, k, ty, e, q⟩ => by
  subst ex
  obtain ⟨v1, v2, rfl, rx, rc⟩ := vals2 r
  cases rc
  obtain ⟨P, Z, p, ne⟩ := kitY I rx ty
  obtain ⟨_, its, rv, o, q1, q2, n, q3⟩ := (show ObjOk X.prog X.w H s.heap tp (.tup cs) from I.hok tp _ hT)
  obtain rfl := ClsV.all k rv
  cases o
  cases q2
  cases q3
  exact PySem.W.kia_tup Z I.kIn p q1 e ne fun tk => ⟨.bl b, H, I.tok tk, rfl, q⟩
end
/-- the class of data -/
def tyD (kt : Kt) : D → Option Ty
  | .non => some (.b "NoneType")
  | .bl _ => some (.b "bool")
  | .int _ => some (.b "int")
  | .str _ => some (.b "str")
  | .lst _ => some (.b "list")
  | .scr _ => some (.b "list")
  | .tup _ => some (.b "tuple")
  | .dct _ _ => some (.b "dict")
  | .lck _ _ => some (.b "dict")
  | .ins c _ _ => if kt.ok c then some (.o c) else none
  | _ => none
def subAny (kt : Kt) (t : Ty) : List Ty → Option Bool
  | [] => some false
  | c :: r => match kt.sub t c with
    | some true => some true
    | some false => subAny kt t r
    | none => none
/-- built-in classes -/
def subB (x y : String) : Option Bool :=
  if x = y then some true else if x = "bool" ∧ y = "int" then some true else if ["NoneType", "bool", "int", "str", "list", "tuple", "dict"].contains x ∧ ["bool", "int", "str", "list", "tuple", "dict"].contains y then some false else none
theorem subB_kit {x y : String} {v : Bool} (h : subB x y = some v) : kitB x y = some v := by
  unfold subB at h
  split at h
  · rename_i e
    subst e
    cases h
    unfold kitB
    rw [if_pos (by simp)]
  · split at h
    · rename_i e
      obtain ⟨rfl, rfl⟩ := e
      cases h
      decide +kernel
    · split at h
      · rename_i n1 n2 e
        cases h
        obtain ⟨e1, e2⟩ := e
        simp only [List.contains_eq_mem, decide_eq_true_eq, List.mem_cons, List.not_mem_nil, or_false] at e1 e2
        rcases e1 with rfl | rfl | rfl | rfl | rfl | rfl | rfl <;> rcases e2 with rfl | rfl | rfl | rfl | rfl | rfl <;> first | exact absurd rfl n1 | exact absurd ⟨rfl, rfl⟩ n2 | decide +kernel
      · cases h
section
variable {X : Cx} {G : Gd} {kt : Kt}
theorem tyY_of (k : KtOk G kt) (hK : G.K = X.K) {r : List Addr} {M : List D} {H : Hp} {x : V} {d : D} {t : Ty} (S : StOk G r M H) (h : Rep G r H x d) (e : tyD kt (valD M d) = some t) : TyY X.K H x (tyVal G t) := by
  have ofT : ∀ {a : Addr} {vs : List V}, SqT X.K H a vs → TyX X.K H (.ref a) (.type "tuple") := fun {a vs} hs => by
    rcases hs with (hs | ⟨o, hs⟩) | ⟨o, its, n, h1, h2, _⟩
    · exact .base (.tup hs)
    · exact .fTuple hs
    · exact .kTuple h1 h2
  have ofL : ∀ {a : Addr} {vs : List V}, SqL X.K H a vs → TyX X.K H (.ref a) (.type "list") := fun {a vs} hs => by
    rcases hs with (hs | ⟨o, hs⟩) | ⟨o, its, n, h1, h2, _⟩
    · exact .base (.lst hs)
    · exact .base (.frz hs)
    · exact .kList h1 h2
  have ofI : ∀ {a dx : Addr} {c : Nat} {fs : List (Str × V)}, isEx c = false → H a = some (.ins (G.cls c) dx fs) → (if kt.ok c then some (Ty.o c) else none) = some t → TyX X.K H (.ref a) (tyVal G t) := fun {a dx c fs} hx hs e => by
    by_cases o : kt.ok c = true
    · rw [if_pos o] at e
      cases e
      have z := k.ins c o hx
      rw [hK] at z
      exact .base (.ins hs z.cl z.ha z.hn z.htk z.hm)
    · rw [if_neg o] at e
      cases e
  have ofD : ∀ {a : Addr} {kvs : List (Key × V)}, Rd H a (.dK kvs) → TyX X.K H (.ref a) (.type "dict") := fun h => by
    rcases h with h | ⟨ob, h⟩
    · exact .base (.dK h)
    · exact .fDict h
  cases h with
  | non => cases e; exact .of (.base .non)
  | bl => cases e; exact .of (.base (.bl _))
  | int => cases e; exact .of (.base (.int _))
  | str => cases e; exact .of (.base (.str _))
  | lst h1 _ => cases e; exact .of (.base (.lst (off_some.mp h1).2))
  | scr h1 _ => cases e; exact .of (ofL (hK ▸ sqL_off h1))
  | tup h1 _ => cases e; exact .of (ofT (hK ▸ sqT_off h1))
  | dct h1 _ => cases e; exact .of (ofD (rd_off h1))
  | ins hx h1 _ => exact .of (ofI hx (off_some.mp h1).2 e)
  | exn hx h1 h2 _ =>
    rename_i c dx fs vs a
    have e' : (if kt.ok c then some (Ty.o c) else none) = some t := e
    by_cases o : kt.ok c = true
    · rw [if_pos o] at e'
      cases e'
      exact .exn (off_some.mp h1).2 (off_some.mp h2).2 (hK ▸ k.exc c o hx)
    · rw [if_neg o] at e'; cases e'
  | exn0 hx h1 =>
    rename_i a c
    have e' : (if kt.ok c then some (Ty.o c) else none) = some t := e
    by_cases o : kt.ok c = true
    · rw [if_pos o] at e'
      cases e'
      exact .exn0 (off_some.mp h1).2 (hK ▸ k.exc c o hx)
    · rw [if_neg o] at e'; cases e'
  | fn => cases e
  | cls => cases e
  | ty => cases e
  | cell h1 =>
    rename_i a n
    cases em : M[n]? with
    | none =>
      have ev : valD M (.cell n) = .cell n := by show (match M[n]? with | some o => o | none => D.cell n) = _; rw [em]
      rw [ev] at e
      cases e
    | some o =>
      have ev : valD M (.cell n) = o := by show (match M[n]? with | some o => o | none => D.cell n) = _; rw [em]
      rw [ev] at e
      have q := S.at_ n a _ h1 em
      cases o with
      | lst _ => cases e; obtain ⟨vs, q, _⟩ := q; exact .of (.base (.lst q))
      | dct _ _ => cases e; obtain ⟨vs, q, _⟩ := q; exact .of (.base (.dK q))
      | lck _ _ => cases e; obtain ⟨ob, vs, q, _⟩ := q; exact .of (.fDict q)
      | ins _ _ _ => obtain ⟨dx, fs, q, _, _, hx⟩ := q; exact .of (ofI hx q e)
      | _ => exact q.elim
theorem subAny_kit (k : KtOk G kt) {t : Ty} : ∀ {Ts : List Ty} {b : Bool}, subAny kt t Ts = some b → PySem.W.kitAny G.K (tyVal G t) (Ts.map (tyVal G)) = some b
  | [], b, h => by cases h; rfl
  | c :: Ts, b, h => by
    unfold subAny at h
    show (match PySem.W.kitOne G.K (tyVal G t) (tyVal G c) with | some true => some true | some false => PySem.W.kitAny G.K (tyVal G t) (Ts.map (tyVal G)) | none => none) = some b
    cases e : kt.sub t c with
    | none => rw [e] at h; cases h
    | some v =>
      rw [e] at h
      rw [k.sub t c v e]
      cases v with
      | true => exact h
      | false => exact subAny_kit k h
def isiM (kt : Kt) (Ts : List Ty) (M : List D) (d : D) : Option D := match tyD kt (valD M d) with
  | some t => (subAny kt t Ts).map .bl
  | none => none
def dIsi (kt : Kt) (Ts : List Ty) (a : DE) : DE := fun δ => bnd (a δ) fun x M => optE (isiM kt Ts M x) M
/-- a class as a value -/
def clV (G : Gd) : Ty → V
  | .b n => .ty n
  | .o c => .ref (G.cls c)
theorem clsV (t : Ty) : ClsV (clV G t) (tyVal G t) := by
  cases t with
  | b n => exact .ty n
  | o c => exact .own _
theorem clsVs : ∀ Ts : List Ty, Paired ClsV (Ts.map (clV G)) (Ts.map (tyVal G))
  | [] => .nil
  | t :: Ts => .cons (clsV t) (clsVs Ts)
theorem isi_post {W : WX} {σ : L2.St} {Q : VK} {r : List Addr} {M : List D} {H : Hp} {d : D} {Ts : List Ty} (p : Post G W σ (JE G Q) r H (optE (isiM kt Ts M d) M)) (S : StOk G r M H) :
    ∃ t b, tyD kt (valD M d) = some t ∧ subAny kt t Ts = some b ∧ Q (.bl b) H := by
  unfold isiM at p
  cases e : tyD kt (valD M d) with
  | none => rw [e] at p; exact p.elim
  | some t =>
    rw [e] at p
    cases e2 : subAny kt t Ts with
    | none => simp only [e2] at p; exact p.elim
    | some b =>
      simp only [e2] at p
      exact ⟨t, b, rfl, e2, p r H S.le S _ .bl⟩
theorem SE.isi1 (k : KtOk G kt) (hK : G.K = X.K) {a c : Expr} {p pos : Pos} {ma : DE} {t : Ty} (hg : Gl X "isinstance") (hm : X.mg "isinstance" = none) (ha : SE G X a ma) (hc : PE X c (tC (clV G t)))
    (h1 : starEach [a, c] X.env = (false, eval a X.env) :: starEach [c] X.env) (h2 : starEach [c] X.env = (false, eval c X.env) :: starEach [] X.env) (hpl : (backTo pos (starEach [c] X.env)).any (·.1) = false) : SE G X (.Call (.Name "isinstance" p) [a, c] [] pos) (dIsi kt [t] ma) := by
  refine ⟨?_⟩
  intro W tk δ M σ r H Q S E q
  refine (pe_callB call_isY hg hm (by decide +kernel) (pa_cons (peW a) (pa_cons hc pa_nil h2) h1) (by decide) (by decide) h1 hpl).we ?_
  refine ha.ru W tk δ M σ r H _ S E (q.bnd.imp ?_)
  intro d1 M1 r1 H1 L1 S1 q1 v1 R1
  obtain ⟨t', b, e1, e2, fin⟩ := isi_post q1 S1
  refine ⟨v1, clV G t, _, _, b, rfl, clsV t, tyY_of k hK S1 R1 e1, ?_, fin⟩
  unfold subAny at e2
  cases e : kt.sub t' t with
  | none => rw [e] at e2; cases e2
  | some v =>
    rw [e] at e2
    rw [← hK, k.sub t' t v e]
    cases v with
    | true => exact e2
    | false => exact e2
theorem SE.isiT (k : KtOk G kt) (hK : G.K = X.K) {a : Expr} {cs : List Expr} {p pos p2 : Pos} {x1 : Nat} {ma : DE} {Ts : List Ty} (hg : Gl X "isinstance") (hm : X.mg "isinstance" = none) (ha : SE G X a ma) (hc : PA X cs (fun _ H Q => Q (Ts.map (clV G)) H)) (hz : Ts.length ≤ sizeLine)
    (h1 : starEach [a, .Tuple cs x1 p2] X.env = (false, eval a X.env) :: starEach [.Tuple cs x1 p2] X.env) (h2 : starEach [.Tuple cs x1 p2] X.env = (false, eval (.Tuple cs x1 p2) X.env) :: starEach [] X.env) (hpl : (backTo pos (starEach [.Tuple cs x1 p2] X.env)).any (·.1) = false) :
    SE G X (.Call (.Name "isinstance" p) [a, .Tuple cs x1 p2] [] pos) (dIsi kt Ts ma) := by
  refine ⟨?_⟩
  intro W tk δ M σ r H Q S E q
  refine (pe_callB call_isYT hg hm (by decide +kernel) (pa_cons (peW a) (pa_cons (pe_tup hc) pa_nil h2) h1) (by decide) (by decide) h1 hpl).we ?_
  refine ha.ru W tk δ M σ r H _ S E (q.bnd.imp ?_)
  intro d1 M1 r1 H1 L1 S1 q1 v1 R1
  refine ⟨by rw [List.length_map]; exact hz, fun o ho => ?_⟩
  obtain ⟨L, S'⟩ := S1.new (o := .tup (Ts.map (clV G))) ho
  obtain ⟨t', b, e1, e2, fin⟩ := isi_post (q1.mono L) S'
  exact ⟨v1, o, _, _, _, b, rfl, upd_same, clsVs Ts, tyY_of k hK S' (R1.le L) e1, by rw [← hK]; exact subAny_kit k e2, fin⟩

/-! ### len, abs, int, bool, str -/
def lenM (M : List D) (x : D) : Option D := match valD M x with
  | .str z => if z.length ≤ sizeLine then some (.int (z.length : Nat)) else none
  | _ => match seqD M x with
    | some ds => some (.int (ds.length : Nat))
    | none => none
def lenO : List D → Ev D := fun ds M => match ds with
  | [x] => optE (lenM M x) M
  | _ => .stk
theorem CaS.len (hK : G.K = X.K) : CaS G X (.builtin "len") lenO := by
  intro W tk σ r M H xs ds Q S hs p
  cases hs with
  | nil => exact p.elim
  | cons h hs =>
    cases hs with
    | cons _ _ => exact p.elim
    | nil =>
      rename_i v d
      have p' : Post G W σ (JE G Q) r H (optE (lenM M d) M) := p
      cases e : lenM M d with
      | none => rw [e] at p'; exact p'.elim
      | some z =>
        rw [e] at p'
        have k : ∀ v, Rep G r H v z → Q v H := fun v hv => p' r H S.le S v hv
        unfold lenM at e
        have seqs : (match seqD M d with | some ds => some (D.int (ds.length : Nat)) | none => none) = some z → cW X (.builtin "len") [v] H Q := by
          intro e
          cases es : seqD M d with
          | none => rw [es] at e; cases e
          | some ds =>
            rw [es] at e
            cases e
            obtain ⟨q, vs, rfl, hq, hv⟩ := seq_at S h es
            rw [hK] at hq
            exact call_len_seq.rw ⟨q, vs, rfl, hq, by rw [hv.length]; exact k _ .int⟩
        cases ev : valD M d with
        | str y =>
          rw [ev] at e
          have e2 : (if y.length ≤ sizeLine then some (D.int (y.length : Nat)) else none) = some z := e
          by_cases c : y.length ≤ sizeLine
          · rw [if_pos c] at e2
            cases e2
            have q := val_leaf S h (by rw [ev]; rfl)
            rw [ev] at q
            subst q
            cases h
            exact call_len_str.rw ⟨y, rfl, c, k _ .int⟩
          · rw [if_neg c] at e2; cases e2
        | _ => rw [ev] at e; exact seqs e
def oneO (g : D → Option D) : List D → Ev D := fun ds M => match ds with
  | [x] => optE (g x) M
  | _ => .stk
/-- a call of one value that is told without the cells -/
theorem CaS.one {f : Value} {g : D → Option D} (h : ∀ (r : List Addr) (H : Hp) (x : V) (d z : D) (Q : VK), Rep G r H x d → g d = some z → (∀ v, Rep G r H v z → Q v H) → cW X f [x] H Q) :
    CaS G X f (oneO g) := by
  intro W tk σ r M H xs ds Q S hs p
  cases hs with
  | nil => exact p.elim
  | cons h1 hs =>
    cases hs with
    | cons _ _ => exact p.elim
    | nil =>
      rename_i v d
      have p' : Post G W σ (JE G Q) r H (optE (g d) M) := p
      cases e : g d with
      | none => rw [e] at p'; exact p'.elim
      | some z =>
        rw [e] at p'
        exact h r H v d z Q h1 e fun v' R => p' r H S.le S v' R
def absD : D → Option D
  | .int i => some (.int (if i < 0 then -i else i))
  | _ => none
theorem CaS.abs : CaS G X (.builtin "abs") (oneO absD) := CaS.one fun r H x d z Q h e k => by
  cases h with
  | int => cases e; exact call_abs.rw ⟨_, rfl, k _ .int⟩
  | _ => cases e
def intD : D → Option D
  | .int i => some (.int i)
  | .bl b => some (.int (if b then 1 else 0))
  | _ => none
theorem CaS.int : CaS G X (.type "int") (oneO intD) := CaS.one fun r H x d z Q h e k => by
  cases h with
  | int => cases e; exact call_int1.rw (.inl ⟨_, rfl, k _ .int⟩)
  | bl => cases e; exact call_int1.rw (.inr ⟨_, rfl, k _ .int⟩)
  | _ => cases e
def strD : D → Option D
  | .int i => if i.natAbs.log2 < 1920 then some (.str (toString i)) else none
  | .str x => some (.str x)
  | _ => none
theorem CaS.str : CaS G X (.type "str") (oneO strD) := CaS.one fun r H x d z Q h e k => by
  cases h with
  | int =>
    rename_i i
    have e' : (if i.natAbs.log2 < 1920 then some (D.str (toString i)) else none) = some z := e
    by_cases c : i.natAbs.log2 < 1920
    · rw [if_pos c] at e'; cases e'; exact call_str_int.rw ⟨_, rfl, c, k _ .str⟩
    · rw [if_neg c] at e'; cases e'
  | str => cases e; exact SkE.call_str_str.rw ⟨_, rfl, k _ .str⟩
  | _ => cases e

/-! ### list, tuple -/
def listO : List D → Ev D := fun ds M => match ds with
  | [x] => optE ((seqD M x).map .lst) M
  | _ => .stk
def tupleO : List D → Ev D := fun ds M => match ds with
  | [x] => optE ((seqD M x).map .tup) M
  | _ => .stk
theorem CaS.list (hK : G.K = X.K) : CaS G X (.type "list") listO := by
  intro W tk σ r M H xs ds Q S hs p
  cases hs with
  | nil => exact p.elim
  | cons h hs =>
    cases hs with
    | cons _ _ => exact p.elim
    | nil =>
      rename_i v d
      have p' : Post G W σ (JE G Q) r H (optE ((seqD M d).map .lst) M) := p
      cases es : seqD M d with
      | none => rw [es] at p'; exact p'.elim
      | some ds =>
        rw [es] at p'
        obtain ⟨q, vs, rfl, hq, hv⟩ := seq_at S h es
        rw [hK] at hq
        refine call_list_of.rw ⟨q, vs, rfl, hq, fun o ho => ?_⟩
        obtain ⟨L, S'⟩ := S.new (o := .lst vs) ho
        exact p' r _ L S' _ (.lst (off_new (S.fresh ho)) (hv.le L))
theorem CaS.tuple (hK : G.K = X.K) : CaS G X (.type "tuple") tupleO := by
  intro W tk σ r M H xs ds Q S hs p
  cases hs with
  | nil => exact p.elim
  | cons h hs =>
    cases hs with
    | cons _ _ => exact p.elim
    | nil =>
      rename_i v d
      have p' : Post G W σ (JE G Q) r H (optE ((seqD M d).map .tup) M) := p
      have lst : ∀ {a : Addr} {vs : List V} {ds : List D}, SqL X.K H a vs → Reps G r H vs ds → Post G W σ (JE G Q) r H (optE (some (D.tup ds)) M) → cW X (.type "tuple") [.ref a] H Q := by
        intro a vs ds hq hv p
        refine call_tuple_of.rw ⟨a, vs, rfl, .inl ⟨hq, fun o ho => ?_⟩⟩
        obtain ⟨L, S'⟩ := S.new (o := .tup vs) ho
        exact p r _ L S' _ (.tup (.of (off_new (S.fresh ho))) (hv.le L))
      unfold seqD at p'
      cases ev : valD M d with
      | lst ds =>
        rw [ev] at p'
        obtain ⟨q, vs, rfl, hq, hv⟩ := val_lst S h ev
        exact lst (.of hq) hv p'
      | scr ds =>
        rw [ev] at p'
        obtain ⟨q, vs, rfl, hq, hv⟩ := val_scr S h ev
        exact lst (hK ▸ hq) hv p'
      | tup ds =>
        rw [ev] at p'
        obtain ⟨q, vs, rfl, hq, hv, ed⟩ := val_tup S h ev
        subst ed
        exact call_tuple_of.rw ⟨q, vs, rfl, .inr ⟨hK ▸ hq, p' r H S.le S _ h⟩⟩
      | _ => rw [ev] at p'; exact p'.elim

/-! ### all, any -/
/-- items that are truth values -/
def bools : List D → Option (List Bool)
  | [] => some []
  | .bl b :: ds => (bools ds).map (b :: ·)
  | _ :: _ => none
theorem bools_eq : ∀ {ds : List D} {bs : List Bool}, bools ds = some bs → ds = bs.map D.bl
  | [], _, h => by cases h; rfl
  | .bl b :: ds, bs, h => by
    have h' : (bools ds).map (b :: ·) = some bs := h
    cases e : bools ds with
    | none => rw [e] at h'; cases h'
    | some cs =>
      rw [e] at h'
      cases h'
      rw [bools_eq e]
      rfl
  | .non :: _, _, h => by cases h
  | .int _ :: _, _, h => by cases h
  | .str _ :: _, _, h => by cases h
  | .lst _ :: _, _, h => by cases h
  | .tup _ :: _, _, h => by cases h
  | .dct _ _ :: _, _, h => by cases h
  | .ins _ _ _ :: _, _, h => by cases h
  | .scr _ :: _, _, h => by cases h
  | .cell _ :: _, _, h => by cases h
  | .fn _ :: _, _, h => by cases h
  | .cls _ :: _, _, h => by cases h
  | .ty _ :: _, _, h => by cases h
def boolsL (M : List D) (d : D) : Option (List Bool) := match valD M d with
  | .lst ds => bools ds
  | _ => none
def allO : List D → Ev D := fun ds M => match ds with
  | [x] => optE ((boolsL M x).map fun bs => .bl (bs.all id)) M
  | _ => .stk
def anyO : List D → Ev D := fun ds M => match ds with
  | [x] => optE ((boolsL M x).map fun bs => .bl (bs.any id)) M
  | _ => .stk
theorem boolsL_at {r : List Addr} {M : List D} {H : Hp} {x : V} {d : D} {bs : List Bool} (S : StOk G r M H) (h : Rep G r H x d) (e : boolsL M d = some bs) : ∃ a, x = .ref a ∧ H a = some (.lst (bs.map V.bl)) := by
  unfold boolsL at e
  cases ev : valD M d with
  | lst ds =>
    rw [ev] at e
    obtain ⟨a, vs, e1, e2, e3⟩ := val_lst S h ev
    rw [bools_eq e] at e3
    rw [Reps.of_bls e3] at e2
    exact ⟨a, e1, e2⟩
  | _ => rw [ev] at e; cases e
theorem CaS.all (hc : X.calm = true) : CaS G X (.builtin "all") allO := by
  intro W tk σ r M H xs ds Q S hs p
  cases hs with
  | nil => exact p.elim
  | cons h hs =>
    cases hs with
    | cons _ _ => exact p.elim
    | nil =>
      rename_i v d
      have p' : Post G W σ (JE G Q) r H (optE ((boolsL M d).map fun bs => .bl (bs.all id)) M) := p
      cases es : boolsL M d with
      | none => rw [es] at p'; exact p'.elim
      | some bs =>
        rw [es] at p'
        obtain ⟨a, rfl, e2⟩ := boolsL_at S h es
        exact (cr_all hc).rw ⟨a, bs, rfl, .of e2, p' r H S.le S _ .bl⟩
theorem CaS.any (hc : X.calm = true) : CaS G X (.builtin "any") anyO := by
  intro W tk σ r M H xs ds Q S hs p
  cases hs with
  | nil => exact p.elim
  | cons h hs =>
    cases hs with
    | cons _ _ => exact p.elim
    | nil =>
      rename_i v d
      have p' : Post G W σ (JE G Q) r H (optE ((boolsL M d).map fun bs => .bl (bs.any id)) M) := p
      cases es : boolsL M d with
      | none => rw [es] at p'; exact p'.elim
      | some bs =>
        rw [es] at p'
        obtain ⟨a, rfl, e2⟩ := boolsL_at S h es
        exact (cr_any hc).rw ⟨a, bs, rfl, .of e2, p' r H S.le S _ .bl⟩
end
end Iv
/-! Methods of built-in types; cells that are written. -/
namespace Iv
open PySem PySem.Spec PyProof.Rows L2

section
variable {G : Gd} {r : List Addr} {H : Hp} {M : List D}
def noFz : HO → Bool
  | .frz _ _ => false
  | _ => true
/-- a cell is written -/
theorem StOk.write (S : StOk G r M H) {n : Nat} {a : Addr} {o o0 : HO} {d : D} (hn : r[n]? = some a) (e0 : H a = some o0) (hd : Le r H r (upd H a o) → CellAt G r (upd H a o) a d) (nf : noFz o0 = true := by rfl) : Le r H r (upd H a o) ∧ StOk G r (M.set n d) (upd H a o) := by
  have ha : a ∈ r := List.mem_of_getElem? hn
  have hlt : n < r.length := (List.getElem?_eq_some_iff.mp hn).1
  have l : Le r H r (upd H a o) := ⟨⟨[], by simp, fun _ z => nomatch z⟩, fun b u e hb => by rw [upd_ne (show b ≠ a from fun z => hb (by rw [z]; exact ha))]; exact .inl e, fun b hb => by
    by_cases e : b = a
    · subst e; rw [upd_same]; intro z; cases z
    · rw [upd_ne e]; exact S.there b hb, fun b ob u e => by
    rw [upd_ne (fun z => by subst z; rw [e0] at e; cases e; cases nf)]; exact e⟩
  refine ⟨l, by rw [List.length_set]; exact S.len, S.nd, fun m b o' h1 h2 => ?_, fun b hb => ⟨by
    by_cases e : b = a
    · subst e; rw [upd_same]; intro z; cases z
    · rw [upd_ne e]; exact (S.hid b hb).1, (S.hid b hb).2⟩⟩
  by_cases e : n = m
  · subst e
    rw [hn] at h1
    cases h1
    rw [List.getElem?_set_self (by rw [← S.len]; exact hlt)] at h2
    cases h2
    exact hd l
  · rw [List.getElem?_set_ne e] at h2
    have hne : b ≠ a := fun z => by
      subst z
      have h3 : m < r.length := (List.getElem?_eq_some_iff.mp h1).1
      rw [List.getElem?_eq_getElem hlt] at hn
      rw [List.getElem?_eq_getElem h3] at h1
      have q : r[n] = r[m] := by rw [Option.some.inj hn, Option.some.inj h1]
      exact e ((List.getElem_inj S.nd).mp q)
    exact (S.at_ m b o' h1 h2).le l (upd_ne hne)
/-- a list that is a cell -/
theorem cell_lst (S : StOk G r M H) {v : V} {n : Nat} {ds : List D} (h : Rep G r H v (.cell n)) (e : M[n]? = some (.lst ds)) : ∃ a vs, v = .ref a ∧ r[n]? = some a ∧ H a = some (.lst vs) ∧ Reps G r H vs ds := by
  cases h with
  | cell h1 =>
    obtain ⟨vs, q1, q2⟩ := S.at_ _ _ _ h1 e
    exact ⟨_, vs, rfl, h1, q1, q2⟩
end

section
variable {X : Cx} {G : Gd}
def mW (X : Cx) (id : String) (σ : L2.St) : V → List V → Hp → VK → Prop := fun x xs H Q => ∀ (pins : List (Addr × Obj)) (s : Shared) (v : Value) (us : List Value), Inv X pins σ H s → RelV x v → Vals xs us → wpAny (model X.prog X.w) X.A (call (.builtin id) (v :: us)) (EP X pins σ Q) X.xe s
theorem _root_.L2.MtR.mw {id : String} {rr : V → List V → Hp → VK → Prop} (h : MtR X id rr) {σ : L2.St} {x : V} {xs : List V} {H : Hp} {Q : VK} (q : rr x xs H Q) : mW X id σ x xs H Q := fun pins s v us I rx rs => h pins s σ H x xs v us Q I rx rs q
theorem _root_.L2.MtM.mw {id : String} {rr : V → List V → Hp → VK → Prop} (h : MtM X id rr) {σ : L2.St} {x : V} {xs : List V} {H : Hp} {Q : VK} (q : rr x xs H Q) : mW X id σ x xs H Q := fun pins s v us I rx rs => h pins s σ H x xs v us Q I rx rs q
def MtS (G : Gd) (X : Cx) (id : String) (g : D → List D → Ev D) : Prop := ∀ (W : WX), Takes X W → ∀ (σ : L2.St) (r : List Addr) (M : List D) (H : Hp) (x : V) (xs : List V) (d : D) (ds : List D) (Q : VK),
  StOk G r M H → Rep G r H x d → Reps G r H xs ds → Post G W σ (JE G Q) r H (g d ds M) → mW X id σ x xs H Q
def TyS (G : Gd) (X : Cx) (T : String) (ty : List D → D → Bool) : Prop := ∀ (r : List Addr) (M : List D) (H : Hp) (x : V) (d : D), StOk G r M H → Rep G r H x d → ty M d = true → tyV X.K T x H
/-- o.m(..) of a built-in type -/
def dMth (ty : List D → D → Bool) (g : D → List D → Ev D) (a : DE) (as : DA) : DE := fun δ => bnd (a δ) fun x => fun M => if ty M x then bnd (as δ) (g x) M else .stk
theorem SE.mth {o e : Expr} {es : List Expr} {name : Str} {apos cpos : Pos} {T id : String} {ty : List D → D → Bool} {g : D → List D → Ev D} {ma : DE} {ms : DA} (pa : PlainAttrs T) (slot : Slot T name id) (hty : typeOf (.builtin id) = pure (.type "method_descriptor"))
    (ht : TyS G X T ty) (hm : MtS G X id g) (ho : SE G X o ma) (ha : SA G X (e :: es) ms)
    (hbase : attributeBase o name X.env (eval o X.env) = eval o X.env)
    (hfew : ((backTo cpos (starEach (e :: es) X.env)).all (fun x => !x.1) && (backToKw cpos (keywordEach [] X.env)).all (fun x => x.1.isSome) && decide ((e :: es).length + ([] : List Keyword).length + (if ([] : List Keyword).isEmpty then 0 else 1) < 30)) = true)
    (hline : (apos.endLine == cpos.line) = true) (hs : starEach (e :: es) X.env = (false, eval e X.env) :: starEach es X.env) (hplain : (backTo cpos (starEach es X.env)).any (·.1) = false) :
    SE G X (.Call (.Attribute o name apos) (e :: es) [] cpos) (dMth ty g ma ms) := by
  refine ⟨?_⟩
  intro W tk δ M σ r H Q S E p
  intro pins s I
  have hh : WE X o σ H fun x H1 => tyV X.K T x H1 ∧ WA X (e :: es) σ H1 fun xs H2 => mW X id σ x xs H2 Q := by
    refine ho.ru W tk δ M σ r H _ S E (p.bnd.imp ?_)
    intro d1 M1 r1 H1 L1 S1 h1 v1 R1
    by_cases c : ty M1 d1 = true
    · simp only [c, if_true] at h1
      refine ⟨ht r1 M1 H1 v1 d1 S1 R1 c, ?_⟩
      refine ha.ru W tk δ M1 σ r1 H1 _ S1 (E.le L1) (h1.bnd.imp ?_)
      intro ds M2 r2 H2 L2 S2 h2 vs Rs
      exact hm W tk σ r2 M2 H2 v1 vs d1 ds Q S2 (R1.le L2) Rs h2
    · simp [c] at h1
      exact h1.elim
  refine wpAny_Call_method_late hbase hfew hline rfl (thn (hh pins s I) fun v s1 ⟨x, H1, I1, r1, t1, q1⟩ => ?_)
  obtain ⟨h1, h2⟩ := tyV_is I1 r1 t1
  refine ⟨T, id, pa, slot, hty, h1, h2, ?_⟩
  have hA := q1 cpos pins s1 I1
  rw [hs] at hA ⊢
  refine Calls.callWith_builtin (by show (false || (backTo cpos (starEach es X.env)).any (·.1)) = false; rw [hplain] <;> rfl) (Calls.evalArgs_plain ?_)
  exact thn hA fun us s2 ⟨vs, H2, I2, r2, q2⟩ => q2 pins s2 v us I2 r1 r2
theorem SE.mth0 {o : Expr} {name : Str} {apos cpos : Pos} {T id : String} {ty : List D → D → Bool} {g : D → List D → Ev D} {ma : DE} (pa : PlainAttrs T) (slot : Slot T name id) (hty : typeOf (.builtin id) = pure (.type "method_descriptor"))
    (ht : TyS G X T ty) (hm : MtS G X id g) (ho : SE G X o ma) (hbase : attributeBase o name X.env (eval o X.env) = eval o X.env) (hline : (apos.endLine == cpos.line) = true) : SE G X (.Call (.Attribute o name apos) [] [] cpos) (dMth ty g ma dNil) := by
  refine ⟨?_⟩
  intro W tk δ M σ r H Q S E p
  intro pins s I
  have hh : WE X o σ H fun x H1 => tyV X.K T x H1 ∧ mW X id σ x [] H1 Q := by
    refine ho.ru W tk δ M σ r H _ S E (p.bnd.imp ?_)
    intro d1 M1 r1 H1 L1 S1 h1 v1 R1
    by_cases c : ty M1 d1 = true
    · simp only [c, if_true] at h1
      exact ⟨ht r1 M1 H1 v1 d1 S1 R1 c, hm W tk σ r1 M1 H1 v1 [] d1 [] Q S1 R1 .nil h1⟩
    · simp [c] at h1
      exact h1.elim
  refine wpAny_Call_method0_late hbase hline (thn (hh pins s I) fun v s1 ⟨x, H1, I1, r1, t1, q1⟩ => ?_)
  obtain ⟨h1, h2⟩ := tyV_is I1 r1 t1
  exact ⟨T, id, pa, slot, hty, h1, h2, Calls.callWith_builtin rfl (PySem.evalArgs_none (q1 pins s1 v [] I1 r1 .nil))⟩

/-! ### which type -/
def isStrD (M : List D) (d : D) : Bool := match valD M d with
  | .str _ => true
  | _ => false
def isListD (M : List D) (d : D) : Bool := match valD M d with
  | .lst _ => true
  | .scr _ => true
  | _ => false
theorem TyS.str : TyS G X "str" isStrD := by
  intro r M H x d S h e
  unfold isStrD at e
  cases ev : valD M d with
  | str y =>
    have q := val_leaf S h (by rw [ev]; rfl)
    rw [ev] at q
    subst q
    cases h
    exact rfl
  | _ => rw [ev] at e; cases e
theorem TyS.list (hK : G.K = X.K) : TyS G X "list" isListD := by
  intro r M H x d S h e
  unfold isListD at e
  cases ev : valD M d with
  | lst ds => obtain ⟨a, vs, rfl, hq, _⟩ := val_lst S h ev; exact .inl ⟨rfl, vs, .of hq⟩
  | scr ds => obtain ⟨a, vs, rfl, hq, _⟩ := val_scr S h ev; exact .inl ⟨rfl, vs, hK ▸ hq⟩
  | _ => rw [ev] at e; cases e

/-! ### texts -/
def splitO : D → List D → Ev D := fun x ds M => match x, ds with
  | .str a, [.str b] => if (b.length == 0) = false ∧ a.length + 2 ≤ sizeLine then .ok (.lst ((Txt.split a b).map .str)) M else .stk
  | _, _ => .stk
theorem MtS.split : MtS G X "str.split" splitO := by
  intro W tk σ r M H x xs d ds Q S h hs p
  cases h with
  | str =>
    rename_i a
    cases hs with
    | nil => exact p.elim
    | cons h2 hs2 =>
      cases hs2 with
      | cons _ _ => cases h2 <;> exact p.elim
      | nil =>
        cases h2 with
        | str =>
          rename_i b
          have p' : Post G W σ (JE G Q) r H (if (b.length == 0) = false ∧ a.length + 2 ≤ sizeLine then .ok (.lst ((Txt.split a b).map .str)) M else .stk) := p
          by_cases c : (b.length == 0) = false ∧ a.length + 2 ≤ sizeLine
          · rw [if_pos c] at p'
            refine mt_split.mw ⟨a, b, rfl, rfl, c.1, c.2, fun o ho => ?_⟩
            obtain ⟨L, S'⟩ := S.new (o := .lst ((Txt.split a b).map V.str)) ho
            exact p' r _ L S' _ (.lst (off_new (S.fresh ho)) (Reps.strs rfl))
          · rw [if_neg c] at p'
            exact p'.elim
        | _ => exact p.elim
  | _ => exact p.elim
/-- items that are texts -/
def strsD : List D → Option (List Str)
  | [] => some []
  | .str x :: ds => (strsD ds).map (x :: ·)
  | _ :: _ => none
theorem strsD_eq : ∀ {ds : List D} {xs : List Str}, strsD ds = some xs → ds = xs.map D.str
  | [], _, h => by cases h; rfl
  | .str b :: ds, bs, h => by
    have h' : (strsD ds).map (b :: ·) = some bs := h
    cases e : strsD ds with
    | none => rw [e] at h'; cases h'
    | some cs =>
      rw [e] at h'
      cases h'
      rw [strsD_eq e]
      rfl
  | .non :: _, _, h => by cases h
  | .int _ :: _, _, h => by cases h
  | .bl _ :: _, _, h => by cases h
  | .lst _ :: _, _, h => by cases h
  | .tup _ :: _, _, h => by cases h
  | .dct _ _ :: _, _, h => by cases h
  | .ins _ _ _ :: _, _, h => by cases h
  | .scr _ :: _, _, h => by cases h
  | .cell _ :: _, _, h => by cases h
  | .fn _ :: _, _, h => by cases h
  | .cls _ :: _, _, h => by cases h
  | .ty _ :: _, _, h => by cases h
def joinM (M : List D) (a : Str) (d : D) : Option D := match seqD M d with
  | some ds => match strsD ds with
    | some ys => if (ys.map (·.length)).sum + ys.length * a.length ≤ 16777216 then some (.str (Txt.join a ys)) else none
    | none => none
  | none => none
def joinO : D → List D → Ev D := fun x ds M => match x, ds with
  | .str a, [d] => optE (joinM M a d) M
  | _, _ => .stk
theorem MtS.join (hK : G.K = X.K) : MtS G X "str.join" joinO := by
  intro W tk σ r M H x xs d ds Q S h hs p
  cases h with
  | str =>
    rename_i a
    cases hs with
    | nil => exact p.elim
    | cons h2 hs2 =>
      cases hs2 with
      | cons _ _ => exact p.elim
      | nil =>
        rename_i v d'
        have p' : Post G W σ (JE G Q) r H (optE (joinM M a d') M) := p
        unfold joinM at p'
        cases e : seqD M d' with
        | none => rw [e] at p'; exact p'.elim
        | some ds =>
          simp only [e] at p'
          cases e2 : strsD ds with
          | none => simp only [e2] at p'; exact p'.elim
          | some ys =>
            simp only [e2] at p'
            obtain ⟨q, vs, rfl, hq, hv⟩ := seq_at S h2 e
            rw [strsD_eq e2] at hv
            rw [hK, Reps.of_strs hv] at hq
            by_cases c : (ys.map (·.length)).sum + ys.length * a.length ≤ 16777216
            · rw [if_pos c] at p'
              exact mt_join.mw ⟨a, q, ys, rfl, rfl, hq, c, p' r H S.le S _ .str⟩
            · rw [if_neg c] at p'
              exact p'.elim
  | _ => exact p.elim

/-! ### lists that are cells -/
def appendO : D → List D → Ev D := fun x ds M => match x, ds with
  | .cell n, [d] => match M[n]? with
    | some (.lst xs) => if xs.length < sizeLine then .ok .non (M.set n (.lst (xs ++ [d]))) else .stk
    | _ => .stk
  | _, _ => .stk
theorem MtS.append : MtS G X "list.append" appendO := by
  intro W tk σ r M H x xs d ds Q S h hs p
  cases d with
  | cell n =>
    cases hs with
    | nil => exact p.elim
    | cons h2 hs2 =>
      cases hs2 with
      | cons _ _ => exact p.elim
      | nil =>
        rename_i v d'
        cases em : M[n]? with
        | none => simp only [appendO, em] at p; exact p.elim
        | some o =>
          cases o with
          | lst ds =>
            simp only [appendO, em] at p
            obtain ⟨a, vs, rfl, hn, ha, hv⟩ := cell_lst S h em
            by_cases c : ds.length < sizeLine
            · rw [if_pos c] at p
              refine mt_append.mw ⟨a, vs, v, rfl, rfl, ha, by rw [hv.length]; exact c, ?_⟩
              obtain ⟨L, S'⟩ := S.write (o := .lst (vs ++ [v])) (d := .lst (ds ++ [d'])) hn ha fun L => ⟨_, upd_same, (hv.le L).append (.cons (h2.le L) .nil)⟩
              exact p r _ L S' _ .non
            · rw [if_neg c] at p
              exact p.elim
          | _ => simp only [appendO, em] at p; exact p.elim
  | _ => exact p.elim
end
end Iv
/-! Statements; the end of a def; a def's promise and its call. -/
namespace Iv
open PySem PySem.Spec PyProof.Rows L2

/-! ### statements -/
/-- how a statement ends -/
inductive Fl where
  | nx (δ : DEnv) | rt (d : D) | bk (δ : DEnv) | ct (δ : DEnv) | ex (δ : DEnv) (e : D)
abbrev DS := DEnv → Ev Fl
abbrev DG := D → DEnv → Ev DEnv
/-- an expression within a statement -/
def lft {α : Type} (x : Ev α) (δ : DEnv) (f : α → Ev Fl) : Ev Fl := fun M => match x M with
  | .ok a M' => f a M'
  | .exc e M' => .ok (.ex δ e) M'
  | .stk => .stk
def WF : WX := fun _ _ _ _ => False
/-- what is wanted of a statement's end -/
def JS (G : Gd) (W : WX) (E : Ends) : Fl → List D → List Addr → Hp → Prop
  | .nx δ, _, r, H => ∀ σ, EnvOk G r H σ δ → E.nx σ H
  | .rt d, _, r, H => ∀ v, Rep G r H v d → E.rt v H
  | .bk δ, _, r, H => ∀ σ, EnvOk G r H σ δ → E.bk σ H
  | .ct δ, _, r, H => ∀ σ, EnvOk G r H σ δ → E.ct σ H
  | .ex δ e, _, r, H => ∀ σ cls dd, EnvOk G r H σ δ → ExcRep G r H cls dd e → W cls dd σ H
abbrev PostS (G : Gd) (W : WX) (E : Ends) (r : List Addr) (H : Hp) (x : R Fl) : Prop := Post G WF [] (JS G W E) r H x
section
variable {G : Gd} {W : WX} {σ : L2.St} {E : Ends} {r : List Addr} {H : Hp} {M : List D} {δ : DEnv}
/-- the same, what follows as it is wanted from an earlier heap on -/
theorem Post.lftB {α : Type} {m : Ev α} {f : α → Ev Fl} {r0 : List Addr} {H0 : Hp} (L : Le r0 H0 r H) (he : EnvOk G r H σ δ) (p : PostS G W E r0 H0 (lft m δ f M)) : Post G W σ (fun a M1 _ _ => PostS G W E r0 H0 (f a M1)) r H (m M) := by
  unfold Iv.lft at p
  cases e : m M with
  | ok a M' =>
    rw [e] at p
    exact fun r' H' l S => p
  | exc d M' =>
    rw [e] at p
    exact fun c dd r' H' l S q => p r' H' (L.trans l) S σ c dd (he.le l) q
  | stk =>
    rw [e] at p
    exact p
theorem Post.bndB {α β : Type} {J : β → List D → List Addr → Hp → Prop} {m : Ev α} {f : α → Ev β} {r0 : List Addr} {H0 : Hp} (L : Le r0 H0 r H) (p : Post G W σ J r0 H0 (Iv.bnd m f M)) :
    Post G W σ (fun a M1 _ _ => Post G W σ J r0 H0 (f a M1)) r H (m M) := by
  unfold Iv.bnd at p
  cases e : m M with
  | ok a M' =>
    rw [e] at p
    exact fun r' H' l S => p
  | exc e' M' =>
    rw [e] at p
    exact fun c d r' H' l S e => p c d r' H' (L.trans l) S e
  | stk =>
    rw [e] at p
    exact p
theorem Post.lft {α : Type} {m : Ev α} {f : α → Ev Fl} (he : EnvOk G r H σ δ) (p : PostS G W E r H (lft m δ f M)) : Post G W σ (fun a M1 r1 H1 => PostS G W E r1 H1 (f a M1)) r H (m M) := by
  unfold Iv.lft at p
  cases e : m M with
  | ok a M' =>
    rw [e] at p
    exact fun r' H' l S => p.mono l
  | exc d M' =>
    rw [e] at p
    exact fun c dd r' H' l S q => p r' H' l S σ c dd (he.le l) q
  | stk =>
    rw [e] at p
    exact p
end
section
variable {X : Cx}
def WS (X : Cx) (st : Stmt) (σ : L2.St) (H : Hp) (E : Ends) : Prop := ∀ (pins : List (Addr × Obj)) (s : Shared), Inv X pins σ H s → wpAny (model X.prog X.w) X.A (exec st X.env) (SP X pins E) X.xe s
def WSs (X : Cx) (sts : List Stmt) (σ : L2.St) (H : Hp) (E : Ends) : Prop := ∀ (pins : List (Addr × Obj)) (s : Shared), Inv X pins σ H s → wpAny (model X.prog X.w) X.A (execs sts X.env) (SP X pins E) X.xe s
def WG (X : Cx) (tg : Expr) (v : V) (σ : L2.St) (H : Hp) (Q : L2.St → Hp → Prop) : Prop := ∀ (pins : List (Addr × Obj)) (s : Shared) (u : Value), Inv X pins σ H s → RelV v u →
  wpAny (model X.prog X.w) X.A (assign tg X.env u) (fun _ s' => ∃ σ' H', Inv X pins σ' H' s' ∧ Q σ' H') X.xe s
theorem psW (st : Stmt) : PS X st (fun E σ H => WS X st σ H E) := ⟨fun pins s _ _ _ I h => h pins s I⟩
theorem pssW (sts : List Stmt) : PSs X sts (fun E σ H => WSs X sts σ H E) := ⟨fun pins s _ _ _ I h => h pins s I⟩
theorem pgW (tg : Expr) : PG X tg (WG X tg) := ⟨fun pins s _ _ _ u _ I rv h => h pins s u I rv⟩
theorem _root_.L2.PS.ws {st : Stmt} {t : TS} (h : PS X st t) {σ : L2.St} {H : Hp} {E : Ends} (q : t E σ H) : WS X st σ H E := fun pins s I => h.run pins s σ H E I q
theorem _root_.L2.PSs.wss {sts : List Stmt} {t : TS} (h : PSs X sts t) {σ : L2.St} {H : Hp} {E : Ends} (q : t E σ H) : WSs X sts σ H E := fun pins s I => h.run pins s σ H E I q
theorem _root_.L2.PG.wg {tg : Expr} {t : TG} (h : PG X tg t) {v : V} {σ : L2.St} {H : Hp} {Q : L2.St → Hp → Prop} (q : t v σ H Q) : WG X tg v σ H Q := fun pins s u I rv => h.run pins s σ H v u Q I rv q
end
structure SS (G : Gd) (X : Cx) (st : Stmt) (m : DS) : Prop where
  ru : ∀ (W : WX), Takes X W → ∀ (δ : DEnv) (M : List D) (σ : L2.St) (r : List Addr) (H : Hp) (E : Ends),
  StOk G r M H → EnvOk G r H σ δ → PostS G W E r H (m δ M) → WS X st σ H E
structure SSs (G : Gd) (X : Cx) (sts : List Stmt) (m : DS) : Prop where
  ru : ∀ (W : WX), Takes X W → ∀ (δ : DEnv) (M : List D) (σ : L2.St) (r : List Addr) (H : Hp) (E : Ends),
  StOk G r M H → EnvOk G r H σ δ → PostS G W E r H (m δ M) → WSs X sts σ H E
structure SG (G : Gd) (X : Cx) (tg : Expr) (m : DG) : Prop where
  ru : ∀ (W : WX), Takes X W → ∀ (d : D) (v : V) (δ : DEnv) (M : List D) (σ : L2.St) (r : List Addr) (H : Hp) (Q : L2.St → Hp → Prop),
  StOk G r M H → Rep G r H v d → EnvOk G r H σ δ → Post G W σ (fun δ' _ r' H' => ∀ σ', EnvOk G r' H' σ' δ' → Q σ' H') r H (m d δ M) → WG X tg v σ H Q
def dNext : DS := fun δ => ret (.nx δ)
def dSeq (a b : DS) : DS := fun δ => bnd (a δ) fun f => match f with
  | .nx δ' => b δ'
  | x => ret x
section
variable {G : Gd} {X : Cx}
theorem SSs.nil : SSs G X [] dNext := ⟨fun W tk δ M σ r H E S e p => pss_nil.wss (p r H S.le S σ e)⟩
theorem SSs.cons {st : Stmt} {sts : List Stmt} {a b : DS} (ha : SS G X st a) (hb : SSs G X sts b) : SSs G X (st :: sts) (dSeq a b) := by
  refine ⟨?_⟩
  intro W tk δ M σ r H E S e p
  refine (pss_cons (psW st) (pssW sts)).wss ?_
  refine ha.ru W tk δ M σ r H _ S e (Post.imp p.bnd ?_)
  intro f M1 r1 H1 L1 S1 h1
  cases f with
  | nx δ' => exact fun σ' e' => hb.ru W tk δ' M1 σ' r1 H1 E S1 e' h1
  | rt d => exact h1 r1 H1 S1.le S1
  | bk δ' => exact h1 r1 H1 S1.le S1
  | ct δ' => exact h1 r1 H1 S1.le S1
  | ex δ' d => exact h1 r1 H1 S1.le S1
theorem SSs.one {st : Stmt} {a : DS} (ha : SS G X st a) : SSs G X [st] a := ⟨fun W tk δ M σ r H E S e p => (pss_one (psW st)).wss (ha.ru W tk δ M σ r H E S e p)⟩
theorem SS.pass {pos : Pos} : SS G X (.Pass pos) dNext := ⟨fun W tk δ M σ r H E S e p => ps_pass.ws (p r H S.le S σ e)⟩
theorem SS.brk {pos : Pos} : SS G X (.Break pos) (fun δ => ret (.bk δ)) := ⟨fun W tk δ M σ r H E S e p => ps_break.ws (p r H S.le S σ e)⟩
theorem SS.cont {pos : Pos} : SS G X (.Continue pos) (fun δ => ret (.ct δ)) := ⟨fun W tk δ M σ r H E S e p => ps_continue.ws (p r H S.le S σ e)⟩
theorem SS.doc {x : Str} {j : Nat} {pos pos' : Pos} : SS G X (.Expr (.Constant (.str x) j pos) pos') dNext := ⟨fun W tk δ M σ r H E S e p => ps_doc.ws (p r H S.le S σ e)⟩
def dDrop (a : DE) : DS := fun δ => lft (a δ) δ fun _ => ret (.nx δ)
theorem SS.expr {e : Expr} {pos : Pos} {a : DE} (ha : SE G X e a) (hs : swapsWith e none pos.line X.env = pure false) : SS G X (.Expr e pos) (dDrop a) := by
  refine ⟨?_⟩
  intro W tk δ M σ r H E S e p
  refine (ps_expr (peW _) hs).ws ?_
  refine ha.ru W tk δ M σ r H _ S e ((p.lft e).imp ?_)
  intro d M1 r1 H1 L1 S1 h1 v Rv
  exact h1 r1 H1 S1.le S1 σ (e.le L1)
def dRet (a : DE) : DS := fun δ => lft (a δ) δ fun d => ret (.rt d)
theorem SS.ret {e : Expr} {pos : Pos} {a : DE} (ha : SE G X e a) : SS G X (.Return (some e) pos) (dRet a) := by
  refine ⟨?_⟩
  intro W tk δ M σ r H E S e p
  refine (ps_ret (peW _)).ws ?_
  refine ha.ru W tk δ M σ r H _ S e ((p.lft e).imp ?_)
  intro d M1 r1 H1 L1 S1 h1 v Rv
  exact h1 r1 H1 S1.le S1 v Rv
theorem SS.retN {pos : Pos} : SS G X (.Return none pos) (fun _ => Iv.ret (.rt .non)) := ⟨fun W tk δ M σ r H E S e p => ps_retN.ws (p r H S.le S _ .non)⟩
def dIf (c : DT) (a b : DS) : DS := fun δ => lft (c δ) δ fun k => if k then a δ else b δ
theorem SS.if_ {c : Expr} {p q : List Stmt} {pos : Pos} {mc : DT} {ma mb : DS} (hc : ST G X c mc) (ha : SSs G X p ma) (hb : SSs G X q mb) : SS G X (.If c p q pos) (dIf mc ma mb) := by
  refine ⟨?_⟩
  intro W tk δ M σ r H E S e p
  refine (ps_if (ptW c) (pssW _) (pssW _)).ws ?_
  refine hc.ru W tk δ M σ r H _ S e ((p.lft e).imp ?_)
  intro k M1 r1 H1 L1 S1 h1
  cases k with
  | true => refine iteT ?_; exact ha.ru W tk δ M1 σ r1 H1 E S1 (e.le L1) h1
  | false => refine iteF ?_; exact hb.ru W tk δ M1 σ r1 H1 E S1 (e.le L1) h1

/-! ### stores -/
def gVar (i : Nat) : DG := fun d δ => Iv.ret (δ.set i (some d))
theorem SG.name {i : Nat} {x : Str} {pos : Pos} (hN : X.N.Nodup) (hi : X.N[i]? = some x) (hx : Loc X.env.scope x) (hf : X.fn x = true ∨ X.env.scope.names.lookup x = some .local) : SG G X (.Name x pos) (gVar i) := by
  refine ⟨?_⟩
  intro W tk d v δ M σ r H Q S Rv e p
  exact (pg_name hN hi hx hf).wg (p r H S.le S _ (e.set Rv))
def dAsg (a : DE) (g : DG) : DS := fun δ => lft (a δ) δ fun d => lft (g d δ) δ fun δ' => Iv.ret (.nx δ')
theorem SS.asg {tg e : Expr} {pos : Pos} {a : DE} {g : DG} (ha : SE G X e a) (hg : SG G X tg g) (hs : swapsWithSole [tg] e pos.line X.env = pure false) (hw : swappedStores [tg] e X.env = pure none) (h1 : (assignEach [tg] X.env).map (·.2) = [assign tg X.env]) : SS G X (.Assign [tg] e pos) (dAsg a g) := by
  refine ⟨?_⟩
  intro W tk δ M σ r H E S e p
  refine (ps_asg (peW _) (pgW tg) hs hw h1).ws ?_
  refine ha.ru W tk δ M σ r H _ S e ((p.lft e).imp ?_)
  intro d M1 r1 H1 L1 S1 h1 v Rv
  refine hg.ru W tk d v δ M1 σ r1 H1 _ S1 Rv (e.le L1) ((h1.lft (e.le L1)).imp ?_)
  intro δ' M2 r2 H2 L2 S2 h2 σ' e'
  exact h2 r2 H2 S2.le S2 σ' e'
/-- several names at once, the values in turn -/
def setAll : List Nat → List D → DEnv → Option DEnv
  | [], [], δ => some δ
  | i :: is, d :: ds, δ => setAll is ds (δ.set i (some d))
  | _, _, _ => none
def dPar (is : List Nat) (a : DA) : DS := fun δ => lft (a δ) δ fun ds => match setAll is ds δ with
  | some δ' => Iv.ret (.nx δ')
  | none => stuck
theorem SS.par2 {i j : Nat} {x y : Str} {a b : Expr} {m : DA} {px py pt pos : Pos} {kt k2 : Nat} {pt2 : Pos} (hc : X.calm = true) (hN : X.N.Nodup) (hi : X.N[i]? = some x) (hj : X.N[j]? = some y) (hij : i ≠ j)
    (hx : X.env.scope.names.lookup x = some .local) (hy : X.env.scope.names.lookup y = some .local) (ha : SA G X [a, b] m) (hw : swappedStores [.Tuple [.Name x px, .Name y py] kt pt] (.Tuple [a, b] k2 pt2) X.env = pure (some [x, y]))
    (hs : swapsWithSole [.Tuple [.Name x px, .Name y py] kt pt] (.Tuple [a, b] k2 pt2) pos.line X.env = pure false) : SS G X (.Assign [.Tuple [.Name x px, .Name y py] kt pt] (.Tuple [a, b] k2 pt2) pos) (dPar [i, j] m) := by
  refine ⟨?_⟩
  intro W tk δ M σ r H E S e p
  refine (ps_par hc hN hi hj hij hx hy (paW _) hw hs).ws ?_
  refine ha.ru W tk δ M σ r H _ S e ((p.lft e).imp ?_)
  intro ds M1 r1 H1 L1 S1 h1 vs Rs
  match ds, vs, Rs, h1 with
  | [d1, d2], [v1, v2], .cons R1 (.cons R2 .nil), h1 => exact ⟨v1, v2, rfl, h1 r1 H1 S1.le S1 _ (((e.le L1).set R1).set R2)⟩
  | [], _, _, h1 => exact h1.elim
  | [_], _, _, h1 => exact h1.elim
  | _ :: _ :: _ :: _, _, _, h1 => exact h1.elim
theorem SS.par3 {i j l : Nat} {x y z : Str} {a b c : Expr} {m : DA} {px py pz pt pos : Pos} {kt k2 : Nat} {pt2 : Pos} (hc : X.calm = true) (hN : X.N.Nodup) (hi : X.N[i]? = some x) (hj : X.N[j]? = some y) (hl : X.N[l]? = some z) (hij : i ≠ j) (hil : i ≠ l) (hjl : j ≠ l)
    (hx : X.env.scope.names.lookup x = some .local) (hy : X.env.scope.names.lookup y = some .local) (hz : X.env.scope.names.lookup z = some .local) (ha : SA G X [a, b, c] m)
    (hw : swappedStores [.Tuple [.Name x px, .Name y py, .Name z pz] kt pt] (.Tuple [a, b, c] k2 pt2) X.env = pure (some [x, y, z]))
    (hs : swapsWithSole [.Tuple [.Name x px, .Name y py, .Name z pz] kt pt] (.Tuple [a, b, c] k2 pt2) pos.line X.env = pure false) :
    SS G X (.Assign [.Tuple [.Name x px, .Name y py, .Name z pz] kt pt] (.Tuple [a, b, c] k2 pt2) pos) (dPar [i, j, l] m) := by
  refine ⟨?_⟩
  intro W tk δ M σ r H E S e p
  refine (ps_par3 hc hN hi hj hl hij hil hjl hx hy hz (paW _) hw hs).ws ?_
  refine ha.ru W tk δ M σ r H _ S e ((p.lft e).imp ?_)
  intro ds M1 r1 H1 L1 S1 h1 vs Rs
  match ds, vs, Rs, h1 with
  | [d1, d2, d3], [v1, v2, v3], .cons R1 (.cons R2 (.cons R3 .nil)), h1 => exact ⟨v1, v2, v3, rfl, h1 r1 H1 S1.le S1 _ ((((e.le L1).set R1).set R2).set R3)⟩
  | [], _, _, h1 => exact h1.elim
  | [_], _, _, h1 => exact h1.elim
  | [_, _], _, _, h1 => exact h1.elim
  | _ :: _ :: _ :: _ :: _, _, _, h1 => exact h1.elim
end
end Iv
/-! The end of a def, its promise, its call. -/
namespace Iv
open PySem PySem.Spec PyProof.Rows L2

/-! ### own cells go -/
mutual
/-- no cell from n on -/
def low (n : Nat) : D → Bool
  | .cell c => decide (c < n)
  | .lst xs => lows n xs
  | .tup xs => lows n xs
  | .scr xs => lows n xs
  | .dct _ vs => lows n vs
  | .lck _ vs => lows n vs
  | .ins _ _ vs => lows n vs
  | _ => true
def lows (n : Nat) : List D → Bool
  | [] => true
  | d :: ds => low n d && lows n ds
end
/-- the contents of the cells from n on, by value -/
def frzs (M : List D) (n : Nat) : Nat → List D → Option (List D)
  | 0, ds => if lows n ds then some ds else none
  | k + 1, ds => if lows n ds then some ds else match ds with
    | [] => some []
    | d :: r => match frzs M n k r with
      | none => none
      | some r' => match d with
        | .cell c => if c < n then some (d :: r') else match M[c]? with
          | some (.lst xs) => (frzs M n k xs).map fun ys => .lst ys :: r'
          | some (.dct ks xs) => (frzs M n k xs).map fun ys => .dct ks ys :: r'
          | some (.lck ks xs) => (frzs M n k xs).map fun ys => .dct ks ys :: r'
          | some (.ins i ns xs) => (frzs M n k xs).map fun ys => .ins i ns ys :: r'
          | _ => none
        | .lst xs => (frzs M n k xs).map fun ys => .lst ys :: r'
        | .tup xs => (frzs M n k xs).map fun ys => .tup ys :: r'
        | .dct ks xs => (frzs M n k xs).map fun ys => .dct ks ys :: r'
        | .ins i ns xs => (frzs M n k xs).map fun ys => .ins i ns ys :: r'
        | d => if low n d then some (d :: r') else none
def closes (n : Nat) (ds M : List D) : Option (List D × List D) :=
  if M.length = n then some (ds, M) else if lows n (M.take n) then (frzs M n 60 ds).map fun ds' => (ds', M.take n) else none
section
variable {G : Gd} {r new : List Addr} {H : Hp} {M : List D}
theorem off_app {a : Addr} {o : HO} (h : off G (r ++ new) H a = some o) : off G r H a = some o := by
  obtain ⟨⟨h0, h1⟩, h2⟩ := off_some.mp h
  exact off_some.mpr ⟨⟨h0, fun z => h1 (List.mem_append_left _ z)⟩, h2⟩
theorem rd_app {a : Addr} {o : HO} (h : Rd (off G (r ++ new) H) a o) : Rd (off G r H) a o := by
  rcases h with h | ⟨ob, h⟩
  · exact .inl (off_app h)
  · exact .inr ⟨ob, off_app h⟩
theorem sqL_app {K : PySem.W.Frag} {a : Addr} {xs : List V} (h : SqL K (off G (r ++ new) H) a xs) : SqL K (off G r H) a xs := by
  rcases h with (h | ⟨o, h⟩) | h
  · exact .inl (.inl (off_app h))
  · exact .inl (.inr ⟨o, off_app h⟩)
  · exact .inr h
theorem sqT_app {K : PySem.W.Frag} {a : Addr} {xs : List V} (h : SqT K (off G (r ++ new) H) a xs) : SqT K (off G r H) a xs := by
  rcases h with (h | ⟨o, h⟩) | h
  · exact .inl (.inl (off_app h))
  · exact .inl (.inr ⟨o, off_app h⟩)
  · exact .inr h
mutual
theorem Rep.low : ∀ {v : V} {d : D}, Rep G (r ++ new) H v d → Iv.low r.length d = true → Rep G r H v d
  | _, _, .non, _ => .non
  | _, _, .bl, _ => .bl
  | _, _, .int, _ => .int
  | _, _, .str, _ => .str
  | _, _, .lst h hs, z => .lst (off_app h) (Reps.low hs z)
  | _, _, .scr h hs, z => .scr (sqL_app h) (Reps.low hs z)
  | _, _, .tup h hs, z => .tup (sqT_app h) (Reps.low hs z)
  | _, _, .dct h hs, z => .dct (rd_app h) (Reps.low hs z)
  | _, _, .ins x h hs, z => .ins x (off_app h) (Reps.low hs z)
  | _, _, .exn x h h2 hs, z => .exn x (off_app h) (off_app h2) (Reps.low hs z)
  | _, _, .exn0 x h, _ => .exn0 x (off_app h)
  | _, _, .cell h, z => .cell (by rw [List.getElem?_append_left (of_decide_eq_true z)] at h; exact h)
  | _, _, .fn, _ => .fn
  | _, _, .cls, _ => .cls
  | _, _, .ty, _ => .ty
theorem Reps.low : ∀ {vs : List V} {ds : List D}, Reps G (r ++ new) H vs ds → lows r.length ds = true → Reps G r H vs ds
  | _, _, .nil, _ => .nil
  | _, _, .cons h hs, z => .cons (Rep.low h (Bool.and_eq_true_iff.mp z).1) (Reps.low hs (Bool.and_eq_true_iff.mp z).2)
end
theorem off_high (nd : (r ++ new).Nodup) {c : Nat} {a : Addr} {o : HO} (hc : ¬ c < r.length) (h : (r ++ new)[c]? = some a) (e : H a = some o) (nh : a ∉ G.hid) : off G r H a = some o := by
  refine off_some.mpr ⟨⟨nh, fun z => ?_⟩, e⟩
  have q : a ∈ new := by
    rw [List.getElem?_append_right (Nat.le_of_not_lt hc)] at h
    exact List.mem_of_getElem? h
  exact (List.nodup_append.mp nd).2.2 a z a q rfl
theorem frzs_ok (S : StOk G (r ++ new) M H) : ∀ (k : Nat) {ds ds' : List D} {vs : List V}, frzs M r.length k ds = some ds' → Reps G (r ++ new) H vs ds → Reps G r H vs ds'
  | 0, ds, ds', vs, e, h => by
    unfold frzs at e
    by_cases c : lows r.length ds = true
    · rw [if_pos c] at e; cases e; exact h.low c
    · rw [if_neg c] at e; cases e
  | k + 1, ds, ds', vs, e, h => by
    unfold frzs at e
    by_cases c : lows r.length ds = true
    · rw [if_pos c] at e; cases e; exact h.low c
    · rw [if_neg c] at e
      cases h with
      | nil => cases e; exact .nil
      | cons h1 h2 =>
        rename_i v d vs2 ds2
        dsimp only at e
        cases e2 : frzs M r.length k ds2 with
        | none => rw [e2] at e; cases e
        | some r' =>
          rw [e2] at e
          have R2 := frzs_ok S k e2 h2
          cases h1 with
          | cell hc =>
            rename_i a n
            dsimp only at e
            by_cases cn : n < r.length
            · rw [if_pos cn] at e
              cases e
              exact .cons (.cell (by rw [List.getElem?_append_left cn] at hc; exact hc)) R2
            · rw [if_neg cn] at e
              cases em : M[n]? with
              | none => rw [em] at e; cases e
              | some o =>
                rw [em] at e
                have q := S.at_ n a o hc em
                cases o with
                | lst xs =>
                  obtain ⟨ws, w1, w2⟩ := q
                  dsimp only at e
                  obtain ⟨ys, y1, y2⟩ := Option.map_eq_some_iff.mp e
                  cases y2
                  exact .cons (.lst (off_high S.nd cn hc w1 fun z => (S.hid a z).2 (List.mem_of_getElem? hc)) (frzs_ok S k y1 w2)) R2
                | dct ks xs =>
                  obtain ⟨ws, w1, rfl, w2⟩ := q
                  dsimp only at e
                  obtain ⟨ys, y1, y2⟩ := Option.map_eq_some_iff.mp e
                  cases y2
                  exact .cons (.dct (.inl (off_high S.nd cn hc w1 fun z => (S.hid a z).2 (List.mem_of_getElem? hc))) (frzs_ok S k y1 w2)) R2
                | lck ks xs =>
                  obtain ⟨ob, ws, w1, rfl, w2⟩ := q
                  dsimp only at e
                  obtain ⟨ys, y1, y2⟩ := Option.map_eq_some_iff.mp e
                  cases y2
                  exact .cons (.dct (.inr ⟨ob, off_high S.nd cn hc w1 fun z => (S.hid a z).2 (List.mem_of_getElem? hc)⟩) (frzs_ok S k y1 w2)) R2
                | ins i ns xs =>
                  obtain ⟨dx, fs, w1, rfl, w2, w3⟩ := q
                  dsimp only at e
                  obtain ⟨ys, y1, y2⟩ := Option.map_eq_some_iff.mp e
                  cases y2
                  exact .cons (.ins w3 (off_high S.nd cn hc w1 fun z => (S.hid a z).2 (List.mem_of_getElem? hc)) (frzs_ok S k y1 w2)) R2
                | _ => exact q.elim
          | lst q1 q2 =>
            obtain ⟨ys, y1, y2⟩ := Option.map_eq_some_iff.mp e
            cases y2
            exact .cons (.lst (off_app q1) (frzs_ok S k y1 q2)) R2
          | tup q1 q2 =>
            obtain ⟨ys, y1, y2⟩ := Option.map_eq_some_iff.mp e
            cases y2
            exact .cons (.tup (sqT_app q1) (frzs_ok S k y1 q2)) R2
          | dct q1 q2 =>
            obtain ⟨ys, y1, y2⟩ := Option.map_eq_some_iff.mp e
            cases y2
            exact .cons (.dct (rd_app q1) (frzs_ok S k y1 q2)) R2
          | ins q0 q1 q2 =>
            obtain ⟨ys, y1, y2⟩ := Option.map_eq_some_iff.mp e
            cases y2
            exact .cons (.ins q0 (off_app q1) (frzs_ok S k y1 q2)) R2
          | exn q0 q1 q2 q3 =>
            obtain ⟨ys, y1, y2⟩ := Option.map_eq_some_iff.mp e
            cases y2
            exact .cons (.exn q0 (off_app q1) (off_app q2) (frzs_ok S k y1 q3)) R2
          | exn0 q0 q1 =>
            obtain ⟨ys, y1, y2⟩ := Option.map_eq_some_iff.mp e
            cases y2
            have z : ys = [] := by
              have w := frzs_ok S k y1 (.nil (G := G) (r := r ++ new) (H := H))
              cases w
              rfl
            subst z
            exact .cons (.exn0 q0 (off_app q1)) R2
          | scr q1 q2 =>
            rename_i ds3
            dsimp only at e
            by_cases cn : Iv.low r.length (.scr ds3) = true
            · rw [if_pos cn] at e; cases e; exact .cons (Rep.low (.scr q1 q2) cn) R2
            · rw [if_neg cn] at e; cases e
          | non => cases e; exact .cons .non R2
          | bl => cases e; exact .cons .bl R2
          | int => cases e; exact .cons .int R2
          | str => cases e; exact .cons .str R2
          | fn => cases e; exact .cons .fn R2
          | cls => cases e; exact .cons .cls R2
          | ty => cases e; exact .cons .ty R2
theorem lows_get {n : Nat} : ∀ {ds : List D} {i : Nat} {d : D}, lows n ds = true → ds[i]? = some d → low n d = true
  | [], _, _, _, e => by simp at e
  | d :: ds, 0, _, h, e => by
    simp at e
    subst e
    exact (Bool.and_eq_true_iff.mp h).1
  | d :: ds, i + 1, d', h, e => lows_get (ds := ds) (i := i) (Bool.and_eq_true_iff.mp h).2 (by simpa using e)
theorem CellAt.low {a : Addr} {o : D} (h : CellAt G (r ++ new) H a o) (z : Iv.low r.length o = true) : CellAt G r H a o := by
  cases o with
  | lst ds => obtain ⟨vs, e, hs⟩ := h; exact ⟨vs, e, hs.low z⟩
  | dct ks ds => obtain ⟨vs, e, e2, hs⟩ := h; exact ⟨vs, e, e2, hs.low z⟩
  | lck ks ds => obtain ⟨ob, vs, e, e2, hs⟩ := h; exact ⟨ob, vs, e, e2, hs.low z⟩
  | ins c ns ds => obtain ⟨dx, fs, e, e2, hs, hx⟩ := h; exact ⟨dx, fs, e, e2, hs.low z, hx⟩
  | _ => exact h.elim
theorem closes_ok {H0 : Hp} {r' : List Addr} {M' ds ds' : List D} (L : Le r H0 r' H) (S : StOk G r' M H) (e : closes r.length ds M = some (ds', M')) :
    Le r H0 r H ∧ StOk G r M' H ∧ (∀ vs, Reps G r' H vs ds → Reps G r H vs ds') ∧ (∀ a o, off G r' H a = some o → off G r H a = some o) := by
  obtain ⟨new, rfl, hn⟩ := L.pre
  have L' : Le r H0 r H := ⟨⟨[], by simp, fun _ z => nomatch z⟩, L.keep, L.there, L.fz⟩
  refine ⟨L', ?_⟩
  unfold closes at e
  by_cases c : M.length = r.length
  · rw [if_pos c] at e
    cases e
    have z : new = [] := by
      have q := S.len
      rw [List.length_append, c] at q
      exact List.eq_nil_of_length_eq_zero (by omega)
    subst z
    rw [List.append_nil] at S ⊢
    exact ⟨S, fun _ h => h, fun _ _ h => h⟩
  · rw [if_neg c] at e
    by_cases z : lows r.length (M.take r.length) = true
    · rw [if_pos z] at e
      obtain ⟨ys, y1, y2⟩ := Option.map_eq_some_iff.mp e
      cases y2
      have hlen : r.length ≤ M.length := by rw [← S.len, List.length_append]; omega
      refine ⟨⟨by rw [List.length_take]; omega, (List.nodup_append.mp S.nd).1, fun n a o h1 h2 => ?_, fun a ha => ⟨(S.hid a ha).1, fun z => (S.hid a ha).2 (List.mem_append_left _ z)⟩⟩, fun vs h => frzs_ok S 60 y1 h, fun a o h => off_app h⟩
      have hlt : n < r.length := (List.getElem?_eq_some_iff.mp h1).1
      have h3 : M[n]? = some o := by rw [List.getElem?_take_of_lt hlt] at h2; exact h2
      exact (S.at_ n a o (by rw [List.getElem?_append_left hlt]; exact h1) h3).low (lows_get z h2)
    · rw [if_neg z] at e
      cases e
end
/-- a def's end: its own cells go; with keep they stay -/
def fin (keep : Bool) (n : Nat) : R Fl → R D
  | .ok (.rt d) M => if keep then .ok d M else match closes n [d] M with
    | some ([d'], M') => .ok d' M'
    | _ => .stk
  | .ok (.nx _) M => if keep then .ok .non M else match closes n [] M with
    | some (_, M') => .ok .non M'
    | _ => .stk
  | .ok (.ex _ (.ins c ns vs)) M => if keep then .exc (.ins c ns vs) M else match closes n vs M with
    | some (vs', M') => .exc (.ins c ns vs') M'
    | _ => .stk
  | _ => .stk
def entry (n : Nat) (ds : List D) : DEnv := ds.map some ++ List.replicate (n - ds.length) none
/-- what a def does: n its names -/
def runF (keep : Bool) (n : Nat) (m : DS) : List D → Ev D := fun ds M => fin keep M.length (m (entry n ds) M)
section
variable {G : Gd} {r : List Addr} {H : Hp}
theorem Post.fin {keep : Bool} {n : Nat} {x : R Fl} {Q : VK} {E : XK} (hn : r.length = n) (p : Post G (fun c d _ H' => E c d H') [] (JE G Q) r H (fin keep n x)) :
    PostS G (fun c d _ H' => E c d H') { nx := fun _ H' => Q .non H', rt := Q } r H x := by
  subst hn
  cases x with
  | stk => exact p.elim
  | exc e M => exact p.elim
  | ok f M =>
    cases f with
    | bk δ => exact p.elim
    | ct δ => exact p.elim
    | nx δ =>
      intro r' H' L S σ e
      cases keep with
      | true => exact p r' H' L S .non .non
      | false =>
        have p' : Post G (fun c d _ H' => E c d H') [] (JE G Q) r H (match closes r.length [] M with | some (_, M') => .ok .non M' | _ => .stk) := p
        cases ec : closes r.length [] M with
        | none => rw [ec] at p'; exact p'.elim
        | some y =>
          rw [ec] at p'
          obtain ⟨L', S', _, _⟩ := closes_ok L S ec
          exact p' r H' L' S' .non .non
    | rt d =>
      intro r' H' L S v Rv
      cases keep with
      | true => exact p r' H' L S v Rv
      | false =>
        have p' : Post G (fun c d _ H' => E c d H') [] (JE G Q) r H (match closes r.length [d] M with | some ([d'], M') => .ok d' M' | _ => .stk) := p
        cases ec : closes r.length [d] M with
        | none => rw [ec] at p'; exact p'.elim
        | some y =>
          obtain ⟨ys, M'⟩ := y
          rw [ec] at p'
          obtain ⟨L', S', h1, _⟩ := closes_ok L S ec
          have q := h1 [v] (.cons Rv .nil)
          cases q with
          | cons q1 q2 => cases q2; exact p' r H' L' S' v q1
    | ex δ d =>
      cases d with
      | ins c ns vs =>
        intro r' H' L S σ cls dd e X
        cases keep with
        | true => exact p cls dd r' H' L S X
        | false =>
          have p' : Post G (fun c d _ H' => E c d H') [] (JE G Q) r H (match closes r.length vs M with | some (vs', M') => .exc (.ins c ns vs') M' | _ => .stk) := p
          cases ec : closes r.length vs M with
          | none => rw [ec] at p'; exact p'.elim
          | some y =>
            obtain ⟨ys, M'⟩ := y
            rw [ec] at p'
            obtain ⟨L', S', h1, h2⟩ := closes_ok L S ec
            refine p' cls dd r H' L' S' ?_
            obtain ⟨c', ns', vs', e1, e2, e3⟩ := X
            cases e1
            refine ⟨c, ns, ys, rfl, e2, ?_⟩
            rcases e3 with ⟨a1, a2, a3⟩ | ⟨dx, fs, a1, a2, a3, a4⟩
            · subst a3
              have z : ys = [] := by have q := h1 [] .nil; cases q; rfl
              exact .inl ⟨a1, a2, z⟩
            · exact .inr ⟨dx, fs, a1, h2 _ _ a2, a3, h1 _ a4⟩
      | _ => exact p.elim
theorem env_entry {N : List Str} {vs : List V} {ds : List D} (h : Reps G r H vs ds) : EnvOk G r H (L2.start N vs) (entry N.length ds) := by
  have hl := h.length
  refine ⟨by unfold L2.start entry; simp [hl], fun i d e => ?_⟩
  unfold entry at e
  by_cases hi : i < ds.length
  · rw [List.getElem?_append_left (by simpa using hi), List.getElem?_map] at e
    have e' : ds[i]? = some d := by
      cases q : ds[i]? with
      | none => rw [q] at e; cases e
      | some d' => rw [q] at e; cases e; rfl
    obtain ⟨v, h1, h2⟩ := h.get e'
    refine ⟨v, ?_, h2⟩
    unfold L2.start
    rw [List.getElem?_append_left (by simpa [hl] using hi), List.getElem?_map, h1]
    rfl
  · rw [List.getElem?_append_right (by simpa using hi), List.getElem?_replicate] at e
    split at e <;> cases e
end

/-! ### a def's promise -/
def FnS (G : Gd) (P : Program) (w : World) (mg : Str → Option Value) (base : Heap) (k : Nat) (f : Addr) (fd : FuncData) (ps : List Str) (g : List D → Ev D) : Prop :=
  ∀ (A : Around) (outer : List Env) (s : Shared) (H : Hp) (args : Args) (us : List Value) (vs : List V) (ds : List D) (r : List Addr) (M : List D) (Q : VK) (E : XK),
    Room k A → A.guards = some [] → Env0 P w G.K mg base A outer s H → BindsTo s fd args (ps.zip us) → Vals vs us → vs.length = ps.length → StOk G r M H → Reps G r H vs ds →
    Post G (fun c d _ H' => E c d H') [] (JE G Q) r H (g ds M) → codeAny (model P w) A (.call (.ref f) args) (CR (CX P w) outer P w H s Q E) s
section
variable {G : Gd} {P : Program} {w : World} {mg : Str → Option Value} {base : Heap}
/-- the context of a def's body -/
abbrev bodyCx (G : Gd) (P : Program) (w : World) (mg : Str → Option Value) (base : Heap) (N : List Str) (qual : Str) (scope : Scope) (f : Addr) (cd : Value) (A : Around) (outer : List Env) (s : Shared) (H : Hp) (E : XK) : Cx :=
  cxOf (CX P w) P w G.K mg base N qual scope f cd A outer s H E
theorem FnS.of {x qual : Str} {params : Arguments} {body : List Stmt} {scope : Scope} {dvs : List V} {kws : List (Str × V)} {f : Addr} {fd : FuncData} {N ps : List Str} {k : Nat} {keep : Bool} {m : DS}
    (F : FunD G.K x qual params body scope dvs kws f fd) (S : FnScope N ps scope)
    (hb : ∀ (cd : Value) (A : Around) (outer : List Env) (s : Shared) (H : Hp) (E : XK), Room k (A.deeper (envOfC qual scope s.heap.objs.size f cd)) → A.guards = some [] → SSs G (bodyCx G P w mg base N qual scope f cd A outer s H E) body m) :
    FnS G P w mg base (k + 1) f fd ps (runF keep N.length m) := by
  obtain ⟨oc, od, dV, kV, doc, pm, an, cdv, ct, osl, rfl, lk, hcd, _, _⟩ := F.ex
  intro A outer s H args us vs ds r M Q E hr hgd e0 hbd rv hlen S0 R0 post
  have inK : G.K.In s.heap := e0.mod.kin.keeps fun b o e => (e0.bs b o e).1
  have noL : s.heap.NoLimit := e0.mod.nolimit.keeps fun b o e => (e0.bs b o e).1
  refine Att.call_fn inK noL lk hcd hr.depth hbd ?_ (fun s1 ic => ?_) S.co S.gen S.kind
  · rw [List.all_eq_true]
    rintro ⟨n, v⟩ hz
    rcases S.par n (List.of_mem_zip hz).1 with q | q <;> simp [q]
  · have I := inv_start (CX := CX P w) (E := E) S hr.hd e0 hlen rv ic
    have T : Takes (bodyCx G P w mg base N qual scope f cdv A outer s H E) (fun c d _ H' => E c d H') := takes_of rfl rfl rfl rfl
    have q := (hb cdv A outer s H E (hr.deeper _) hgd).ru _ T (entry N.length ds) M (L2.start N vs) r H { nx := fun _ H' => Q .non H', rt := Q } S0 (env_entry R0) (Post.fin S0.len post)
    have done : ∀ {s' : Shared} {σ : L2.St} {H' : Hp} {v : V} {u : Value}, Inv (bodyCx G P w mg base N qual scope f cdv A outer s H E) [] σ H' s' → RelV v u → Q v H' → CE outer P w H s Q u s' :=
      fun J rv q => ⟨_, _, J.os, J.bare, J.base, J.hok, rv, q⟩
    refine wpAny_mono (q [] s1 I) (fun fl s' h => ?_) fun e s' h => h
    cases fl with
    | ret u => obtain ⟨v, σ, H', J, r1, q1⟩ := h; exact done J r1 q1
    | next => obtain ⟨σ, H', J, q1⟩ := h; exact done (v := .non) (u := .none) J rfl q1
    | brk => obtain ⟨_, _, _, z⟩ := h; exact z.elim
    | cont => obtain ⟨_, _, _, z⟩ := h; exact z.elim
end

/-! ### its call -/
/-- the written arguments, the defaults -/
def dCall (n : Nat) (dd : List D) (g : List D → Ev D) (a : DA) : DE := fun δ => bnd (a δ) fun ds => if ds.length + dd.length = n then g (ds ++ dd) else stuck
section
variable {G : Gd} {X : Cx} {k : Nat} {f : Addr} {fd : FuncData} {ps : List Str} {g : List D → Ev D}
theorem FnS.call (F : FnS G X.prog X.w X.mg X.base k f fd ps g) (hr : Room k X.A) (hgd : X.A.guards = some []) (hK : G.K = X.K) {W : WX} (tk : Takes X W) {pins : List (Addr × Obj)} {σ : L2.St} {H : Hp} {s : Shared} {Q : VK} {us : List Value} {kw : List (Str × Value)} {as : List Value} {vs : List V} {ds : List D} {r : List Addr} {M : List D}
    (I : Inv X pins σ H s) (hb : BindsTo s fd ⟨as, kw⟩ (ps.zip us)) (rv : Vals vs us) (hl : vs.length = ps.length) (S : StOk G r M H) (Rs : Reps G r H vs ds) (p : Post G W σ (JE G Q) r H (g ds M)) :
    wpAny (model X.prog X.w) X.A (call (.ref f) as kw) (EP X pins σ Q) X.xe s := by
  have p' : Post G (fun c d _ H' => W c d σ H') [] (JE G Q) r H (g ds M) := by
    cases e : g ds M with
    | ok d M' => rw [e] at p; exact p
    | exc d M' => rw [e] at p; exact p
    | stk => rw [e] at p; exact p
  have e0 := I.env0
  rw [← hK] at e0
  refine wpAny_call (codeAny_mono (F X.A X.stack s H ⟨as, kw⟩ us vs ds r M Q (fun c d H' => W c d σ H') hr hgd e0 hb rv hl S Rs p') fun z s' h => ?_)
  cases z with
  | error e => exact tk e s' (XE.of_call (E := fun c d H' => W c d σ H') I (fun _ _ _ h => h) h)
  | ok fl =>
    cases fl with
    | ret u => exact I.after h
    | next => exact h.elim
    | brk => exact h.elim
    | cont => exact h.elim
theorem SE.call (F : FnS G X.prog X.w X.mg X.base k f fd ps g) (hr : Room k X.A) (hgd : X.A.guards = some []) (hK : G.K = X.K) {x : Str} {p pos : Pos} {e : Expr} {es : List Expr} {m : DA} {dvs : List V} {dv : List Value} {dd : List D} (hg : Gl X x) (hm : X.mg x = some (.ref f)) (hk : PySem.W.keepIn X.K (.ref f) = true)
    (hb : Binds X.K fd ps dv) (hd : Vals dvs dv) (hdd : ∀ r H, Reps G r H dvs dd) (ha : SA G X (e :: es) m) (hdb : (x == ("__debug__" : Str)) = false)
    (he : starEach (e :: es) X.env = (false, eval e X.env) :: starEach es X.env) (hpl : (backTo pos (starEach es X.env)).any (·.1) = false) : SE G X (.Call (.Name x p) (e :: es) [] pos) (dCall ps.length dd g m) := by
  refine ⟨?_⟩
  intro W tk δ M σ r H Q S E q pins s I
  refine wpAny_Call_Name_kw (ld_glob I hg hm ?_ hdb)
  have hA : WA X (e :: es) σ H fun vs H1 => ∀ (pins : List (Addr × Obj)) (s : Shared) (us : List Value), Inv X pins σ H1 s → Vals vs us → wpAny (model X.prog X.w) X.A (PySem.call (.ref f) us) (EP X pins σ Q) X.xe s := by
    refine ha.ru W tk δ M σ r H _ S E (q.bnd.imp ?_)
    intro ds M1 r1 H1 L1 S1 h1 vs Rs pins s us I1 ru
    by_cases c : ds.length + dd.length = ps.length
    · rw [if_pos c] at h1
      have hl : (vs ++ dvs).length = ps.length := by rw [List.length_append, Rs.length, (hdd r1 H1).length]; exact c
      have ru' : Vals (vs ++ dvs) (us ++ dv) := ru.append hd
      exact F.call hr hgd hK tk I1 (hb s us I1.kIn (by rw [← ru'.length]; exact hl)) ru' hl S1 (Rs.append (hdd r1 H1)) h1
    · rw [if_neg c] at h1
      exact h1.elim
  exact PySem.W.callWith_K (h₀ := X.base) I.ok.mod.kin hk (thn (hA pos pins s I) fun us s1 ⟨vs, H1, I1, r1, h⟩ => ⟨I1.kIn, h pins s1 us I1 r1⟩) he hpl
theorem SE.call0 (F : FnS G X.prog X.w X.mg X.base k f fd ps g) (hr : Room k X.A) (hgd : X.A.guards = some []) (hK : G.K = X.K) {x : Str} {p pos : Pos} {dvs : List V} {dv : List Value} {dd : List D} (hg : Gl X x) (hm : X.mg x = some (.ref f)) (hk : PySem.W.keepIn X.K (.ref f) = true)
    (hb : Binds X.K fd ps dv) (hd : Vals dvs dv) (hdd : ∀ r H, Reps G r H dvs dd) (hdb : (x == ("__debug__" : Str)) = false) : SE G X (.Call (.Name x p) [] [] pos) (dCall ps.length dd g dNil) := by
  refine ⟨?_⟩
  intro W tk δ M σ r H Q S E q pins s I
  refine wpAny_Call_Name_kw (ld_glob I hg hm ?_ hdb)
  refine PySem.W.callWith_K0 I.kIn hk ?_
  have q' : Post G W σ (JE G Q) r H (if dd.length = ps.length then g dd M else .stk) := by
    have e : dCall ps.length dd g dNil δ M = if dd.length = ps.length then g dd M else .stk := by
      unfold dCall dNil bnd Iv.ret
      simp only [List.length_nil, Nat.zero_add, List.nil_append]
      split <;> rfl
    rw [← e]
    exact q
  by_cases c : dd.length = ps.length
  · rw [if_pos c] at q'
    have hl : dvs.length = ps.length := by rw [(hdd r H).length]; exact c
    exact F.call hr hgd hK tk I (hb s [] I.kIn (by rw [List.nil_append, ← hd.length]; exact hl)) hd hl S (hdd r H) q'
  · rw [if_neg c] at q'
    exact q'.elim
end
end Iv
/-! What is walked; for; while; list comprehensions. -/
namespace Iv
open PySem PySem.Spec PyProof.Rows L2

/-! ### an address is hidden -/
abbrev Gd.at (G : Gd) (h : List Addr) : Gd := { G with hid := h }
abbrev Gd.hide (G : Gd) (a : Addr) : Gd := G.at (a :: G.hid)
section
variable {G : Gd} {r r1 : List Addr} {H H1 H2 : Hp} {M : List D} {h2 : List Addr} {p : Addr} {o : HO} {σ : L2.St} {δ : DEnv}
theorem rd_via (ho : ∀ a o, off G r H a = some o → off (G.at h2) r H2 a = some o) {a : Addr} {u : HO} (h : Rd (off G r H) a u) : Rd (off (G.at h2) r H2) a u := by
  rcases h with h | ⟨o, h⟩
  · exact .inl (ho _ _ h)
  · exact .inr ⟨o, ho _ _ h⟩
theorem sqL_via (ho : ∀ a o, off G r H a = some o → off (G.at h2) r H2 a = some o) {K : PySem.W.Frag} {a : Addr} {xs : List V} (h : SqL K (off G r H) a xs) : SqL K (off (G.at h2) r H2) a xs := by
  rcases h with (h | ⟨o, h⟩) | h
  · exact .inl (.inl (ho _ _ h))
  · exact .inl (.inr ⟨o, ho _ _ h⟩)
  · exact .inr h
theorem sqT_via (ho : ∀ a o, off G r H a = some o → off (G.at h2) r H2 a = some o) {K : PySem.W.Frag} {a : Addr} {xs : List V} (h : SqT K (off G r H) a xs) : SqT K (off (G.at h2) r H2) a xs := by
  rcases h with (h | ⟨o, h⟩) | h
  · exact .inl (.inl (ho _ _ h))
  · exact .inl (.inr ⟨o, ho _ _ h⟩)
  · exact .inr h
mutual
theorem Rep.via (ho : ∀ a o, off G r H a = some o → off (G.at h2) r H2 a = some o) : ∀ {v : V} {d : D}, Rep G r H v d → Rep (G.at h2) r H2 v d
  | _, _, .non => .non
  | _, _, .bl => .bl
  | _, _, .int => .int
  | _, _, .str => .str
  | _, _, .lst h hs => .lst (ho _ _ h) (Reps.via ho hs)
  | _, _, .scr h hs => .scr (sqL_via ho h) (Reps.via ho hs)
  | _, _, .tup h hs => .tup (sqT_via ho h) (Reps.via ho hs)
  | _, _, .dct h hs => .dct (rd_via ho h) (Reps.via ho hs)
  | _, _, .ins z h hs => .ins z (ho _ _ h) (Reps.via ho hs)
  | _, _, .exn z h h2 hs => .exn z (ho _ _ h) (ho _ _ h2) (Reps.via ho hs)
  | _, _, .exn0 z h => .exn0 z (ho _ _ h)
  | _, _, .cell h => .cell h
  | _, _, .fn => .fn
  | _, _, .cls => .cls
  | _, _, .ty => .ty
theorem Reps.via (ho : ∀ a o, off G r H a = some o → off (G.at h2) r H2 a = some o) : ∀ {vs : List V} {ds : List D}, Reps G r H vs ds → Reps (G.at h2) r H2 vs ds
  | _, _, .nil => .nil
  | _, _, .cons h hs => .cons (Rep.via ho h) (Reps.via ho hs)
end
theorem EnvOk.via (ho : ∀ a o, off G r H a = some o → off (G.at h2) r H2 a = some o) (E : EnvOk G r H σ δ) : EnvOk (G.at h2) r H2 σ δ := ⟨E.len, fun i d h =>
  let ⟨v, e1, e2⟩ := E.at_ i d h
  ⟨v, e1, e2.via ho⟩⟩
theorem CellAt.via (ho : ∀ a o, off G r H a = some o → off (G.at h2) r H2 a = some o) {a : Addr} (e : H2 a = H a) {d : D} (h : CellAt G r H a d) : CellAt (G.at h2) r H2 a d := by
  cases d with
  | lst ds => obtain ⟨vs, e1, hs⟩ := h; exact ⟨vs, e.trans e1, hs.via ho⟩
  | dct ks ds => obtain ⟨kvs, e1, e2, hs⟩ := h; exact ⟨kvs, e.trans e1, e2, hs.via ho⟩
  | lck ks ds => obtain ⟨ob, kvs, e1, e2, hs⟩ := h; exact ⟨ob, kvs, e.trans e1, e2, hs.via ho⟩
  | ins c ns ds => obtain ⟨dx, fs, e1, e2, hs, hx⟩ := h; exact ⟨dx, fs, e.trans e1, e2, hs.via ho, hx⟩
  | _ => exact h.elim
/-! ### a dict's lock is taken off -/
theorem off_cell {a : Addr} (ha : a ∈ r) {x : Option HO} : off G r (fun b => if b = a then x else H b) = off G r H := by
  funext b
  unfold off
  by_cases h : b ∈ G.hid ∨ b ∈ r
  · rw [if_pos h, if_pos h]
  · rw [if_neg h, if_neg h]; exact if_neg fun z => h (.inr (by rw [z]; exact ha))
theorem off_updC {a : Addr} (ha : a ∈ r) {u : HO} : ∀ b o, off G r H b = some o → off G r (upd H a u) b = some o := fun b o h => by
  obtain ⟨⟨h0, h1⟩, h2⟩ := off_some.mp h
  refine off_some.mpr ⟨⟨h0, h1⟩, ?_⟩
  rw [upd_ne (show b ≠ a from fun z => h1 (by rw [z]; exact ha))]
  exact h2
theorem StOk.swap (S : StOk G r M H) {n : Nat} {a : Addr} {u : HO} {d : D} (hn : r[n]? = some a) (hd : CellAt G r (upd H a u) a d) : StOk G r (M.set n d) (upd H a u) := by
  have ha : a ∈ r := List.mem_of_getElem? hn
  have hlt : n < r.length := (List.getElem?_eq_some_iff.mp hn).1
  refine ⟨by rw [List.length_set]; exact S.len, S.nd, fun m b o' h1 h2 => ?_, fun b hb => ⟨by
    by_cases e : b = a
    · subst e; rw [upd_same]; intro z; cases z
    · rw [upd_ne e]; exact (S.hid b hb).1, (S.hid b hb).2⟩⟩
  by_cases e : n = m
  · subst e
    rw [hn] at h1
    cases h1
    rw [List.getElem?_set_self (by rw [← S.len]; exact hlt)] at h2
    cases h2
    exact hd
  · rw [List.getElem?_set_ne e] at h2
    have hne : b ≠ a := fun z => by
      subst z
      have h3 : m < r.length := (List.getElem?_eq_some_iff.mp h1).1
      rw [List.getElem?_eq_getElem hlt] at hn
      rw [List.getElem?_eq_getElem h3] at h1
      have q : r[n] = r[m] := by rw [Option.some.inj hn, Option.some.inj h1]
      exact e ((List.getElem_inj S.nd).mp q)
    exact CellAt.via (G := G) (h2 := G.hid) (off_updC ha) (upd_ne hne) (S.at_ m b o' h1 h2)
/-- a dict that is a value is locked -/
theorem StOk.frz (S : StOk G r M H) {a : Addr} {kvs : List (Key × V)} (h : off G r H a = some (.dK kvs)) (ob : Obj) : Le r H r (upd H a (.frz ob (.dK kvs))) ∧ StOk G r M (upd H a (.frz ob (.dK kvs))) ∧ off G r (upd H a (.frz ob (.dK kvs))) a = some (.frz ob (.dK kvs)) := by
  obtain ⟨⟨h0, h1⟩, h2⟩ := off_some.mp h
  have l : Le r H r (upd H a (.frz ob (.dK kvs))) := by
    refine ⟨⟨[], by simp, fun _ z => nomatch z⟩, fun b o e _ => ?_, fun b hb => ?_, fun b ob' u e => ?_⟩
    · by_cases z : b = a
      · subst z
        rw [h2] at e
        cases e
        exact .inr ⟨kvs, ob, rfl, upd_same⟩
      · rw [upd_ne z]; exact .inl e
    · rw [upd_ne (show b ≠ a from fun z => h1 (by rw [← z]; exact hb))]; exact S.there b hb
    · rw [upd_ne (show b ≠ a from fun z => by subst z; rw [h2] at e; cases e)]; exact e
  refine ⟨l, ⟨S.len, S.nd, fun n b o' e1 e2 => ?_, fun b hb => ⟨?_, (S.hid b hb).2⟩⟩, off_some.mpr ⟨⟨h0, h1⟩, upd_same⟩⟩
  · have hne : b ≠ a := fun z => h1 (by rw [← z]; exact List.mem_of_getElem? e1)
    exact (S.at_ n b o' e1 e2).le l (upd_ne hne)
  · rw [upd_ne (show b ≠ a from fun z => h0 (by rw [← z]; exact hb))]; exact (S.hid b hb).1
/-- the heap with at most one lock taken off, one that was not there at the start -/
def Unl (H0 H H2 : Hp) : Prop := H2 = H ∨ ∃ a ob kvs, (∀ o u, H0 a ≠ some (.frz o u)) ∧ H a = some (.frz ob (.dK kvs)) ∧ H2 = upd H a (.dK kvs)
end
section
variable {X : Cx}
theorem unl_inv {pins : List (Addr × Obj)} {σ σ' : L2.St} {H0 H H2 : Hp} {s s' : Shared} (I0 : Inv X pins σ H0 s) (I : Inv X pins σ' H s') (u : Unl H0 H H2) : Inv X pins σ' H2 s' := by
  rcases u with rfl | ⟨a, ob, kvs, n, e, rfl⟩
  · exact I
  · exact I.unlock e fun o u z => n o u (I0.base.frzs a o u z)
def unE (H0 : Hp) (E : Ends) : Ends := ⟨fun σ H => ∃ H2, Unl H0 H H2 ∧ E.nx σ H2, fun v H => ∃ H2, Unl H0 H H2 ∧ E.rt v H2, fun σ H => ∃ H2, Unl H0 H H2 ∧ E.bk σ H2, fun σ H => ∃ H2, Unl H0 H H2 ∧ E.ct σ H2⟩
def unQ (H0 : Hp) (Q : VK) : VK := fun v H => ∃ H2, Unl H0 H H2 ∧ Q v H2
theorem WS.unl {st : Stmt} {σ : L2.St} {H : Hp} {E : Ends} (h : WS X st σ H (unE H E)) : WS X st σ H E := fun pins s I => by
  refine thn (h pins s I) fun f s' q => ?_
  cases f with
  | next => obtain ⟨σ', H', I2, H2, u, q⟩ := q; exact ⟨σ', H2, unl_inv I I2 u, q⟩
  | brk => obtain ⟨σ', H', I2, H2, u, q⟩ := q; exact ⟨σ', H2, unl_inv I I2 u, q⟩
  | cont => obtain ⟨σ', H', I2, H2, u, q⟩ := q; exact ⟨σ', H2, unl_inv I I2 u, q⟩
  | ret v => obtain ⟨x, σ', H', I2, r, H2, u, q⟩ := q; exact ⟨x, σ', H2, unl_inv I I2 u, r, q⟩
theorem WE.unl {e : Expr} {σ : L2.St} {H : Hp} {Q : VK} (h : WE X e σ H (unQ H Q)) : WE X e σ H Q := fun pins s I =>
  thn (h pins s I) fun v s' ⟨x, H', I2, r, H2, u, q⟩ => ⟨x, H2, unl_inv I I2 u, r, q⟩
end

/-! ### what is walked -/
inductive Src where
  | vals (ds : List D) | rng (lo : Int) (n : Nat) | cell (c n : Nat)
  | dkc (c : Nat) (ks : List D) (own : Bool)
def Src.len : Src → Nat
  | .vals ds => ds.length
  | .rng _ n => n
  | .cell _ n => n
  | .dkc _ ks _ => ks.length
/-- the i-th item -/
def Src.get (M : List D) (i : Nat) : Src → Option D
  | .vals ds => ds[i]?
  | .rng lo _ => some (.int (lo + i))
  | .cell c _ => match M[c]? with
    | some (.lst xs) => xs[i]?
    | _ => none
  | .dkc _ ks _ => ks[i]?
/-- no item is left -/
def Src.fin (M : List D) : Src → Bool
  | .vals _ => true
  | .rng _ _ => true
  | .cell c n => match M[c]? with
    | some (.lst xs) => decide (xs.length ≤ n)
    | _ => false
  | .dkc _ _ _ => true
/-- the walk's own lock is taken off -/
def Src.out (M : List D) : Src → List D
  | .dkc c _ true => match M[c]? with
    | some (.lck ks vs) => M.set c (.dct ks vs)
    | _ => M
  | _ => M
def sgn (c : Nat) : D := .str ⟨#[c]⟩
/-- pairs of a number and an item -/
def enumL : Nat → List D → List D
  | _, [] => []
  | n, d :: ds => .tup [.int (n : Nat), d] :: enumL (n + 1) ds
theorem enumL_get : ∀ (ds : List D) (n i : Nat), (enumL n ds)[i]? = (ds[i]?).map fun d => .tup [.int ((n + i : Nat) : Int), d]
  | [], n, i => by simp [enumL]
  | d :: ds, n, 0 => by simp [enumL]
  | d :: ds, n, i + 1 => by
    show (enumL (n + 1) ds)[i]? = (ds[i]?).map fun d => .tup [.int ((n + (i + 1) : Nat) : Int), d]
    rw [enumL_get ds (n + 1) i, show n + 1 + i = n + (i + 1) by omega]
theorem enumL_len : ∀ (ds : List D) (n : Nat), (enumL n ds).length = ds.length
  | [], _ => rfl
  | _ :: ds, n => congrArg Nat.succ (enumL_len ds (n + 1))
/-- how a heap bears what is walked: by J -/
inductive RepI (G : Gd) (r : List Addr) (H : Hp) : It → Src → Prop
  | lst {a vs ds} : off G r H a = some (.lst vs) → Reps G r H vs ds → RepI G r H (Itl G.K a) (.vals ds)
  | scr {a vs ds} : SqL G.K (off G r H) a vs → Reps G r H vs ds → RepI G r H (Itl G.K a) (.vals ds)
  | tup {a vs ds} : SqT G.K (off G r H) a vs → Reps G r H vs ds → RepI G r H (Itt G.K a) (.vals ds)
  | str {x} : RepI G r H (Its x) (.vals (x.cps.toList.map sgn))
  | rng {lo n} : RepI G r H (Itr lo n) (.rng lo n)
  | cell {a c n} : r[c]? = some a → RepI G r H (Itl G.K a) (.cell c n)
  | enm {a vs ds} : off G r H a = some (.lst vs) → Reps G r H vs ds → RepI G r H (Ite G.K a) (.vals (enumL 0 ds))
  | dk {a ob kvs} : off G r H a = some (.frz ob (.dK kvs)) → RepI G r H (Itk a ob kvs) (.vals (kvs.map fun p => kD p.1))
  | dkc {a c ob kvs own} : r[c]? = some a → H a = some (.frz ob (.dK kvs)) → RepI G r H (Itk a ob kvs) (.dkc c (kvs.map fun p => kD p.1) own)
/-- a walk's own lock was not there at the start -/
def Own (H0 : Hp) (r : List Addr) (z : Src) : Prop := ∀ c ks, z = .dkc c ks true → ∃ a, r[c]? = some a ∧ ∀ o u, H0 a ≠ some (.frz o u)
def ownB : Src → Bool
  | .dkc _ _ b => b
  | _ => false
theorem Own.no {H0 : Hp} {r : List Addr} {z : Src} (h : ownB z = false := by rfl) : Own H0 r z := fun c ks e => by rw [e] at h; cases h
section
variable {G : Gd} {r r1 : List Addr} {H H1 : Hp} {M : List D}
theorem RepI.le (l : Le r H r1 H1) {J : It} {z : Src} (h : RepI G r H J z) : RepI G r1 H1 J z := by
  cases h with
  | lst h1 h2 => exact .lst (l.off h1) (h2.le l)
  | scr h1 h2 => exact .scr (l.sqL h1) (h2.le l)
  | tup h1 h2 => exact .tup (l.sqT h1) (h2.le l)
  | str => exact .str
  | rng => exact .rng
  | cell h1 => exact .cell (l.get h1)
  | enm h1 h2 => exact .enm (l.off h1) (h2.le l)
  | dk h1 => exact .dk (l.off h1)
  | dkc h1 h2 => exact .dkc (l.get h1) (l.fz _ _ _ h2)
theorem RepI.stop (S : StOk G r M H) {J : It} {z : Src} (h : RepI G r H J z) (e : z.fin M = true) : J.stop z.len H := by
  cases h with
  | lst h1 h2 => exact ⟨_, .of (off_some.mp h1).2, by rw [h2.length]; exact Nat.le_refl _⟩
  | scr h1 h2 => exact ⟨_, sqL_off h1, by rw [h2.length]; exact Nat.le_refl _⟩
  | tup h1 h2 => exact ⟨_, sqT_off h1, by rw [h2.length]; exact Nat.le_refl _⟩
  | str => show _ ≤ (List.map sgn _).length; simp
  | enm h1 h2 => exact ⟨_, .of (off_some.mp h1).2, by show _ ≤ (enumL 0 _).length; rw [enumL_len, h2.length]; exact Nat.le_refl _⟩
  | rng => exact Nat.le_refl _
  | dk h1 => exact ⟨(off_some.mp h1).2, by show _ ≤ (List.map _ _).length; rw [List.length_map]; exact Nat.le_refl _⟩
  | dkc h1 h2 => exact ⟨h2, by show _ ≤ (List.map _ _).length; rw [List.length_map]; exact Nat.le_refl _⟩
  | cell h1 =>
    rename_i a c n
    cases em : M[c]? with
    | none => simp only [Src.fin, em] at e; cases e
    | some o =>
      simp only [Src.fin, em] at e
      have q := S.at_ _ _ _ h1 em
      cases o with
      | lst xs =>
        obtain ⟨vs, q1, q2⟩ := q
        exact ⟨vs, .of q1, by rw [q2.length]; exact of_decide_eq_true e⟩
      | _ => cases e
/-- a turn -/
theorem RepI.go (S : StOk G r M H) {J : It} {z : Src} (h : RepI G r H J z) {i : Nat} {d : D} (hi : i < z.len) (e : z.get M i = some d) :
    J.go i H ∧ ∀ x H', J.yld i H x H' → Le r H r H' ∧ StOk G r M H' ∧ Rep G r H' x d := by
  have same : ∀ {x : V} {H' : Hp}, H' = H → Rep G r H x d → Le r H r H' ∧ StOk G r M H' ∧ Rep G r H' x d := fun e R => by subst e; exact ⟨S.le, S, R⟩
  have L : ∀ {a : Addr} {vs : List V} {ds : List D}, SqL G.K H a vs → Reps G r H vs ds → ds[i]? = some d → (Itl G.K a).go i H ∧ ∀ x H', (Itl G.K a).yld i H x H' → Le r H r H' ∧ StOk G r M H' ∧ Rep G r H' x d := by
    intro a vs ds q1 q2 q3
    obtain ⟨v, e1, e2⟩ := q2.get q3
    refine ⟨⟨vs, v, q1, e1⟩, fun x H' y => same y.1 ?_⟩
    have z := y.2 vs q1
    rw [e1] at z
    cases z
    exact e2
  have K : ∀ {a : Addr} {ob : Obj} {kvs : List (Key × V)}, H a = some (.frz ob (.dK kvs)) → (kvs.map fun p => kD p.1)[i]? = some d → (Itk a ob kvs).go i H ∧ ∀ x H', (Itk a ob kvs).yld i H x H' → Le r H r H' ∧ StOk G r M H' ∧ Rep G r H' x d := by
    intro a ob kvs q1 q2
    rw [List.getElem?_map] at q2
    obtain ⟨p, e1, rfl⟩ := Option.map_eq_some_iff.mp q2
    refine ⟨⟨q1, (List.getElem?_eq_some_iff.mp e1).1⟩, fun x H' y => same y.1 ?_⟩
    obtain ⟨_, k, v, e2, rfl⟩ := y
    rw [e1] at e2
    cases e2
    cases k with
    | inl j => exact .int
    | inr j => exact .str
  cases h with
  | dk h1 => exact K (off_some.mp h1).2 e
  | dkc h1 h2 => exact K h2 e
  | lst h1 h2 => exact L (.of (off_some.mp h1).2) h2 e
  | scr h1 h2 => exact L (sqL_off h1) h2 e
  | tup h1 h2 =>
    obtain ⟨v, e1, e2⟩ := h2.get (show _ = some d from e)
    refine ⟨⟨_, v, sqT_off h1, e1⟩, fun x H' y => same y.1 ?_⟩
    have z := y.2 _ (sqT_off h1)
    rw [e1] at z
    cases z
    exact e2
  | str =>
    rename_i y
    have e' : (y.cps.toList.map sgn)[i]? = some d := e
    have hl : i < y.cps.size := by
      have q : i < (y.cps.toList.map sgn).length := hi
      simpa using q
    refine ⟨hl, fun x H' q => same q.1 ?_⟩
    obtain ⟨c, c1, rfl⟩ := q.2
    rw [List.getElem?_map, Array.getElem?_toList, c1] at e'
    cases e'
    exact .str
  | rng =>
    cases e
    exact ⟨hi, fun x H' q => same q.1 (by rw [q.2]; exact .int)⟩
  | enm h1 h2 =>
    have e' : (enumL 0 _)[i]? = some d := e
    rw [enumL_get] at e'
    obtain ⟨d0, e0, rfl⟩ := Option.map_eq_some_iff.mp e'
    obtain ⟨v, e1, e2⟩ := h2.get e0
    have q1 : SqL G.K H _ _ := .of (off_some.mp h1).2
    refine ⟨⟨_, v, q1, e1⟩, fun x H' y => ?_⟩
    obtain ⟨T, x', rfl, hT, rfl, hx⟩ := y
    have z := hx _ q1
    rw [e1] at z
    cases z
    obtain ⟨L, S'⟩ := S.new (o := .tup [.int (i : Nat), v]) hT
    exact ⟨L, S', .tup (.of (off_new (S.fresh hT))) (.cons (by rw [Nat.zero_add]; exact .int) (.cons (e2.le L) .nil))⟩
  | cell h1 =>
    rename_i a c n
    cases em : M[c]? with
    | none => simp only [Src.get, em] at e; cases e
    | some o =>
      simp only [Src.get, em] at e
      have q := S.at_ _ _ _ h1 em
      cases o with
      | lst xs =>
        obtain ⟨vs, q1, q2⟩ := q
        exact L (.of q1) q2 e
      | _ => cases e
end

/-! ### the iterable -/
abbrev DI := DEnv → Ev Src
def WI (X : Cx) (tg iter : Expr) (σ : L2.St) (H : Hp) (R : It → Hp → Prop) : Prop := ∀ (pins : List (Addr × Obj)) (s : Shared), Inv X pins σ H s →
  wpAny (model X.prog X.w) X.A (eval iter X.env) (fun v s1 => wpAny (model X.prog X.w) X.A (pyIter v) (PIE X pins σ tg R) X.xe s1) X.xe s
theorem piW {X : Cx} (tg iter : Expr) : PI X tg iter (WI X tg iter) := ⟨fun pins s _ _ _ I h => h pins s I⟩
theorem _root_.L2.PI.wi {X : Cx} {tg iter : Expr} {t : TI} (h : PI X tg iter t) {σ : L2.St} {H : Hp} {R : It → Hp → Prop} (q : t σ H R) : WI X tg iter σ H R := fun pins s I => h.run pins s σ H R I q
structure SI (G : Gd) (X : Cx) (tg iter : Expr) (m : DI) : Prop where
  ru : ∀ (W : WX), Takes X W → ∀ (δ : DEnv) (M : List D) (σ : L2.St) (r : List Addr) (H : Hp) (R : It → Hp → Prop),
  StOk G r M H → EnvOk G r H σ δ → Post G W σ (fun z M1 r1 H1 => ∀ J, RepI G r1 H1 J z → Own H r1 z → R J H1) r H (m δ M) → WI X tg iter σ H R
/-- a value that is walked -/
def srcM (M : List D) : D → Option Src
  | .lst ds => some (.vals ds)
  | .scr ds => some (.vals ds)
  | .tup ds => some (.vals ds)
  | .str x => some (.vals (x.cps.toList.map sgn))
  | .cell c => match M[c]? with
    | some (.lst xs) => some (.cell c xs.length)
    | _ => none
  | _ => none
/-- dicts too: a dict that is a cell is locked while it is walked -/
def srcK (M : List D) (d : D) : R Src := match d with
  | .dct ks _ => .ok (.vals ks) M
  | .cell c => match M[c]? with
    | some (.lst xs) => .ok (.cell c xs.length) M
    | some (.dct ks vs) => .ok (.dkc c ks true) (M.set c (.lck ks vs))
    | some (.lck ks _) => .ok (.dkc c ks false) M
    | _ => .stk
  | d => optE (srcM M d) M
def dIt (a : DE) : DI := fun δ => bnd (a δ) fun d M => srcK M d
def dRng1 (a : DE) : DI := fun δ => bnd (a δ) fun d => match d with
  | .int j => if -(2 ^ 62) ≤ j ∧ j < 2 ^ 62 then ret (.rng 0 j.toNat) else stuck
  | _ => stuck
def dRng2 (a b : DE) : DI := fun δ => bnd (a δ) fun d => bnd (b δ) fun d' => match d, d' with
  | .int i, .int j => if -(2 ^ 62) ≤ i ∧ i < 2 ^ 62 ∧ -(2 ^ 62) ≤ j ∧ j < 2 ^ 62 then ret (.rng i (j - i).toNat) else stuck
  | _, _ => stuck
section
variable {G : Gd} {X : Cx}
theorem list_it {tg : Expr} {pins : List (Addr × Obj)} {σ : L2.St} {H : Hp} {s : Shared} {R : It → Hp → Prop} {a : Addr} {vs : List V} (I : Inv X pins σ H s) (hq : SqL X.K H a vs) (q : R (Itl X.K a) H) : wpAny (model X.prog X.w) X.A (pyIter (.ref a)) (PIE X pins σ tg R) X.xe s := by
  obtain ⟨its, _, p, _⟩ := I.list hq
  exact wpAny_pyIter_list p.isList (pi_one (tk := s.toks) I _ (turn_list a _) ⟨_, Heap.get?_push_size _ rfl, rfl, rfl⟩ q)
theorem tup_it {tg : Expr} {pins : List (Addr × Obj)} {σ : L2.St} {H : Hp} {s : Shared} {R : It → Hp → Prop} {a : Addr} {vs : List V} (I : Inv X pins σ H s) (hq : SqT X.K H a vs) (q : R (Itt X.K a) H) : wpAny (model X.prog X.w) X.A (pyIter (.ref a)) (PIE X pins σ tg R) X.xe s := by
  obtain ⟨its, _, p, _⟩ := I.tuple hq
  exact wpAny_pyIter_tuple (show s.heap.IsTuple a its.toArray from p) (pi_one (tk := s.toks) I _ (turn_tuple a _) ⟨_, Heap.get?_push_size _ rfl, rfl, rfl⟩ q)
theorem str_it {tg : Expr} {pins : List (Addr × Obj)} {σ : L2.St} {H : Hp} {s : Shared} {R : It → Hp → Prop} {x : Str} {t : Tok} (I : Inv X pins σ H s) (q : R (Its x) H) : wpAny (model X.prog X.w) X.A (pyIter (.str x t)) (PIE X pins σ tg R) X.xe s := by
  cases ha : x.cps.all (· < 128) with
  | false => exact wpAny_pyIter_wide ha (pi_one (tk := s.toks) I _ (turn_str _ x t "str_iterator" (.inr rfl)) ⟨_, Heap.get?_push_size _ rfl, rfl, rfl⟩ q)
  | true => exact wpAny_pyIter_ascii ha (pi_one (tk := s.toks) I _ (turn_str _ x t "str_ascii_iterator" (.inl rfl)) ⟨_, Heap.get?_push_size _ rfl, rfl, rfl⟩ q)
theorem dict_it {tg : Expr} {pins : List (Addr × Obj)} {σ : L2.St} {H : Hp} {s : Shared} {R : It → Hp → Prop} {a : Addr} {kvs : List (Key × V)} (I : Inv X pins σ H s) (hq : Rd H a (.dK kvs))
    (q1 : ∀ ob, H a = some (.frz ob (.dK kvs)) → R (Itk a ob kvs) H) (q2 : H a = some (.dK kvs) → ∀ ob, R (Itk a ob kvs) (upd H a (.frz ob (.dK kvs)))) : wpAny (model X.prog X.w) X.A (pyIter (.ref a)) (PIE X pins σ tg R) X.xe s := by
  have one : ∀ {H' : Hp} {ob : Obj}, Inv X pins σ H' s → H' a = some (.frz ob (.dK kvs)) → R (Itk a ob kvs) H' → wpAny (model X.prog X.w) X.A (pyIter (.ref a)) (PIE X pins σ tg R) X.xe s := fun I1 hd q => by
    obtain ⟨hs, hgd, hx, es, ep, vs, hdt, hsz, kv, hm⟩ := I1.frzK hd
    refine iter_keys hs hgd hx hdt (pi_one (tk := s.toks) I1 _ (turn_keys _ hdt) ⟨_, Heap.get?_push_size _ rfl, rfl, ?_⟩ q)
    rw [hsz] <;> rfl
  rcases hq with e | ⟨ob, e⟩
  · obtain ⟨od, I1⟩ := I.lock e True.intro
    exact one I1 upd_same (q2 e od)
  · exact one I e (q1 ob e)
theorem SI.of (hK : G.K = X.K) {tg e : Expr} {m : DE} (h : SE G X e m) : SI G X tg e (dIt m) := by
  refine ⟨?_⟩
  intro W tk δ M σ r H R S E p pins s I
  refine thn (h.ru W tk δ M σ r H (fun x H1 => ∀ (pins : List (Addr × Obj)) (s : Shared) (v : Value), Inv X pins σ H1 s → RelV x v → wpAny (model X.prog X.w) X.A (pyIter v) (PIE X pins σ tg R) X.xe s) S E (p.bnd.imp ?_) pins s I) fun v s1 ⟨x, H1, I1, r1, q1⟩ => q1 pins s1 v I1 r1
  intro d M1 r1 H1 L1 S1 h1 x Rx pins s v I1 rv
  cases Rx with
  | lst q1 q2 =>
    cases rv
    exact list_it I1 (hK ▸ SqL.of (K := G.K) (off_some.mp q1).2) (hK ▸ h1 r1 H1 S1.le S1 _ (.lst q1 q2) .no)
  | scr q1 q2 =>
    cases rv
    exact list_it I1 (hK ▸ sqL_off q1) (hK ▸ h1 r1 H1 S1.le S1 _ (.scr q1 q2) .no)
  | tup q1 q2 =>
    cases rv
    exact tup_it I1 (hK ▸ sqT_off q1) (hK ▸ h1 r1 H1 S1.le S1 _ (.tup q1 q2) .no)
  | str =>
    obtain ⟨t, rfl⟩ := rv
    exact str_it I1 (h1 r1 H1 S1.le S1 _ .str .no)
  | cell q1 =>
    rename_i a c
    cases rv
    cases em : M1[c]? with
    | none => simp only [srcK, em] at h1; exact h1.elim
    | some o =>
      cases o with
      | dct ks vs =>
        simp only [srcK, em] at h1
        obtain ⟨kvs, w1, rfl, w2⟩ := S1.at_ _ _ _ q1 em
        refine dict_it I1 (.inl w1) (fun ob z => by rw [w1] at z; cases z) fun _ ob => ?_
        have ha := List.mem_of_getElem? q1
        obtain ⟨L', S'⟩ := S1.write (o := .frz ob (.dK kvs)) (d := .lck (kvs.map fun p => kD p.1) vs) q1 w1 fun L => ⟨ob, kvs, upd_same, rfl, w2.le L⟩
        exact h1 r1 _ L' S' _ (.dkc q1 upd_same) fun c' ks' e => by
          cases e
          exact ⟨a, q1, fun o u z => by have := L1.fz _ _ _ z; rw [w1] at this; cases this⟩
      | lck ks vs =>
        simp only [srcK, em] at h1
        obtain ⟨ob, kvs, w1, rfl, w2⟩ := S1.at_ _ _ _ q1 em
        refine dict_it I1 (.inr ⟨ob, w1⟩) (fun ob' z => ?_) fun z => by rw [w1] at z; cases z
        exact h1 r1 H1 S1.le S1 _ (.dkc q1 z) .no
      | lst xs =>
        simp only [srcK, em] at h1
        obtain ⟨vs, w1, w2⟩ := S1.at_ _ _ _ q1 em
        exact list_it I1 (hK ▸ SqL.of (K := G.K) w1) (hK ▸ h1 r1 H1 S1.le S1 _ (.cell q1) .no)
      | _ => simp only [srcK, em] at h1; exact h1.elim
  | dct q1 q2 =>
    rename_i a kvs vs
    cases rv
    refine dict_it I1 (rd_off q1) (fun ob z => ?_) fun z ob => ?_
    · refine h1 r1 H1 S1.le S1 _ (.dk ?_) .no
      rcases q1 with q1 | ⟨o, q1⟩
      · rw [(off_some.mp q1).2] at z; cases z
      · have := (off_some.mp q1).2; rw [z] at this; cases this; exact q1
    · have q3 : off G r1 H1 a = some (.dK kvs) := by
        rcases q1 with q1 | ⟨o, q1⟩
        · exact q1
        · have := (off_some.mp q1).2; rw [z] at this; cases this
      obtain ⟨L2, S2, q4⟩ := S1.frz q3 ob
      exact h1 r1 _ L2 S2 _ (.dk q4) .no
  | _ => exact h1.elim
theorem SI.rng1 {tg a : Expr} {p pos : Pos} {m : DE} (hg : Gl X "range") (hm : X.mg "range" = none) (ha : SE G X a m) (hs : starEach [a] X.env = [(false, eval a X.env)]) : SI G X tg (.Call (.Name "range" p) [a] [] pos) (dRng1 m) := by
  refine ⟨?_⟩
  intro W tk δ M σ r H R S E q
  refine (pi_range1 hg hm (pa_cons (peW a) pa_nil hs) hs).wi ?_
  refine ha.ru W tk δ M σ r H _ S E (q.bnd.imp ?_)
  intro d M1 r1 H1 L1 S1 h1 x Rx
  cases Rx with
  | int =>
    rename_i j
    dsimp only at h1
    by_cases c : -(2 ^ 62) ≤ j ∧ j < 2 ^ 62
    · rw [if_pos c] at h1
      exact ⟨j, rfl, c.1, c.2, h1 r1 H1 S1.le S1 _ .rng .no⟩
    · rw [if_neg c] at h1
      exact h1.elim
  | _ => exact h1.elim
theorem SI.rng2 {tg a b : Expr} {p pos : Pos} {ma mb : DE} (hg : Gl X "range") (hm : X.mg "range" = none) (ha : SE G X a ma) (hb : SE G X b mb) (hs : starEach [a, b] X.env = [(false, eval a X.env), (false, eval b X.env)]) (hs2 : starEach [b] X.env = [(false, eval b X.env)]) :
    SI G X tg (.Call (.Name "range" p) [a, b] [] pos) (dRng2 ma mb) := by
  refine ⟨?_⟩
  intro W tk δ M σ r H R S E q
  refine (pi_range2 hg hm (pa_cons (peW a) (pa_cons (peW b) pa_nil hs2) (by rw [hs, hs2])) hs hs2).wi ?_
  refine ha.ru W tk δ M σ r H _ S E (q.bnd.imp ?_)
  intro d M1 r1 H1 L1 S1 h1 x Rx
  refine hb.ru W tk δ M1 σ r1 H1 _ S1 (E.le L1) (h1.bnd.imp ?_)
  intro d' M2 r2 H2 L2 S2 h2 x' Rx'
  cases Rx with
  | int =>
    rename_i i
    cases Rx' with
    | int =>
      rename_i j
      dsimp only at h2
      by_cases c : -(2 ^ 62) ≤ i ∧ i < 2 ^ 62 ∧ -(2 ^ 62) ≤ j ∧ j < 2 ^ 62
      · rw [if_pos c] at h2
        exact ⟨i, j, rfl, c, h2 r2 H2 S2.le S2 _ .rng .no⟩
      · rw [if_neg c] at h2
        exact h2.elim
    | _ => exact h2.elim
  | _ => exact h2.elim

/-- enumerate(list) -/
def dEnum (a : DE) : DI := fun δ => bnd (a δ) fun d => match d with
  | .lst ds => ret (.vals (enumL 0 ds))
  | _ => stuck
theorem SI.enm (hK : G.K = X.K) {elts : List Expr} {kk : Nat} {tpos : Pos} {e : Expr} {p pos : Pos} {m : DE} (hg : Gl X "enumerate") (hm : X.mg "enumerate" = none) (h : SE G X e m) (hs : starEach [e] X.env = [(false, eval e X.env)]) : SI G X (.Tuple elts kk tpos) (.Call (.Name "enumerate" p) [e] [] pos) (dEnum m) := by
  refine ⟨?_⟩
  intro W tk δ M σ r H R S E q
  refine (pi_enum hg hm (pa_cons (peW e) pa_nil hs) hs).wi ?_
  refine h.ru W tk δ M σ r H _ S E (q.bnd.imp ?_)
  intro d M1 r1 H1 L1 S1 h1 x Rx
  cases Rx with
  | lst q1 q2 => exact ⟨_, _, rfl, hK ▸ SqL.of (K := G.K) (off_some.mp q1).2, hK ▸ h1 r1 H1 S1.le S1 _ (.enm q1 q2) .no⟩
  | _ => exact h1.elim

/-! ### for -/
/-- what stays as it is when a lock is taken off -/
structure Kp (G : Gd) (r : List Addr) (H H2 : Hp) : Prop where
  off : ∀ b o, Iv.off G r H b = some o → Iv.off G r H2 b = some o
theorem Kp.rep {G : Gd} {r : List Addr} {H H2 : Hp} (k : Kp G r H H2) {v : V} {d : D} (h : Rep G r H v d) : Rep G r H2 v d := Rep.via (G := G) (h2 := G.hid) k.off h
theorem Kp.reps {G : Gd} {r : List Addr} {H H2 : Hp} (k : Kp G r H H2) {v : List V} {d : List D} (h : Reps G r H v d) : Reps G r H2 v d := Reps.via (G := G) (h2 := G.hid) k.off h
theorem Kp.env {G : Gd} {r : List Addr} {H H2 : Hp} (k : Kp G r H H2) {σ : L2.St} {δ : DEnv} (h : EnvOk G r H σ δ) : EnvOk G r H2 σ δ := EnvOk.via (G := G) (h2 := G.hid) k.off h
theorem Own.le {H0 : Hp} {r r1 : List Addr} {z : Src} (h : Own H0 r z) (l : ∀ {n : Nat} {a : Addr}, r[n]? = some a → r1[n]? = some a) : Own H0 r1 z := fun c ks e => let ⟨a, h1, h2⟩ := h c ks e; ⟨a, l h1, h2⟩
/-- the end of a walk: its own lock is taken off -/
theorem unl_ok {G : Gd} {r0 r : List Addr} {H0 H : Hp} {M : List D} {J : It} {z : Src} (S : StOk G r M H) (hJ : RepI G r H J z) (L : Le r0 H0 r H) (ho : Own H0 r z) : ∃ H2, Unl H0 H H2 ∧ Le r0 H0 r H2 ∧ StOk G r (z.out M) H2 ∧ Kp G r H H2 := by
  have same : z.out M = M → ∃ H2, Unl H0 H H2 ∧ Le r0 H0 r H2 ∧ StOk G r (z.out M) H2 ∧ Kp G r H H2 := fun e => ⟨H, .inl rfl, L, by rw [e]; exact S, ⟨fun _ _ h => h⟩⟩
  cases z with
  | vals ds => exact same rfl
  | rng lo n => exact same rfl
  | cell c n => exact same rfl
  | dkc c ks own =>
    cases own with
    | false => exact same rfl
    | true =>
      cases hJ with
      | dkc h1 h2 =>
        rename_i a ob kvs
        cases em : M[c]? with
        | none => exact same (by show (match M[c]? with | some (.lck ks vs) => M.set c (.dct ks vs) | _ => M) = M; rw [em])
        | some o =>
          have q := S.at_ _ _ _ h1 em
          cases o with
          | lck ks vs =>
            obtain ⟨ob', kvs', w1, rfl, w2⟩ := q
            have eo : Src.out M (.dkc c (kvs.map fun p => kD p.1) true) = M.set c (.dct (kvs'.map fun p => kD p.1) vs) := by
              show (match M[c]? with | some (.lck ks vs) => M.set c (.dct ks vs) | _ => M) = _
              rw [em]
            obtain ⟨a', h1', nf⟩ := ho c _ rfl
            rw [h1] at h1'
            cases h1'
            have ha := List.mem_of_getElem? h1
            have kp : Kp G r H (upd H a (.dK kvs')) := ⟨off_updC ha⟩
            refine ⟨upd H a (.dK kvs'), .inr ⟨a, ob', kvs', nf, w1, rfl⟩, ⟨L.pre, fun b o e hb => ?_, fun b hb => ?_, fun b ob u e => ?_⟩, ?_, kp⟩
            · rw [upd_ne (show b ≠ a from fun z => by
                subst z
                obtain ⟨new, rfl, hn⟩ := L.pre
                rcases List.mem_append.mp ha with hm | hm
                · exact hb hm
                · rw [hn b hm] at e; cases e)]
              exact L.keep b o e hb
            · by_cases z : b = a
              · subst z; rw [upd_same]; intro z; cases z
              · rw [upd_ne z]; exact L.there b hb
            · rw [upd_ne (show b ≠ a from fun z => by subst z; exact nf _ _ e)]; exact L.fz b ob u e
            · rw [eo]
              exact S.swap h1 ⟨kvs', upd_same, rfl, kp.reps w2⟩
          | _ => exact same (by show (match M[c]? with | some (.lck ks vs) => M.set c (.dct ks vs) | _ => M) = M; rw [em])
/-- the turns from the i-th on, n are left -/
def turns (z : Src) (g : DG) (body : DS) : Nat → Nat → DS
  | 0, _ => fun δ M => if z.fin M then .ok (.nx δ) (z.out M) else .stk
  | n + 1, i => fun δ M => match z.get M i with
    | none => .stk
    | some d => lft (g d δ) δ (fun δ1 => bnd (body δ1) fun f => match f with
      | .nx δ2 => turns z g body n (i + 1) δ2
      | .ct δ2 => turns z g body n (i + 1) δ2
      | .bk δ2 => fun M => .ok (.nx δ2) (z.out M)
      | .rt d => fun M => .ok (.rt d) (z.out M)
      | x => ret x) M
def dFor (it : DI) (g : DG) (body : DS) : DS := fun δ => lft (it δ) δ fun z => turns z g body z.len 0 δ
theorem SS.for_ (hp : PassesOwn (model X.prog X.w) X.A X.env X.xe) (hc : X.calm = true) (hK : G.K = X.K) {tg iter : Expr} {sts : List Stmt} {pos : Pos} {it : DI} {g : DG} {body : DS} (hi : SI G X tg iter it) (hg : SG G X tg g) (hb : SSs G X sts body) (hs : ∀ x, foldedSetIterable iter X.env x = pure x) :
    SS G X (.For tg iter sts [] pos) (dFor it g body) := by
  refine ⟨?_⟩
  intro W tk δ M σ r H E S e p
  refine .unl ((ps_for hp hc (piW tg iter) (pgW tg) (pssW sts) hs).ws ?_)
  refine hi.ru W tk δ M σ r H _ S e ((p.lftB S.le e).imp ?_)
  intro z M1 r1 H1 L1 S1 h1 J hJ ho
  refine ⟨fun i m σ' H' => i + m = z.len ∧ ∃ δ M r', StOk G r' M H' ∧ EnvOk G r' H' σ' δ ∧ RepI G r' H' J z ∧ Le r H r' H' ∧ Own H r' z ∧ PostS G W E r H (turns z g body m i δ M), ⟨z.len, Nat.zero_add _, δ, M1, r1, S1, e.le L1, hJ, L1, ho, h1⟩, ?_⟩
  rintro i m σ' H' ⟨hz, δ, M, r', S, e, hJ, L, ho, q⟩
  cases m with
  | zero =>
    have q' : PostS G W E r H (if z.fin M then .ok (.nx δ) (z.out M) else .stk) := q
    by_cases c : z.fin M = true
    · rw [if_pos c] at q'
      obtain rfl : i = z.len := by omega
      obtain ⟨H2, u, L', S', k⟩ := unl_ok S hJ L ho
      exact .inl ⟨hJ.stop S c, H2, u, q' r' H2 L' S' σ' (k.env e)⟩
    · rw [if_neg c] at q'
      exact q'.elim
  | succ k =>
    unfold turns at q
    cases ed : z.get M i with
    | none => simp only [ed] at q; exact q.elim
    | some d =>
      simp only [ed] at q
      obtain ⟨go, yl⟩ := hJ.go S (show i < z.len by omega) ed
      refine .inr ⟨go, fun σ' H' => (i + 1) + k = z.len ∧ ∃ δ M r', StOk G r' M H' ∧ EnvOk G r' H' σ' δ ∧ RepI G r' H' J z ∧ Le r H r' H' ∧ Own H r' z ∧ PostS G W E r H (turns z g body k (i + 1) δ M), fun σ' H' h => ⟨k, Nat.lt_succ_self _, h⟩, fun x H' y => ?_⟩
      obtain ⟨Lx, S, Rx⟩ := yl x H' y
      have e := e.le Lx
      have hJ := hJ.le Lx
      have L := L.trans Lx
      refine hg.ru W tk d x δ M σ' r' _ _ S Rx e ((Post.lftB L e q).imp ?_)
      intro δ1 M2 r2 H2 L2 S2 h2 σ2 e2
      refine hb.ru W tk δ1 M2 σ2 r2 H2 _ S2 e2 ((Post.bndB (L.trans L2) h2).imp ?_)
      intro f M3 r3 H3 L3 S3 h3
      have L4 := (L.trans L2).trans L3
      have J3 := hJ.le (L2.trans L3)
      have o3 := (ho.le L2.get).le L3.get
      cases f with
      | nx δ3 => exact fun σ3 e3 => ⟨by omega, δ3, M3, r3, S3, e3, J3, L4, o3, h3⟩
      | ct δ3 => exact fun σ3 e3 => ⟨by omega, δ3, M3, r3, S3, e3, J3, L4, o3, h3⟩
      | bk δ3 =>
        obtain ⟨H5, u, L', S', k⟩ := unl_ok S3 J3 L4 o3
        exact fun σ3 e3 => ⟨H5, u, h3 r3 H5 L' S' σ3 (k.env e3)⟩
      | rt d3 =>
        obtain ⟨H5, u, L', S', k⟩ := unl_ok S3 J3 L4 o3
        exact fun v Rv => ⟨H5, u, h3 r3 H5 L' S' v (k.rep Rv)⟩
      | ex δ3 d3 => exact fun σ3 cls dd e3 x3 => h3 r3 H3 L4 S3 σ3 cls dd e3 x3

/-! ### while: at most n turns -/
def whiles (c : DT) (body : DS) : Nat → DS
  | 0 => fun _ => stuck
  | n + 1 => fun δ => lft (c δ) δ fun k => if k then bnd (body δ) fun f => match f with
      | .nx δ2 => whiles c body n δ2
      | .ct δ2 => whiles c body n δ2
      | .bk δ2 => ret (.nx δ2)
      | x => ret x
    else ret (.nx δ)
theorem SS.while_ (hp : PassesOwn (model X.prog X.w) X.A X.env X.xe) {c : Expr} {sts : List Stmt} {pos : Pos} {mc : DT} {body : DS} (n : Nat) (hc : ST G X c mc) (hb : SSs G X sts body) : SS G X (.While c sts [] pos) (whiles mc body n) := by
  refine ⟨?_⟩
  intro W tk δ M σ r H E S e p
  refine (ps_while hp (ptW c) (pssW sts)).ws ?_
  refine ⟨fun m σ H => ∃ δ M r, StOk G r M H ∧ EnvOk G r H σ δ ∧ PostS G W E r H (whiles mc body m δ M), ⟨n, δ, M, r, S, e, p⟩, ?_⟩
  rintro m σ H ⟨δ, M, r, S, e, q⟩
  cases m with
  | zero => exact q.elim
  | succ k =>
    refine hc.ru W tk δ M σ r H _ S e ((Post.lft (f := fun k' => if k' then bnd (body δ) fun f => match f with
      | .nx δ2 => whiles mc body k δ2
      | .ct δ2 => whiles mc body k δ2
      | .bk δ2 => Iv.ret (.nx δ2)
      | x => Iv.ret x
    else Iv.ret (.nx δ)) e q).imp ?_)
    intro b M1 r1 H1 L1 S1 h1
    cases b with
    | false =>
      refine iteF ?_
      exact h1 r1 H1 S1.le S1 σ (e.le L1)
    | true =>
      refine iteT ⟨fun σ' H' => ∃ δ M r, StOk G r M H' ∧ EnvOk G r H' σ' δ ∧ PostS G W E r H' (whiles mc body k δ M), fun σ' H' h => ⟨k, Nat.lt_succ_self _, h⟩, ?_⟩
      have h1' : PostS G W E r1 H1 (bnd (body δ) (fun f => match f with
        | .nx δ2 => whiles mc body k δ2
        | .ct δ2 => whiles mc body k δ2
        | .bk δ2 => Iv.ret (.nx δ2)
        | x => Iv.ret x) M1) := h1
      refine hb.ru W tk δ M1 σ r1 H1 _ S1 (e.le L1) (Post.imp h1'.bnd ?_)
      intro f M3 r3 H3 L3 S3 h3
      cases f with
      | nx δ3 => exact fun σ3 e3 => ⟨δ3, M3, r3, S3, e3, h3⟩
      | ct δ3 => exact fun σ3 e3 => ⟨δ3, M3, r3, S3, e3, h3⟩
      | bk δ3 => exact fun σ3 e3 => h3 r3 H3 S3.le S3 σ3 e3
      | rt d3 => exact h3 r3 H3 S3.le S3
      | ex δ3 d3 => exact h3 r3 H3 S3.le S3
end
end Iv
/-! List comprehensions. -/
namespace Iv
open PySem PySem.Spec PyProof.Rows L2

section
variable {G : Gd} {r r1 : List Addr} {H H1 H2 : Hp} {M : List D} {h2 : List Addr} {p : Addr} {o : HO} {σ : L2.St} {δ : DEnv}
theorem RepI.via (ho : ∀ a o, off G r H a = some o → off (G.at h2) r H2 a = some o) (hc : ∀ a ∈ r, H2 a = H a) {J : It} {z : Src} (h : RepI G r H J z) : RepI (G.at h2) r H2 J z := by
  cases h with
  | lst h1 h2 => exact .lst (ho _ _ h1) (h2.via ho)
  | scr h1 h2 => exact .scr (sqL_via ho h1) (h2.via ho)
  | tup h1 h2 => exact .tup (sqT_via ho h1) (h2.via ho)
  | str => exact .str
  | rng => exact .rng
  | cell h1 => exact .cell h1
  | enm h1 h2 => exact .enm (ho _ _ h1) (h2.via ho)
  | dk h1 => exact .dk (ho _ _ h1)
  | dkc h1 h2 => exact .dkc h1 ((hc _ (List.mem_of_getElem? h1)).trans h2)
theorem off_hide (hp : H p = none) : ∀ a u, off G r H a = some u → off (G.hide p) r (upd H p o) a = some u := fun a u h => by
  obtain ⟨⟨h1, h2⟩, h3⟩ := off_some.mp h
  have ne : a ≠ p := ne_of_none h3 hp
  exact off_some.mpr ⟨⟨fun z => (List.mem_cons.mp z).elim ne h1, h2⟩, by rw [upd_ne ne]; exact h3⟩
theorem off_show : ∀ a u, off (G.hide p) r H a = some u → off G r H a = some u := fun a u h => by
  obtain ⟨⟨h1, h2⟩, h3⟩ := off_some.mp h
  exact off_some.mpr ⟨⟨fun z => h1 (List.mem_cons_of_mem _ z), h2⟩, h3⟩
theorem off_updH (hp : p ∈ G.hid) : ∀ a u, off G r H a = some u → off G r (upd H p o) a = some u := fun a u h => by
  obtain ⟨⟨h1, h2⟩, h3⟩ := off_some.mp h
  exact off_some.mpr ⟨⟨h1, h2⟩, by rw [upd_ne (show a ≠ p from fun z => h1 (by rw [z]; exact hp))]; exact h3⟩
/-- an object is laid and hidden -/
theorem StOk.hide (S : StOk G r M H) (hp : H p = none) : Le r H r (upd H p o) ∧ StOk (G.hide p) r M (upd H p o) := by
  obtain ⟨L, S'⟩ := S.new (o := o) hp
  have np := S.fresh hp
  refine ⟨L, S'.len, S'.nd, fun n a d h1 h2 => ?_, fun a ha => ?_⟩
  · exact (S.at_ n a d h1 h2).via (off_hide hp) (upd_ne (show a ≠ p from fun z => np.2 (by rw [← z]; exact List.mem_of_getElem? h1)))
  · rcases List.mem_cons.mp ha with e | h
    · subst e; exact ⟨by rw [upd_same]; exact (fun z => nomatch z), np.2⟩
    · exact S'.hid a h
theorem StOk.show_ (S : StOk (G.hide p) r M H) : StOk G r M H := ⟨S.len, S.nd, fun n a d h1 h2 => CellAt.via (G := G.hide p) (h2 := G.hid) off_show rfl (S.at_ n a d h1 h2), fun a ha => S.hid a (List.mem_cons_of_mem _ ha)⟩
theorem StOk.updH (S : StOk G r M H) (hp : p ∈ G.hid) : StOk G r M (upd H p o) := by
  refine ⟨S.len, S.nd, fun n a d h1 h2 => ?_, fun a ha => ⟨?_, (S.hid a ha).2⟩⟩
  · exact CellAt.via (h2 := G.hid) (off_updH hp) (upd_ne (show a ≠ p from fun z => (S.hid p hp).2 (by rw [← z]; exact List.mem_of_getElem? h1))) (S.at_ n a d h1 h2)
  · by_cases e : a = p
    · subst e; rw [upd_same]; exact (fun z => nomatch z)
    · rw [upd_ne e]; exact (S.hid a ha).1
theorem Le.updN (L : Le r1 H1 r H) (hp : H1 p = none) (np : p ∉ r) : Le r1 H1 r (upd H p o) := ⟨L.pre, fun a u e h => by rw [upd_ne (ne_of_none e hp)]; exact L.keep a u e h, fun a ha => by
  have ne : a ≠ p := fun z => np (by
    obtain ⟨new, rfl, _⟩ := L.pre
    rw [← z]
    exact List.mem_append_left _ ha)
  rw [upd_ne ne]
  exact L.there a ha, fun a ob u e => by
  rw [upd_ne (ne_of_none e hp)]
  exact L.fz a ob u e⟩
theorem Le.none (L : Le r H r1 H1) (h : H1 p = none) : H p = none := by
  cases e : H p with
  | none => rfl
  | some o =>
    by_cases hr : p ∈ r
    · exact absurd h (L.there p hr)
    · exact absurd h (L.keep p o e hr).ne
theorem Le.out (L : Le r H r1 H1) {u : HO} (hp : H p = some u) (np : p ∉ r) (n : noDK u = true := by rfl) : p ∉ r1 ∧ H1 p = some u := by
  refine ⟨fun z => ?_, (L.keep p u hp np).get n⟩
  obtain ⟨new, rfl, hn⟩ := L.pre
  rcases List.mem_append.mp z with z | z
  · exact np z
  · rw [hn p z] at hp; cases hp
/-- slots forgotten -/
def wipeD (δ : DEnv) : List Nat → DEnv
  | [] => δ
  | v :: vs => (wipeD δ vs).set v none
theorem EnvOk.wipe (E : EnvOk G r H σ δ) : ∀ vs : List Nat, EnvOk G r H (L2.wipe σ vs) (wipeD δ vs)
  | [] => E
  | i :: vs => by
    have I := EnvOk.wipe E vs
    show EnvOk G r H ((L2.wipe σ vs).set i none) ((wipeD δ vs).set i none)
    refine ⟨by rw [List.length_set, List.length_set]; exact I.len, fun j d e => ?_⟩
    by_cases h : i = j
    · subst h
      rw [List.getElem?_set] at e
      simp only [if_true] at e
      split at e <;> cases e
    · rw [List.getElem?_set_ne h] at e ⊢
      exact I.at_ j d e
end

/-! ### targets that touch certain slots alone -/
structure SGv (G : Gd) (X : Cx) (tg : Expr) (m : DG) (vs : List Nat) : Prop where
  ru : ∀ (W : WX), Takes X W → ∀ (d : D) (v : V) (δ : DEnv) (M : List D) (σ : L2.St) (r : List Addr) (H : Hp) (Q : L2.St → Hp → Prop),
  StOk G r M H → Rep G r H v d → EnvOk G r H σ δ → Post G W σ (fun δ' _ r' H' => ∀ σ', EnvOk G r' H' σ' δ' → L2.wipe σ' vs = L2.wipe σ vs → Q σ' H') r H (m d δ M) → WG X tg v σ H Q
theorem wipe_at {σ : L2.St} {i : Nat} : ∀ {vs : List Nat}, i ∈ vs → (L2.wipe σ vs).set i none = L2.wipe σ vs
  | v :: vs, h => by
    show (((L2.wipe σ vs).set v none).set i none) = (L2.wipe σ vs).set v none
    by_cases e : v = i
    · subst e
      exact List.set_set ..
    · rw [List.set_comm _ _ e, wipe_at ((List.mem_cons.mp h).resolve_left fun z => e z.symm)]
theorem wipe_set {σ : L2.St} {i : Nat} {x : Option V} : ∀ {vs : List Nat}, i ∈ vs → L2.wipe (σ.set i x) vs = L2.wipe σ vs
  | v :: vs, h => by
    show (L2.wipe (σ.set i x) vs).set v none = (L2.wipe σ vs).set v none
    by_cases e : i ∈ vs
    · rw [wipe_set e]
    · have e2 : i = v := (List.mem_cons.mp h).resolve_right e
      subst e2
      have q : ∀ {ws : List Nat} {τ : L2.St}, i ∉ ws → L2.wipe (τ.set i x) ws = (L2.wipe τ ws).set i x := by
        intro ws
        induction ws with
        | nil => intro τ _; rfl
        | cons w ws ih =>
          intro τ hn
          have hn' : i ≠ w ∧ i ∉ ws := by simpa using hn
          show (L2.wipe (τ.set i x) ws).set w none = ((L2.wipe τ ws).set w none).set i x
          rw [ih hn'.2, List.set_comm _ _ (show i ≠ w from hn'.1)]
      rw [q e]
      exact List.set_set ..
theorem wipe_wipe {σ : L2.St} {vs : List Nat} : ∀ {ws : List Nat}, (∀ w ∈ ws, w ∈ vs) → L2.wipe (L2.wipe σ ws) vs = L2.wipe σ vs
  | [], _ => rfl
  | w :: ws, h => by
    show L2.wipe ((L2.wipe σ ws).set w none) vs = _
    rw [wipe_set (h w List.mem_cons_self), wipe_wipe fun u hu => h u (List.mem_cons_of_mem _ hu)]
theorem SGv.name {G : Gd} {X : Cx} {i : Nat} {x : Str} {pos : Pos} {vs : List Nat} (hN : X.N.Nodup) (hi : X.N[i]? = some x) (hx : Loc X.env.scope x) (hf : X.fn x = true ∨ X.env.scope.names.lookup x = some .local) (hv : i ∈ vs) : SGv G X (.Name x pos) (gVar i) vs := by
  refine ⟨?_⟩
  intro W tk d v δ M σ r H Q S Rv e p
  exact (pg_name hN hi hx hf).wg (p r H S.le S _ (e.set Rv) (wipe_set hv))
/-- the conditions of a comprehension -/
def WTs (X : Cx) (ifs : List Expr) (σ : L2.St) (H : Hp) (Q : Bool → Hp → Prop) : Prop := ∃ t, PTs X ifs t ∧ t σ H Q
theorem ptsW {X : Cx} (ifs : List Expr) : PTs X ifs (WTs X ifs) := ⟨fun pins s σ H Q I ⟨_, h, q⟩ => h.run pins s σ H Q I q⟩
structure STs (G : Gd) (X : Cx) (ifs : List Expr) (m : DT) : Prop where
  ru : ∀ (W : WX), Takes X W → ∀ (δ : DEnv) (M : List D) (σ : L2.St) (r : List Addr) (H : Hp) (Q : Bool → Hp → Prop),
  StOk G r M H → EnvOk G r H σ δ → Post G W σ (JT Q) r H (m δ M) → WTs X ifs σ H Q
def dYes : DT := fun _ => ret true
theorem STs.nil {G : Gd} {X : Cx} : STs G X [] dYes := ⟨fun W tk δ M σ r H Q S E p => ⟨_, pts_nil, p r H S.le S⟩⟩
theorem STs.one {G : Gd} {X : Cx} {c : Expr} {m : DT} (h : ST G X c m) : STs G X [c] m := ⟨fun W tk δ M σ r H Q S E p => ⟨_, pts_one (ptW c), h.ru W tk δ M σ r H Q S E p⟩⟩

/-! ### the comprehension -/
def lcs (z : Src) (g : DG) (tt : DT) (te : DE) (δ : DEnv) : Nat → Nat → Ev (List D)
  | 0, _ => fun M => if z.fin M then .ok [] (z.out M) else .stk
  | n + 1, i => fun M => match z.get M i with
    | none => .stk
    | some d => bnd (g d δ) (fun δ1 => bnd (tt δ1) fun b => if b then bnd (te δ1) (fun y => bnd (lcs z g tt te δ n (i + 1)) fun ys => ret (y :: ys)) else lcs z g tt te δ n (i + 1)) M
/-- no exception -/
def noX {α : Type} (x : Ev α) : Ev α := fun M => match x M with
  | .ok a M' => .ok a M'
  | _ => .stk
def dLc (it : DI) (g : DG) (tt : DT) (te : DE) (vs : List Nat) : DE := fun δ => bnd (it δ) fun z => if z.len ≤ sizeLine then noX (bnd (lcs z g tt te (wipeD δ vs) z.len 0) fun ys => ret (.lst ys)) else stuck
theorem bnd_ok {α β : Type} {x : Ev α} {f : α → Ev β} {M M' : List D} {b : β} (h : bnd x f M = .ok b M') : ∃ a M1, x M = .ok a M1 ∧ f a M1 = .ok b M' := by
  unfold bnd at h
  cases e : x M with
  | ok a M1 => rw [e] at h; exact ⟨a, M1, rfl, h⟩
  | exc _ _ => rw [e] at h; cases h
  | stk => rw [e] at h; cases h
theorem takesF {X : Cx} : Takes X WF := fun _ _ ⟨_, _, _, _, _, _, _, _, _, _, _, _, _, _, _, _, w⟩ => w.elim
section
variable {G : Gd} {X : Cx}
abbrev lcG (X : Cx) (scope : Scope) (tg : Expr) : TG := fun v σ H Q => ∀ (s : Shared) (H0 : Hp) (C : Addr) (cl : List (Str × Addr)) (fp : List Addr), WG (X.blk s H0 scope (compEnvC scope cl C X.env) fp) tg v σ H Q
abbrev lcT (X : Cx) (scope : Scope) (ifs : List Expr) : TT := fun σ H Q => ∀ (s : Shared) (H0 : Hp) (C : Addr) (cl : List (Str × Addr)) (fp : List Addr), WTs (X.blk s H0 scope (compEnvC scope cl C X.env) fp) ifs σ H Q
abbrev lcE (X : Cx) (scope : Scope) (elt : Expr) : TE := fun σ H Q => ∀ (s : Shared) (H0 : Hp) (C : Addr) (cl : List (Str × Addr)) (fp : List Addr), WE (X.blk s H0 scope (compEnvC scope cl C X.env) fp) elt σ H Q
theorem lc_post {elt tg iter : Expr} {ifs : List Expr} {scope : Scope} {own : List (Str × Nat)} {it : DI} {g : DG} {tt : DT} {te : DE} (hi : SI G X tg iter it)
    (hg : ∀ (D : Addr) (s : Shared) (H : Hp) (C : Addr) (cl : List (Str × Addr)) (fp : List Addr), SGv (G.hide D) (X.blk s H scope (compEnvC scope cl C X.env) fp) tg g (own.map (·.2)))
    (ht : ∀ (D : Addr) (s : Shared) (H : Hp) (C : Addr) (cl : List (Str × Addr)) (fp : List Addr), STs (G.hide D) (X.blk s H scope (compEnvC scope cl C X.env) fp) ifs tt)
    (he : ∀ (D : Addr) (s : Shared) (H : Hp) (C : Addr) (cl : List (Str × Addr)) (fp : List Addr), SE (G.hide D) (X.blk s H scope (compEnvC scope cl C X.env) fp) elt te) (W : WX) (tk : Takes X W) (δ : DEnv) (M : List D) (σ : L2.St) (r : List Addr) (H : Hp) (Q : VK) (S : StOk G r M H) (E : EnvOk G r H σ δ)
    (p : Post G W σ (JE G Q) r H (dLc it g tt te (own.map (·.2)) δ M)) : tLc (WI X tg iter) (lcG X scope tg) (lcT X scope ifs) (lcE X scope elt) (own.map (·.2)) σ H (unQ H Q) := by
  refine hi.ru W tk δ M σ r H _ S E ((Post.bndB S.le p).imp ?_)
  intro z M1 r1 H1 L1 S1 h1 J hJ ho D hD
  have hD0 : H D = none := L1.none hD
  by_cases cz : z.len ≤ sizeLine
  case neg => rw [if_neg cz] at h1; exact h1.elim
  rw [if_pos cz] at h1
  generalize hvs : own.map (·.2) = vs at *
  have res : ∃ ys Me, lcs z g tt te (wipeD δ vs) z.len 0 M1 = .ok ys Me ∧ ∀ r' H', Le r H r' H' → StOk G r' Me H' → ∀ v, Rep G r' H' v (.lst ys) → Q v H' := by
    unfold noX bnd Iv.ret at h1
    cases e : lcs z g tt te (wipeD δ vs) z.len 0 M1 with
    | ok ys Me => rw [e] at h1; exact ⟨ys, Me, rfl, h1⟩
    | exc _ _ => rw [e] at h1; exact h1.elim
    | stk => rw [e] at h1; exact h1.elim
  obtain ⟨ys, Me, hl, hQ⟩ := res
  have nD := S1.fresh hD
  obtain ⟨Lh, Sh⟩ := S1.hide (o := .lst []) hD
  have hmem : D ∈ (G.hide D).hid := List.mem_cons_self
  refine ⟨fun i m H' => i + m = z.len ∧ ∃ (M : List Iv.D) (r' : List Addr) (acc rest : List Iv.D) (accV : List V), StOk (G.hide D) r' M H' ∧ EnvOk (G.hide D) r' H' (L2.wipe σ vs) (wipeD δ vs) ∧ RepI (G.hide D) r' H' J z ∧ H' D = some (.lst accV) ∧
    Reps (G.hide D) r' H' accV acc ∧ acc.length ≤ i ∧ (Le r H r' H' ∧ Own H r' z) ∧ D ∉ r' ∧ lcs z g tt te (wipeD δ vs) m i M = .ok rest Me ∧ ys = acc ++ rest,
    ⟨z.len, Nat.zero_add _, M1, r1, [], ys, [], Sh, ((E.le L1).via (off_hide hD)).wipe vs, hJ.via (off_hide hD) (fun a ha => upd_ne (fun z => nD.2 (by rw [← z]; exact ha))), upd_same, .nil, Nat.le_refl _, ⟨L1.trans Lh, ho⟩, nD.2, hl, rfl⟩, ?_⟩
  rintro i m H' ⟨hz, M, r', acc, rest, accV, S, E, hJ, hA, hR, hlen, ⟨L, ho⟩, nr, hl, hys⟩
  cases m with
  | zero =>
    have hl' : (if z.fin M then R.ok [] (z.out M) else .stk) = .ok rest Me := hl
    by_cases c : z.fin M = true
    · rw [if_pos c] at hl'
      cases hl'
      obtain rfl : i = z.len := by omega
      rw [List.append_nil] at hys
      subst hys
      obtain ⟨H2, u, L', S', k⟩ := unl_ok S hJ L ho
      have hA2 : H2 D = some (.lst accV) := by
        rcases u with rfl | ⟨a, ob, kvs, n, e, rfl⟩
        · exact hA
        · rw [upd_ne (show D ≠ a from fun z => by subst z; rw [e] at hA; cases hA)]; exact hA
      exact .inl ⟨hJ.stop S c, H2, u, hQ r' H2 L' S'.show_ _ (.lst (off_some.mpr ⟨⟨nD.1, nr⟩, hA2⟩) (Reps.via (G := G.hide D) (h2 := G.hid) off_show (k.reps hR)))⟩
    · rw [if_neg c] at hl'; cases hl'
  | succ k =>
    unfold lcs at hl
    cases ed : z.get M i with
    | none => simp only [ed] at hl; cases hl
    | some d =>
      simp only [ed] at hl
      obtain ⟨δ1, Ma, ea, hl⟩ := bnd_ok hl
      obtain ⟨b, Mb, eb, hl⟩ := bnd_ok hl
      obtain ⟨go, yl⟩ := hJ.go S (show i < z.len by omega) ed
      refine .inr ⟨go, fun H' => (i + 1) + k = z.len ∧ ∃ (M : List Iv.D) (r' : List Addr) (acc rest : List Iv.D) (accV : List V), StOk (G.hide D) r' M H' ∧ EnvOk (G.hide D) r' H' (L2.wipe σ vs) (wipeD δ vs) ∧ RepI (G.hide D) r' H' J z ∧ H' D = some (.lst accV) ∧
        Reps (G.hide D) r' H' accV acc ∧ acc.length ≤ i + 1 ∧ (Le r H r' H' ∧ Own H r' z) ∧ D ∉ r' ∧ lcs z g tt te (wipeD δ vs) k (i + 1) M = .ok rest Me ∧ ys = acc ++ rest, fun H' h => ⟨k, Nat.lt_succ_self _, h⟩, fun x H' y => ?_⟩
      obtain ⟨Lx, S, Rx⟩ := yl x H' y
      have hA := (Lx.keep D _ hA nr).get rfl
      have E := E.le Lx
      have hJ := hJ.le Lx
      have hR := hR.le Lx
      have L := L.trans Lx
      intro s0 H0 C0 cl0 fp0
      refine (hg D s0 H0 C0 cl0 fp0).ru WF takesF d x (wipeD δ vs) M _ r' _ _ S Rx E ?_
      rw [ea]
      intro r2 H2 L2' S2 σ2 E2 hw
      refine ⟨hw.trans (wipe_wipe fun _ h => h), fun s0 H0 C0 cl0 fp0 => ?_⟩
      refine (ht D s0 H0 C0 cl0 fp0).ru WF takesF δ1 Ma σ2 r2 H2 _ S2 E2 ?_
      rw [eb]
      intro r3 H3 L3 S3
      have nr2 := L2'.out hA nr
      have nr3 := L3.out nr2.2 nr2.1
      cases b with
      | false =>
        refine iteF ?_
        have T := L2'.trans L3
        exact ⟨by omega, Mb, r3, acc, rest, accV, S3, E.le T, hJ.le T, nr3.2, hR.le T, by omega, ⟨L.trans T, ho.le T.get⟩, nr3.1, hl, hys⟩
      | true =>
        rw [if_pos rfl] at hl
        obtain ⟨yd, Mc, ec, hl⟩ := bnd_ok hl
        obtain ⟨ys', Md, ed', hl⟩ := bnd_ok hl
        cases hl
        refine iteT fun s0 H0 C0 cl0 fp0 => ?_
        refine (he D s0 H0 C0 cl0 fp0).ru WF takesF δ1 Mb σ2 r3 H3 _ S3 (E2.le L3) ?_
        rw [ec]
        intro r4 H4 L4 S4 yv Ry
        have nr4 := L4.out nr3.2 nr3.1
        have T := (L2'.trans L3).trans L4
        refine ⟨accV, nr4.2, by rw [hR.length]; omega, by omega, Mc, r4, acc ++ [yd], ys', accV ++ [yv], S4.updH hmem, EnvOk.via (G := G.hide D) (h2 := (G.hide D).hid) (off_updH hmem) (E.le T), RepI.via (G := G.hide D) (h2 := (G.hide D).hid) (off_updH hmem) (fun a ha => upd_ne (fun z => nr4.1 (by rw [← z]; exact ha))) (hJ.le T), upd_same,
          Reps.via (G := G.hide D) (h2 := (G.hide D).hid) (off_updH hmem) ((hR.le T).append (.cons Ry .nil)), by rw [List.length_append]; exact Nat.succ_le_succ hlen, ⟨(L.trans T).updN hD0 nr4.1, ho.le T.get⟩, nr4.1, ed', by rw [hys]; simp⟩
section
variable (hc : X.calm = true) (hN : X.N.Nodup) {elt tg iter : Expr} {ifs : List Expr} {scope : Scope} {pos spos py : Pos} {i : Nat} {y : Str} {own : List (Str × Nat)} {it : DI} {g : DG} {tt : DT} {te : DE} (hi : SI G X tg iter it)
    (hg : ∀ (D : Addr) (s : Shared) (H : Hp) (C : Addr) (cl : List (Str × Addr)) (fp : List Addr), SGv (G.hide D) (X.blk s H scope (compEnvC scope cl C X.env) fp) tg g (own.map (·.2)))
    (ht : ∀ (D : Addr) (s : Shared) (H : Hp) (C : Addr) (cl : List (Str × Addr)) (fp : List Addr), STs (G.hide D) (X.blk s H scope (compEnvC scope cl C X.env) fp) ifs tt)
    (he : ∀ (D : Addr) (s : Shared) (H : Hp) (C : Addr) (cl : List (Str × Addr)) (fp : List Addr), SE (G.hide D) (X.blk s H scope (compEnvC scope cl C X.env) fp) elt te) (ok : BlkOk X.N X.env.scope scope own) (hs : ∀ x, foldedSetIterable iter X.env x = pure x)
include hc hN hi hg ht he ok hs
theorem SE.lc : SE G X (.ListComp elt [⟨tg, iter, ifs, 0⟩] scope pos) (dLc it g tt te (own.map (·.2))) := by
  refine ⟨?_⟩
  intro W tk δ M σ r H Q S E p
  exact .unl ((pe_lc (g := lcG X scope tg) (tt := lcT X scope ifs) (te := lcE X scope elt) hc hN (piW tg iter) ok
    (fun s H0 C cl fp => ⟨fun pins s' σ H v u Q I rv h => (pgW tg).run pins s' σ H v u Q I rv (h s H0 C cl fp)⟩)
    (fun s H0 C cl fp => ⟨fun pins s' σ H Q I h => (ptsW ifs).run pins s' σ H Q I (h s H0 C cl fp)⟩)
    (fun s H0 C cl fp => ⟨fun pins s' σ H Q I h => (peW elt).run pins s' σ H Q I (h s H0 C cl fp)⟩) hs).we (lc_post hi hg ht he W tk δ M σ r H Q S E p))
/-- y = [.. for ..] on one row -/
theorem SS.setLc (hy : X.N[i]? = some y) (hyl : X.env.scope.names.lookup y = some .local) (hsw : swapsWith (.ListComp elt [⟨tg, iter, ifs, 0⟩] scope pos) (some (.Name y py)) spos.line X.env = pure true) :
    SS G X (.Assign [.Name y py] (.ListComp elt [⟨tg, iter, ifs, 0⟩] scope pos) spos) (dAsg (dLc it g tt te (own.map (·.2))) (gVar i)) := by
  refine ⟨?_⟩
  intro W tk δ M σ r H E S e p
  refine .unl ((ps_setLc (g := lcG X scope tg) (tt := lcT X scope ifs) (te := lcE X scope elt) hc hN hy hyl hsw (piW tg iter) ok
    (fun s H0 C cl fp => ⟨fun pins s' σ H v u Q I rv h => (pgW tg).run pins s' σ H v u Q I rv (h s H0 C cl fp)⟩)
    (fun s H0 C cl fp => ⟨fun pins s' σ H Q I h => (ptsW ifs).run pins s' σ H Q I (h s H0 C cl fp)⟩)
    (fun s H0 C cl fp => ⟨fun pins s' σ H Q I h => (peW elt).run pins s' σ H Q I (h s H0 C cl fp)⟩) hs).ws ?_)
  refine lc_post hi hg ht he W tk δ M σ r H _ S e ((p.lft e).imp ?_)
  intro d M1 r1 H1 L1 S1 h1 v Rv
  exact h1 r1 H1 S1.le S1 _ ((e.le L1).set Rv)
end
end
end Iv
/-! How many texts of a list differ: len(set(..)). -/
namespace Iv
open PySem PySem.Spec PyProof.Rows L2

/-- how many of the first i texts did not stand ahead of themselves -/
def cntN (xs : List Str) : Nat → Nat
  | 0 => 0
  | i + 1 => if (xs.take i).contains (xs.getD i Str.empty) then cntN xs i else cntN xs i + 1
theorem cntN_le (xs : List Str) : ∀ i, cntN xs i ≤ i
  | 0 => Nat.le_refl _
  | i + 1 => by
    have := cntN_le xs i
    unfold cntN
    split <;> omega
theorem take_next {xs : List Str} {i : Nat} (h : i < xs.length) : xs.take (i + 1) = xs.take i ++ [xs.getD i Str.empty] := by
  rw [List.take_add_one, List.getD_eq_getElem?_getD, List.getElem?_eq_getElem h]
  rfl
section
variable {prog : Program} {w : World} {A : Around}
abbrev sk (prog : Program) (w : World) := PySem.strKind prog w
/-- the texts go into the set, in turn -/
theorem setTurns {R : Result → Shared → Prop} {it S : Addr} {fp wr : List Addr} {G : Array GenState → Array GenState → Prop} {P : Nat → Value → Prop} {St : Nat → Shared → Prop} {xs : List Str}
    (W : WalksS prog w A.in1 it fp wr G xs.length P St) (nS : S ∉ fp) (val : ∀ i v, P i v → ∃ t, v = .str (xs.getD i Str.empty) t) (room : xs.length + 1 < scanBound) :
    ∀ (m i : Nat) (s : Shared), i + m = xs.length → St i s → s.heap.SetOf (sk prog w) S (fun z => (xs.take i).contains z) (cntN xs i) →
      (∀ s', Moved (S :: wr) G s s' → s'.heap.SetOf (sk prog w) S (fun z => (xs.take xs.length).contains z) (cntN xs xs.length) → R (.ok (.ret .none)) s') →
      codeAny (model prog w) A (.builtin "set.update.loop" ⟨[.ref S, .ref it], []⟩) R s := by
  have nW : S ∉ wr := fun z => nS (W.sub S z)
  have up : ∀ b ∈ wr, b ∈ S :: wr := fun b z => .tail _ z
  have stays : ∀ {s s' : Shared} {f : Str → Bool} {c : Nat}, Moved wr G s s' → s.heap.SetOf (sk prog w) S f c → s'.heap.SetOf (sk prog w) S f c := fun mv ⟨o, es, ep, t, e, q⟩ => ⟨o, es, ep, t, mv.heap S o nW e, q⟩
  intro m
  induction m with
  | zero =>
    intro i s e st hS out
    obtain rfl : i = xs.length := e
    refine codeAny_builtin PyProof.Rows.F.entry_set_update_loop ?_
    rw [Around.under_plainId PyProof.Rows.F.plain_set_update_loop _]
    exact wpAny_bind (W.done s _ _ st fun s' mv => wpAny_pure (out s' (mv.mono up) (stays mv hS)))
  | succ m ih =>
    intro i s e st hS out
    have lt : i < xs.length := by omega
    refine codeAny_builtin PyProof.Rows.F.entry_set_update_loop ?_
    rw [Around.under_plainId PyProof.Rows.F.plain_set_update_loop _]
    refine wpAny_bind (W.item i s _ _ lt st fun v s' p st' mv => ?_)
    obtain ⟨t, rfl⟩ := val i v p
    have hS' := stays mv hS
    show wpAny _ A.in1 (holding [Value.str (xs.getD i Str.empty) t] (setAdd S (.str (xs.getD i Str.empty) t)) >>= _) _ _ s'
    refine wpAny_bind (wpAny_holding ?_)
    unfold setAdd
    refine wpAny_holding (wpAny_bind ((sk prog w).pyHash (k := xs.getD i Str.empty) (strKind_is _ _ _ _) ?_))
    refine wpAny_setAddHashed_of (knd := sk prog w) (s := { s' with toks := s'.toks + 1 }) (strKind_is _ _ _ _) rfl hS' (by have := cntN_le xs i; omega) fun h2 sb hS2 => ?_
    have e2 : h2.SetOf (sk prog w) S (fun z => (xs.take (i + 1)).contains z) (cntN xs (i + 1)) := by
      refine SetOf_congr hS2 (fun z => ?_) ?_
      · rw [take_next lt, List.contains_append]
        simp [List.contains_eq_mem]
      · rw [cntN]
    have step : Moved (S :: wr) G s { s' with heap := h2, toks := s'.toks + 1 } := (mv.mono up).then_heap (Nat.le_succ _) fun b o hb q => by rw [sb.2 b fun z => hb (by rw [z]; exact .head _)]; exact q
    refine wpAny_pure ⟨plainId_quiet PyProof.Rows.F.plain_set_update_loop _, ih (i + 1) _ (by omega) (W.frame _ s' _ _ st' (Nat.le_succ _) fun b hb o q => ?_) e2 fun s3 mv3 hS3 => out s3 (Moved.trans W.gtrans step mv3) hS3⟩
    rw [sb.2 b fun z => nS (by rw [← z]; exact hb)]
    exact q
/-- an empty set -/
abbrev set0 (led : Bool) : Obj := { cls := .type "set", dict := none, data := .set #[] 0 (.fresh 0 0 led) }
/-- set(l), l a list of texts -/
theorem setCall {E : Value → Shared → Prop} {s : Shared} {l : Addr} {items : Array Value} {xs : List Str} {Q : Value → Shared → Prop} (hh : A.handled = none) (isl : s.heap.IsList l items) (tx : StrsAre items.toList xs) (room : xs.length + 1 < scanBound)
    (out : ∀ (h' : Heap) (tk : Nat), h'.SetOf (sk prog w) s.heap.objs.size (fun z => (xs.take xs.length).contains z) (cntN xs xs.length) → (∀ b o, s.heap.get? b = some o → h'.get? b = some o) → Q (.ref s.heap.objs.size) { s with heap := h', toks := tk }) :
    wpAny (model prog w) A (call (.type "set") [.ref l]) Q E s := by
  obtain ⟨mc, mt, mro⟩ := PySem.F.called_set.mro
  have f1 := PySem.F.called_set.made
  have f2 := PySem.F.called_set.sub
  have f3 := PySem.F.called_set.notType
  have f4 := PySem.F.called_set.canCreate
  have f5 := PySem.F.typeCall_set_1 (.ref l)
  refine wpAny_call (codeAny_of_tree ?_)
  show wpAny _ _ (callAny (.type "set") _) _ _ _
  refine wpAny_pure ⟨Code.quiet_builtin _ (by decide +kernel), codeAny_builtin PySem.F.entry_type_call ?_⟩
  rw [Around.under_plain (weight_type_call_type "set" [.ref l] []) rfl]
  repeat (any_goals (first | wp_step | assumption))
  refine codeAny_mono (code_set_new_1 (.ref l) (E := E) (Q₁ := fun o s1 => ∃ led, o = .ref s.heap.objs.size ∧ s1 = { s with heap := s.heap.push (set0 led) }) fun led => ⟨led, rfl, rfl⟩) fun x s1 hx => ?_
  cases x with
  | error e => exact hx
  | ok fl =>
    cases fl with
    | ret o =>
      obtain ⟨led, rfl, rfl⟩ := hx
      have at0 : (s.heap.push (set0 led)).get? s.heap.objs.size = some (set0 led) := Heap.get?_push_size _ rfl
      have ty0 : Shared.TypeIs { s with heap := s.heap.push (set0 led) } (.ref s.heap.objs.size) "set" := ⟨_, at0, rfl⟩
      have g1 := PySem.F.called_set.init.lookup
      have g2 := PySem.F.called_set.init.bind (.ref s.heap.objs.size)
      repeat (any_goals (first | wp_step | assumption))
      refine codeAny_mono (codeAny_call_builtin (R := wants (fun y s2 => y = .none ∧ ∃ h' tk, s2 = { s with heap := h', toks := tk } ∧ h'.SetOf (sk prog w) s.heap.objs.size (fun z => (xs.take xs.length).contains z) (cntN xs xs.length) ∧ ∀ b o, s.heap.get? b = some o → h'.get? b = some o) E)
        PySem.F.called_set.init.plain PySem.F.entry_set_init (check_set_init_1 ty0 ?_)) fun y s2 hy => ?_
      · obtain ⟨ol, il, cl, nl, dl⟩ := isl
        obtain ⟨c0, d0, da, sl⟩ := ol
        simp only at cl dl
        subst cl
        subst dl
        have il2 : (s.heap.push (set0 led)).get? l = some { cls := .type "list", dict := d0, data := .seq items nl, slots := sl } := Heap.get?_push_of_some _ il
        have g3 := PySem.F.sub_list_set
        have g4 := PySem.F.sub_list_frozenset
        have g5 : (Value.type "list" == Value.type "dict") = false := by decide
        have isl2 : (s.heap.push (set0 led)).IsList l items := ⟨_, il2, rfl, nl, rfl⟩
        have lt := Heap.lt_size il
        have sz : (s.heap.push (set0 led)).objs.size = s.heap.objs.size + 1 := Heap.size_push ..
        have len : xs.length = items.size := by rw [← StrsAre.len_eq tx, Array.length_toList]
        unfold Builtin.«set.__init__» noKeywords Builtin.Frozenset.updateFrom
        generalize hPI : pyIter = PI
        wp_walk
        subst hPI
        refine wpAny_pyIter_list isl2 (wpAny_bind (wpAny_runValue ?_))
        have ne : l ≠ (s.heap.push (set0 led)).objs.size := by rw [sz]; exact Nat.ne_of_lt (Nat.lt_succ_of_lt lt)
        have out3 : A.in1.in1.in1.handled = none := by simp [hh]
        have W := (Walks.list (prog := prog) (w := w) out3 _ l ne items).toS
        rw [← len] at W
        refine setTurns W ?_ (fun i v hv => SS.strs_at tx i v (by rw [Array.getElem?_toList]; exact hv)) room xs.length 0 _ (Nat.zero_add _) ⟨⟨_, Heap.get?_push_size _ rfl, rfl, rfl⟩, isl2.push _⟩ ?_ fun s3 mv hS => ?_
        · rw [sz]
          simp only [List.mem_cons, List.not_mem_nil, or_false, not_or]
          exact ⟨Nat.ne_of_lt (Nat.lt_succ_self _), Nat.ne_of_gt lt⟩
        · exact SetOf_congr ((PyProof.Rows.setObjOf_fresh (knd := sk prog w) led).setOf (Heap.get?_push_of_some _ at0) (by unfold scanBound; omega)) (fun _ => rfl) rfl
        · obtain ⟨h3, ge, dr, tk, os⟩ := s3
          obtain rfl : ge = s.gens := mv.gens
          obtain rfl : dr = s.drawn := mv.drawn
          obtain rfl : os = s.os := mv.os
          refine wpAny_pure (wpAny_pure ⟨rfl, h3, tk, rfl, hS, fun b o q => mv.heap b o ?_ (Heap.get?_push_of_some _ (Heap.get?_push_of_some _ q))⟩)
          have lb := Heap.lt_size q
          rw [sz]
          simp only [List.mem_cons, List.not_mem_nil, or_false, not_or]
          exact ⟨Nat.ne_of_lt lb, Nat.ne_of_lt (Nat.lt_succ_of_lt lb)⟩
      · cases y with
        | error e => exact hy
        | ok f2 =>
          cases f2 with
          | ret r =>
            obtain ⟨rfl, h3, tk, rfl, hS, kp⟩ := hy
            repeat (any_goals (first | wp_step | assumption))
            exact out _ _ hS kp
          | _ => exact hy.elim
    | _ => exact hx.elim
end
end Iv
/-! New cells; stores into cells; calls with keywords; small dicts; repr; how many differ; the law's end. -/
namespace Iv
open PySem PySem.Spec PyProof.Rows L2

/-! ### new cells -/
section
variable {G : Gd} {r : List Addr} {H : Hp} {M : List D}
theorem StOk.more (S : StOk G r M H) {p : Addr} {o : HO} {d : D} (hp : H p = none) (hd : Le r H (r ++ [p]) (upd H p o) → CellAt G (r ++ [p]) (upd H p o) p d) : Le r H (r ++ [p]) (upd H p o) ∧ StOk G (r ++ [p]) (M ++ [d]) (upd H p o) := by
  have np := S.fresh hp
  have ne : ∀ {a}, a ∈ r → a ≠ p := fun ha z => np.2 (by rw [← z]; exact ha)
  have L : Le r H (r ++ [p]) (upd H p o) := ⟨⟨[p], rfl, fun b hb => by rw [List.mem_singleton.mp hb]; exact hp⟩, fun a u e _ => by rw [upd_ne (ne_of_none e hp)]; exact .inl e, fun a ha => by rw [upd_ne (ne ha)]; exact S.there a ha, fun a ob u e => by rw [upd_ne (ne_of_none e hp)]; exact e⟩
  refine ⟨L, by simp [S.len], ?_, fun n a d' h1 h2 => ?_, fun a ha => ?_⟩
  · rw [List.nodup_append]
    exact ⟨S.nd, by simp, fun a ha b hb => by rw [List.mem_singleton.mp hb]; exact ne ha⟩
  · by_cases c : n < r.length
    · rw [List.getElem?_append_left c] at h1
      rw [List.getElem?_append_left (by rw [← S.len]; exact c)] at h2
      exact (S.at_ n a d' h1 h2).le L (upd_ne (ne (List.mem_of_getElem? h1)))
    · rw [List.getElem?_append_right (Nat.le_of_not_lt c)] at h1
      rw [List.getElem?_append_right (by rw [← S.len]; exact Nat.le_of_not_lt c), ← S.len] at h2
      cases e : n - r.length with
      | zero =>
        rw [e] at h1 h2
        cases h1
        cases h2
        exact hd L
      | succ k => rw [e] at h1; simp at h1
  · obtain ⟨q1, q2⟩ := S.hid a ha
    have nq : a ≠ p := fun z => q1 (by rw [z]; exact hp)
    exact ⟨by rw [upd_ne nq]; exact q1, by simp only [List.mem_append, List.mem_singleton, not_or]; exact ⟨q2, nq⟩⟩
end
section
variable {G : Gd} {X : Cx}
/-- [..], to be changed -/
def dCel (a : DA) : DE := fun δ => bnd (a δ) fun xs M => if xs.length ≤ sizeLine then .ok (.cell M.length) (M ++ [.lst xs]) else .stk
theorem SE.cel {es : List Expr} {pos : Pos} {m : DA} (h : SA G X es m) : SE G X (.List es pos) (dCel m) := by
  refine ⟨?_⟩
  intro W tk δ M σ r H Q S E p
  refine (pe_lst (paW es)).we ?_
  refine h.ru W tk δ M σ r H _ S E (p.bnd.imp ?_)
  intro ds M1 r1 H1 L1 S1 h1 vs Rs
  by_cases c : ds.length ≤ sizeLine
  · rw [if_pos c] at h1
    refine ⟨by rw [Rs.length]; exact c, fun q hq => ?_⟩
    obtain ⟨L, S'⟩ := S1.more (o := .lst vs) (d := .lst ds) hq fun L => ⟨vs, upd_same, Rs.le L⟩
    exact h1 _ _ L S' _ (.cell (by rw [← S1.len, List.getElem?_append_right (Nat.le_refl _)]; simp))
  · rw [if_neg c] at h1
    exact h1.elim

/-! ### stores -/
def setLO (o i d : D) (M : List D) : Option (List D) := match o, i with
  | .cell n, .int k => match M[n]? with
    | some (.lst xs) => match ixN xs.length k with
      | some j => some (M.set n (.lst (xs.set j d)))
      | none => none
    | _ => none
  | _, _ => none
def gIx (a b : DE) : DG := fun d δ => bnd (a δ) fun x => bnd (b δ) fun y M => match setLO x y d M with
  | some M' => .ok δ M'
  | none => .stk
theorem SG.sub {o i : Expr} {pos : Pos} {ma mb : DE} (ho : SE G X o ma) (hi : SE G X i mb)
    (ha : ∀ v, assign (.Subscript o i pos) X.env v = (do
      let x ← holding [v] (eval o X.env)
      let y ← holding [v, x] (eval i X.env)
      standAt pos
      holding [v, x, y] (setItem x y v)
      release [v, x, y] [])) : SG G X (.Subscript o i pos) (gIx ma mb) := by
  refine ⟨?_⟩
  intro W tk d v δ M σ r H Q S Rv E p
  refine (pg_sub (peW o) (peW i) set_list ha).wg ?_
  refine ho.ru W tk δ M σ r H _ S E (p.bnd.imp ?_)
  intro d1 M1 r1 H1 L1 S1 h1 v1 R1
  refine hi.ru W tk δ M1 σ r1 H1 _ S1 (E.le L1) (h1.bnd.imp ?_)
  intro d2 M2 r2 H2 L2 S2 h2 v2 R2
  have R1' := R1.le L2
  cases e : setLO d1 d2 d M2 with
  | none => rw [e] at h2; exact h2.elim
  | some M' =>
    rw [e] at h2
    unfold setLO at e
    cases R1' with
    | cell hc =>
      rename_i a n
      cases R2 with
      | int =>
        rename_i k
        dsimp only at e
        cases em : M2[n]? with
        | none => rw [em] at e; cases e
        | some u =>
          rw [em] at e
          cases u with
          | lst xs =>
            dsimp only at e
            cases ex : ixN xs.length k with
            | none => rw [ex] at e; cases e
            | some j =>
              rw [ex] at e
              cases e
              obtain ⟨vs, q1, q2⟩ := S2.at_ n a _ hc em
              refine ⟨a, vs, k, j, rfl, rfl, q1, by rw [q2.length]; exact ex, ?_⟩
              obtain ⟨L, S'⟩ := S2.write (o := .lst (vs.set j v)) (d := .lst (xs.set j d)) hc q1 fun L => ⟨_, upd_same, Reps.set (((Rv.le L1).le L2).le L) j (q2.le L)⟩
              exact h2 r2 _ L S' σ (((E.le L1).le L2).le L)
          | _ => cases e
      | _ => cases e
    | _ => cases e

/-! ### keywords -/
def WK (X : Cx) (kws : List Keyword) (σ : L2.St) (H : Hp) (Q : List V → Hp → Prop) : Prop := ∃ t, PK X kws t ∧ t σ H Q
theorem pkW (kws : List Keyword) : PK X kws (WK X kws) := ⟨fun pos pins s σ H Q I ⟨_, h, q⟩ => h.run pos pins s σ H Q I q⟩
structure SK (G : Gd) (X : Cx) (kws : List Keyword) (m : DA) : Prop where
  ru : ∀ (W : WX), Takes X W → ∀ (δ : DEnv) (M : List D) (σ : L2.St) (r : List Addr) (H : Hp) (Q : List V → Hp → Prop),
  StOk G r M H → EnvOk G r H σ δ → Post G W σ (JA G Q) r H (m δ M) → WK X kws σ H Q
theorem SK.nil : SK G X [] dNil := ⟨fun W tk δ M σ r H Q S E p => ⟨_, pk_nil, p r H S.le S _ .nil⟩⟩
theorem SK.cons {nm : Option Str} {e : Expr} {kpos : Pos} {kws : List Keyword} {ma : DE} {mb : DA} (ha : SE G X e ma) (hb : SK G X kws mb) : SK G X (⟨nm, e, kpos⟩ :: kws) (dCons ma mb) := by
  refine ⟨?_⟩
  intro W tk δ M σ r H Q S E p
  refine ⟨_, pk_cons (peW e) (pkW kws), ?_⟩
  refine ha.ru W tk δ M σ r H _ S E (p.bnd.imp ?_)
  intro d1 M1 r1 H1 L1 S1 h1 v1 R1
  refine hb.ru W tk δ M1 σ r1 H1 _ S1 (E.le L1) (h1.bnd.imp ?_)
  intro d2 M2 r2 H2 L2 S2 h2 v2 R2
  exact h2 r2 H2 S2.le S2 _ (.cons (R1.le L2) R2)
/-- gD puts the arguments into the parameters' order -/
def dCallK (n : Nat) (gD : List D → List D → List D) (g : List D → Ev D) (a k : DA) : DE := fun δ => bnd (a δ) fun ds => bnd (k δ) fun es => if (gD ds es).length = n then g (gD ds es) else stuck
variable {k : Nat} {f : Addr} {fd : FuncData} {ps ks : List Str} {g : List D → Ev D}
theorem SE.callK0 (F : FnS G X.prog X.w X.mg X.base k f fd ps g) (hr : Room k X.A) (hgd : X.A.guards = some []) (hK : G.K = X.K) {x : Str} {p pos : Pos} {kws : List Keyword} {mk : DA} {gs : List Value → List Value → List Value} {gV : List V → List V → List V} {gD : List D → List D → List D}
    (hg : Gl X x) (hm : X.mg x = some (.ref f)) (hk : PySem.W.keepIn X.K (.ref f) = true) (hb : KBinds X.K fd ps ks gs gV) (hD : ∀ {r H vs ds zs es}, Reps G r H vs ds → Reps G r H zs es → Reps G r H (gV vs zs) (gD ds es))
    (hkw : SK G X kws mk) (hall : (backToKw pos (keywordEach kws X.env)).all (·.1.isSome) = true) (hks : (backToKw pos (keywordEach kws X.env)).filterMap (·.1) = ks) (hdb : (x == ("__debug__" : Str)) = false)
    (hpl : ((backTo pos (starEach [] X.env)).any (·.1) || (backToKw pos (keywordEach kws X.env)).any (·.1.isNone)) = false) : SE G X (.Call (.Name x p) [] kws pos) (dCallK ps.length gD g dNil mk) := by
  refine ⟨?_⟩
  intro W tk δ M σ r H Q S E q pins s I
  refine wpAny_Call_Name_kw (ld_glob I hg hm ?_ hdb)
  have hA : WK X kws σ H fun zs H1 => ∀ (pins : List (Addr × Obj)) (s : Shared) (ws : List Value), Inv X pins σ H1 s → Vals zs ws → wpAny (model X.prog X.w) X.A (PySem.call (.ref f) [] (ks.zip ws)) (EP X pins σ Q) X.xe s := by
    refine hkw.ru W tk δ M σ r H _ S E ((show Post G W σ (JE G Q) r H (bnd (mk δ) (fun es => if (gD [] es).length = ps.length then g (gD [] es) else stuck) M) from q).bnd.imp ?_)
    intro es M1 r1 H1 L1 S1 h1 zs Rz pins s ws I1 rz
    by_cases c : (gD [] es).length = ps.length
    · rw [if_pos c] at h1
      have R := hD (.nil (G := G) (r := r1) (H := H1)) Rz
      have rv := hb.rel .nil rz
      have hl : (gV [] zs).length = ps.length := by rw [R.length]; exact c
      exact F.call hr hgd hK tk I1 (hb.to s [] ws I1.kIn (by rw [← rv.length]; exact hl)) rv hl S1 R h1
    · rw [if_neg c] at h1
      exact h1.elim
  refine PySem.W.callWith_KW0 (h₀ := X.base) I.ok.mod.kin hk hall ?_ hpl
  obtain ⟨t, ht, hA⟩ := hA
  refine thn (ht.run pos pins s σ H _ I hA) fun ws s1 ⟨zs, H1, I1, r1, h⟩ => ⟨I1.kIn, ?_⟩
  rw [hks]
  exact h pins s1 ws I1 r1

/-! ### small dicts -/
def dDic0 : DE := fun _ => ret (.dct [] [])
theorem SE.dic0 {pos : Pos} : SE G X (.Dict [] [] pos) dDic0 := by
  refine ⟨?_⟩
  intro W tk δ M σ r H Q S E p
  refine pe_dnewK.we fun q hq => ?_
  obtain ⟨L, S'⟩ := S.new (o := .dK []) hq
  exact p r _ L S' _ (.dct (.inl (off_new (S.fresh hq))) .nil)
/-- {'k': c}, c a constant -/
theorem SE.dic1 {x : Str} {j : Nat} {kp pos : Pos} {e : Expr} {v : V} {d : D} (he : PE X e (tC v)) (hr : ∀ r H, Rep G r H v d) : SE G X (.Dict [some (.Constant (.str x) j kp)] [e] pos) (dLit (.dct [.str x] [d])) := by
  refine ⟨?_⟩
  intro W tk δ M σ r H Q S E p
  refine (pe_disp (pps_cons pe_str he pps_nil) rfl rfl (by simp) (by simp)).we fun q hq => ?_
  refine ⟨upd_same, [(.inr x, v)], rfl, by simp, ?_⟩
  rw [upd_upd]
  obtain ⟨L, S'⟩ := S.new (o := .dK (mergeK [] [(.inr x, v)])) hq
  exact p r _ L S' _ (.dct (kvs := [(.inr x, v)]) (.inl (off_new (S.fresh hq))) (.cons (hr _ _) .nil))

/-! ### repr -/
mutual
def pyD : D → Option PyData
  | .non => some .none
  | .bl b => some (.bool b)
  | .int i => some (.int i)
  | .str x => some (.str x)
  | .lst xs => (pyDs xs).map .list
  | .tup xs => (pyDs xs).map .tuple
  | _ => none
def pyDs : List D → Option (List PyData)
  | [] => some []
  | d :: ds => match pyD d, pyDs ds with
    | some x, some xs => some (x :: xs)
    | _, _ => none
end
section
variable {pins : List (Addr × Obj)} {σ : L2.St} {H : Hp} {s : Shared} {r : List Addr}
mutual
theorem reads_of (hK : G.K = X.K) (I : Inv X pins σ H s) : ∀ {v : V} {d : D} {u : Value} {y : PyData}, Rep G r H v d → RelV v u → pyD d = some y → ∃ as, Reads s.heap u y as
  | _, _, _, _, .non, rv, e => by cases rv; cases e; exact ⟨_, .none⟩
  | _, _, _, _, .bl, rv, e => by cases rv; cases e; exact ⟨_, .bool _⟩
  | _, _, _, _, .int, rv, e => by obtain ⟨t, rfl⟩ := rv; cases e; exact ⟨_, .int _ _⟩
  | _, _, _, _, .str, rv, e => by obtain ⟨t, rfl⟩ := rv; cases e; exact ⟨_, .str _ _⟩
  | _, _, _, _, .lst h hs, rv, e => by
    cases rv
    obtain ⟨ys, e1, rfl⟩ := Option.map_eq_some_iff.mp e
    obtain ⟨z, its, n, r1, q⟩ := I.hok _ _ (off_some.mp h).2
    obtain ⟨as, ra⟩ := readss_of hK I hs r1 e1
    exact ⟨_, .list q rfl rfl (by simpa using ra)⟩
  | _, _, _, _, .tup h hs, rv, e => by
    cases rv
    obtain ⟨ys, e1, rfl⟩ := Option.map_eq_some_iff.mp e
    obtain ⟨its, r1, ⟨o, q1, q2, n, q3⟩, z⟩ := I.tuple (hK ▸ sqT_off h)
    obtain ⟨as, ra⟩ := readss_of hK I hs r1 e1
    exact ⟨_, .tuple q1 q2 q3 (by simpa using ra)⟩
  | _, _, _, _, .scr _ _, _, e => by cases e
  | _, _, _, _, .dct _ _, _, e => by cases e
  | _, _, _, _, .ins _ _ _, _, e => by cases e
  | _, _, _, _, .exn _ _ _ _, _, e => by cases e
  | _, _, _, _, .exn0 _ _, _, e => by cases e
  | _, _, _, _, .cell _, _, e => by cases e
  | _, _, _, _, .fn, _, e => by cases e
  | _, _, _, _, .cls, _, e => by cases e
  | _, _, _, _, .ty, _, e => by cases e
theorem readss_of (hK : G.K = X.K) (I : Inv X pins σ H s) : ∀ {vs : List V} {ds : List D} {us : List Value} {ys : List PyData}, Reps G r H vs ds → Vals vs us → pyDs ds = some ys → ∃ as, ReadsAll s.heap us ys as
  | _, _, _, _, .nil, .nil, e => by cases e; exact ⟨_, .nil⟩
  | _, _, _, _, .cons (d := d) (ds := ds) h hs, .cons q qs, e => by
    unfold pyDs at e
    cases e1 : pyD d with
    | none => rw [e1] at e; cases e
    | some y =>
      cases e2 : pyDs ds with
      | none => rw [e1, e2] at e; cases e
      | some ys =>
        rw [e1, e2] at e
        cases e
        obtain ⟨as, a1⟩ := reads_of hK I h q e1
        obtain ⟨bs, b1⟩ := readss_of hK I hs qs e2
        exact ⟨_, .cons a1 b1⟩
end
end
def reprD (u : Nat) (d : D) : Option D := match d with
  | .tup _ => match pyD d with
    | some y => if y.showable = true ∧ y.hasDict = false ∧ y.depth ≤ u ∧ y.shown.length ≤ sizeLine then some (.str y.shown) else none
    | none => none
  | _ => none
theorem CaS.repr (hK : G.K = X.K) (hgd : X.A.guards = some []) {n : Nat} (hu : X.A.units + (n + 1) < cLine) : CaS G X (.builtin "repr") (oneO (reprD n)) := CaS.one fun r H x d z Q h e k => by
  intro pins s σ us I rx
  cases rx with
  | cons rv rs =>
    cases rs
    rename_i u
    unfold reprD at e
    cases d with
    | tup ds =>
      dsimp only at e
      cases ey : pyD (.tup ds) with
      | none => rw [ey] at e; cases e
      | some y =>
        rw [ey] at e
        dsimp only at e
        by_cases c : y.showable = true ∧ y.hasDict = false ∧ y.depth ≤ n ∧ y.shown.length ≤ sizeLine
        · rw [if_pos c] at e
          cases e
          obtain ⟨as, ra⟩ := reads_of hK I h rv ey
          cases h with
          | tup h1 h2 =>
            cases rv
            refine repr_of_reads' ra c.1 (PyData.noDict_hsm c.2.1) hgd (by have := c.2.2.1; omega) (fun b o q => q) (fun h' u tk kp => ⟨.str y.shown, H, I.kept kp, ⟨_, rfl⟩, k _ .str⟩) c.2.2.2
        · rw [if_neg c] at e; cases e
    | _ => cases e

/-! ### how many differ -/
def lenSetO (M : List D) (d : D) : Option D := match valD M d with
  | .lst ds => match strsD ds with
    | some xs => if xs.length + 1 < scanBound then some (.int (cntN xs xs.length : Nat)) else none
    | none => none
  | _ => none
def dLenSet (a : DE) : DE := fun δ => bnd (a δ) fun d M => optE (lenSetO M d) M
theorem SE.lenSet (hc : X.calm = true) {a : Expr} {p p2 q pos : Pos} {m : DE} (hg : Gl X "len") (hm : X.mg "len" = none) (hg2 : Gl X "set") (hm2 : X.mg "set" = none) (ha : SE G X a m) (na : starEach [a] X.env = (false, eval a X.env) :: starEach [] X.env) :
    SE G X (.Call (.Name "len" p) [.Call (.Name "set" p2) [a] [] q] [] pos) (dLenSet m) := by
  refine ⟨?_⟩
  intro W tk δ M σ r H Q S E pq pins s I
  have hA : WE X a σ H fun x H1 => ∃ l, ∃ xs : List Str, x = .ref l ∧ H1 l = some (.lst (xs.map V.str)) ∧ xs.length + 1 < scanBound ∧ Q (.int (cntN xs xs.length : Nat)) H1 := by
    refine ha.ru W tk δ M σ r H _ S E (pq.bnd.imp ?_)
    intro d M1 r1 H1 L1 S1 h1 v Rv
    unfold lenSetO at h1
    cases ev : valD M1 d with
    | lst ds =>
      simp only [ev] at h1
      cases es : strsD ds with
      | none => simp only [es] at h1; exact h1.elim
      | some xs =>
        simp only [es] at h1
        by_cases c : xs.length + 1 < scanBound
        · rw [if_pos c] at h1
          obtain ⟨l, vs, rfl, q1, q2⟩ := val_lst S1 Rv ev
          rw [strsD_eq es] at q2
          rw [Reps.of_strs q2] at q1
          exact ⟨l, xs, rfl, q1, c, h1 r1 H1 S1.le S1 _ .int⟩
        · rw [if_neg c] at h1; exact h1.elim
    | _ => simp only [ev] at h1; exact h1.elim
  refine Call_ (ld_blt I hg hm boot_len (PyProof.Rows.callWith_builtin1 (PyProof.Rows.args_cons ?_ rfl) rfl rfl))
  refine Call_ (ld_blt I hg2 hm2 boot_set (PyProof.Rows.callWith_type1 (PyProof.Rows.args_cons (thn (hA pins s I) fun v s1 ⟨x, H1, I1, r1, l, xs, e, hl, room, fin⟩ => PyProof.Rows.args_nil ?_) na) na rfl))
  subst e
  cases r1
  obtain ⟨its, rv, pl, _⟩ := I1.list (SqL.of (K := X.K) hl)
  refine setCall (I1.ok.hd hc) pl.isList (by simpa using strsAre_of rv) room fun h' tk hS kp => PyProof.Rows.args_nil ?_
  obtain ⟨o, es, ep, t, ho, ex, hd, _, _, _, hf, hn⟩ := hS
  have le := cntN_le xs xs.length
  have sb : scanBound = 4096 := rfl
  exact call_len_set ho ex hd hf (by rw [hn]; omega) ⟨.int (cntN xs xs.length : Nat), H1, (I1.kept (t' := tk) kp).tok _, ⟨_, by rw [hn]⟩, fin⟩
end

/-! ### the law's end -/
/-- the script alone is known -/
def scrH (a : Addr) (o : Obj) (u : HO) : Hp := fun b => if b = a then some (.frz o u) else none
theorem scrH_at {a b : Addr} {o : Obj} {u z : HO} (e : scrH a o u b = some z) : b = a ∧ z = .frz o u := by
  unfold scrH at e
  split at e
  · rename_i q; exact ⟨q, (Option.some.inj e).symm⟩
  · cases e
abbrev EndR (s1 : Shared) : Result → Shared → Prop := fun r s' => r = .ok (.ret (.bool true)) ∧ OldK s1.heap s'.heap ∧ s'.os = s1.os ∧ AllBare s'.gens
section
variable {G : Gd} {P : Program} {w : World} {mg mb : Str → Option Value} {k : Nat} {fa a : Addr} {fd : FuncData} {x : Str} {g : List D → Ev D} {s1 : Shared} {vs : List Value} {ns : List Int}
/-- from any heap in which at most the script is known -/
theorem end_at (H : Hp) (oh : H = (fun _ => none) ∨ ∃ o u, H = scrH a o u ∧ G.K.lookup a = none) (hh : G.hid = []) (inK : G.K.In s1.heap) (nm : s1.heap.Ns mainGlobals mg) (nb : s1.heap.Ns builtinsNs mb) (bb : ∀ x : Str, x ≠ "__name__" → mb x = bootBuiltins x) (lim : s1.heap.NoLimit) (ng : s1.gens = #[])
    (ol : ∃ o : Obj, s1.heap.get? a = some o ∧ ∃ its n, o.data = .seq its n) (hok : HOk P w H s1.heap) (hS : SqL G.K H a (ns.map V.int)) (hr : Room k callerA)
    (F : ∀ base : Heap, G.K.In base → base.Ns mainGlobals mg → FnS G P w mg base k fa fd [x] g) (hb : ∀ (s : Shared) (u : Value), BindsTo s fd ⟨[u], []⟩ [(x, u)]) (M' : List D) (law : g [.scr (ns.map .int)] [] = .ok (.bl true) M') :
    codeAny (model P w) callerA (.call (.ref fa) ⟨[.ref a], []⟩) (EndR s1) s1 := by
  have only : ∀ {b z}, H b = some z → b = a ∧ G.K.lookup a = none ∧ ∃ o u, z = .frz o u := fun {b z} e => by
    rcases oh with q | ⟨o, u, q, q2⟩
    · rw [q] at e; cases e
    · rw [q] at e
      obtain ⟨e1, e2⟩ := scrH_at e
      exact ⟨e1, q2, o, u, e2⟩
  have none_at : ∀ {b : Addr} {o : Obj} {es : Array DictEntry} {ep : Nat}, s1.heap.get? b = some o → o.data = .dict es ep → H b = none := fun {b o es ep} e d => by
    cases q : H b with
    | none => rfl
    | some z =>
      obtain ⟨rfl, _⟩ := only q
      obtain ⟨o', e', its, n, d'⟩ := ol
      rw [e] at e'
      cases e'
      rw [d] at d'
      cases d'
  have nsT : ∀ {b : Addr} {m : Str → Option Value}, s1.heap.Ns b m → (hidT s1.heap H).Ns b m := fun ⟨o, es, ep, e, d, q⟩ => ⟨o, es, ep, hidT_get e (none_at e d), d, q⟩
  have inT : G.K.In (hidT s1.heap H) := fun b o e => hidT_get (inK b o e) (by
    cases q : H b with
    | none => rfl
    | some z => obtain ⟨rfl, z2, _⟩ := only q; rw [z2] at e; cases e)
  obtain ⟨ml, l1, l2⟩ := lim
  have e0 : Env0 P w G.K mg (hidT s1.heap H) callerA [] s1 H :=
    ⟨rfl, ⟨inT, nsT nm, ⟨mb, nsT nb, bb⟩, ⟨ml, nsT l1, l2⟩⟩, fun b o e => of_hidT e, Nat.le_of_eq (hidT_size _ _), trivial, (fun b z => nomatch z), hok, .of_eq ng⟩
  have offE : off G [] H = H := by
    funext b
    unfold off
    rw [hh]
    simp
  have S0 : StOk G [] [] H := ⟨rfl, List.nodup_nil, (fun n a o z => by simp at z), fun b z => by rw [hh] at z; cases z⟩
  have R0 : Reps G [] H [.ref a] [.scr (ns.map .int)] := .cons (.scr (by rw [offE]; exact hS) Reps.ints) .nil
  refine codeAny_mono (F _ inT (nsT nm) callerA [] s1 H ⟨[.ref a], []⟩ [.ref a] [.ref a] [.scr (ns.map .int)] [] [] (fun v _ => v = .bl true) (fun _ _ _ => False) hr rfl e0 (hb s1 (.ref a)) (.cons rfl .nil) rfl S0 R0 ?_) fun r s' h => ?_
  · rw [law]
    intro r' H' L S v Rv
    cases Rv
    rfl
  · cases r with
    | error e =>
      obtain ⟨_, _, _, _, _, _, _, _, _, _, _, _, z⟩ := h
      exact z.elim
    | ok fl =>
      cases fl with
      | next => exact h.elim
      | brk => exact h.elim
      | cont => exact h.elim
      | ret u =>
        obtain ⟨v, H', os, bare, un, hok', rv, q⟩ := h
        have q' : v = .bl true := q
        subst q'
        obtain rfl : u = Value.bool true := rv
        refine ⟨rfl, OldK.of_keep fun b o e => ?_, os, bare⟩
        cases q : H b with
        | none => exact un.keep b o e q (by intro z; cases z) (by simp)
        | some z =>
          obtain ⟨_, _, o2, u2, rfl⟩ := only q
          obtain ⟨e1, _⟩ := hok b _ q
          obtain ⟨e2, _⟩ := hok' b _ (un.frzs b o2 _ q)
          rw [e] at e1
          cases e1
          exact e2
theorem end_call (hh : G.hid = []) (inK : G.K.In s1.heap) (nm : s1.heap.Ns mainGlobals mg) (nb : s1.heap.Ns builtinsNs mb) (bb : ∀ x : Str, x ≠ "__name__" → mb x = bootBuiltins x) (lim : s1.heap.NoLimit) (ng : s1.gens = #[])
    (ha : s1.heap.get? a = some { cls := .type "list", data := .seq vs.toArray }) (hi : PyProof.Rows.IntsAre vs ns) (hl : ns.length ≤ sizeLine) (hr : Room k callerA)
    (F : ∀ base : Heap, G.K.In base → base.Ns mainGlobals mg → FnS G P w mg base k fa fd [x] g) (hb : ∀ (s : Shared) (u : Value), BindsTo s fd ⟨[u], []⟩ [(x, u)]) (M' : List D) (law : g [.scr (ns.map .int)] [] = .ok (.bl true) M') :
    codeAny (model P w) callerA (.call (.ref fa) ⟨[.ref a], []⟩) (EndR s1) s1 := by
  have rv := vals_ints hi
  have ol : ∃ o : Obj, s1.heap.get? a = some o ∧ ∃ its n, o.data = .seq its n := ⟨_, ha, vs.toArray, _, rfl⟩
  cases hk : G.K.lookup a with
  | some o =>
    have e := inK a o hk
    rw [ha] at e
    cases e
    exact end_at (fun _ => none) (.inl rfl) hh inK nm nb bb lim ng ol (fun b u z => by cases z) (.inr ⟨_, vs.toArray, _, hk, rfl, rfl, rfl, by rw [List.size_toArray, hi.length]; exact hl, by simpa using rv⟩) hr F hb M' law
  | none =>
    refine end_at (scrH a { cls := .type "list", data := .seq vs.toArray } (.lst (ns.map V.int))) (.inr ⟨_, _, rfl, hk⟩) hh inK nm nb bb lim ng ol (fun b u z => ?_) (.inl (.inr ⟨_, if_pos rfl⟩)) hr F hb M' law
    obtain ⟨rfl, rfl⟩ := scrH_at z
    exact ⟨ha, by rw [List.length_map]; exact hl, vs, _, rv, ha⟩
end
/-- THE END of a law -/
theorem walkIv {l : PySem.W.OpenLaw} {n k : Nat} {q : Program} {loose : List Str} {XP : (Str → Option Value) → Heap → Prop} {YP : World → Heap → Prop} {d : DefRec} {x : Str}
    (hn : l.most = some n) (hn2 : n ≤ sizeLine) (hdf : d.params.defaults = []) (hr : Room k callerA)
    (F : ∀ (w : World) (mg : Str → Option Value) (fa : Addr) (h : Heap), YP w h → h.Ns mainGlobals mg → mg d.name = some (.ref fa) →
      ∃ (G : Gd) (fd : FuncData) (g : List D → Ev D), G.hid = [] ∧ G.K.In h ∧ (∀ (s : Shared) (u : Value), BindsTo s fd ⟨[u], []⟩ [(x, u)]) ∧
        (∀ ns : List Int, ns.length ≤ n → ∃ M', g [.scr (ns.map .int)] [] = .ok (.bl true) M') ∧ ∀ base : Heap, G.K.In base → base.Ns mainGlobals mg → FnS G l.prog w mg base k fa fd [x] g) :
    PySem.W.WalkO q loose XP YP l.row.toRowW d [] (fun f vs => PySem.call f vs) := by
  refine Att.attach_call hn hdf fun w s₀ s1 mg mb fa o pm cd doc a vs ns T Y _ _ _ hmg hobj hints hlen hg => ?_
  obtain ⟨G, fd, g, hh, inK, hb, law, hF⟩ := F w mg fa _ Y T.T.g hmg
  obtain ⟨M', law⟩ := law ns hlen
  exact end_call hh inK T.T.g T.T.b T.T.builtins T.T.nolimit hg hobj hints (Nat.le_trans hlen hn2) hr hF hb M' law
end Iv
/-! Several names at once; short words for a def's derivation. -/
namespace Iv
open PySem PySem.Spec PyProof.Rows L2

/-! ### a tuple of names -/
inductive Nms (X : Cx) : List Expr → List Nat → Prop
  | nil : Nms X [] []
  | cons {i : Nat} {x : Str} {pos : Pos} {es : List Expr} {is : List Nat} : X.N[i]? = some x → Loc X.env.scope x → (X.fn x = true ∨ X.env.scope.names.lookup x = some .local) → Nms X es is → Nms X (.Name x pos :: es) (i :: is)
def gNs : List Nat → TGs
  | [] => gNil
  | i :: is => gCons (gName i) (gNs is)
section
variable {G : Gd} {X : Cx}
theorem Nms.pgs (hN : X.N.Nodup) {es : List Expr} {is : List Nat} (h : Nms X es is) : PGs X es (gNs is) := by
  induction h with
  | nil => exact pgs_nil
  | cons hi hx hf _ ih => exact pgs_cons (pg_name hN hi hx hf) ih rfl
theorem gNs_ok {r : List Addr} {H : Hp} {Q : L2.St → Hp → Prop} : ∀ {is : List Nat} {ds : List D} {vs : List V} {σ : L2.St} {δ δ' : DEnv}, setAll is ds δ = some δ' → Reps G r H vs ds → EnvOk G r H σ δ → (∀ σ', EnvOk G r H σ' δ' → Q σ' H) → gNs is vs σ H Q
  | [], [], _, _, _, _, e, .nil, E, q => by cases e; exact ⟨rfl, q _ E⟩
  | i :: is, d :: ds, _, _, _, _, e, .cons h hs, E, q => ⟨_, _, rfl, gNs_ok (is := is) (ds := ds) e hs (E.set h) q⟩
  | [], _ :: _, _, _, _, _, e, _, _, _ => by cases e
  | _ :: _, [], _, _, _, _, e, _, _, _ => by cases e
def gTupN (is : List Nat) : DG := fun d δ M => match d with
  | .tup ds => match setAll is ds δ with
    | some δ' => .ok δ' M
    | none => .stk
  | _ => .stk
theorem setAll_len : ∀ {is : List Nat} {ds : List D} {δ δ' : DEnv}, setAll is ds δ = some δ' → ds.length = is.length
  | [], [], _, _, _ => rfl
  | i :: is, d :: ds, δ, δ', e => congrArg Nat.succ (setAll_len (is := is) (ds := ds) e)
  | [], _ :: _, _, _, e => by cases e
  | _ :: _, [], _, _, e => by cases e
theorem SG.tupN (hc : X.calm = true) (hK : G.K = X.K) (hN : X.N.Nodup) {es : List Expr} {is : List Nat} {kt : Nat} {pos : Pos} (h : Nms X es is) (hn : (assignEach es X.env).length = is.length) (hst : (assignEach es X.env).findIdx? (·.1) = none) : SG G X (.Tuple es kt pos) (gTupN is) := by
  refine ⟨?_⟩
  intro W tk d v δ M σ r H Q S Rv E p
  refine (pg_tup hc (h.pgs hN) hn hst).wg ?_
  cases Rv with
  | tup q1 q2 =>
    rename_i a vs ds
    have p' : Post G W σ (fun δ' _ r' H' => ∀ σ', EnvOk G r' H' σ' δ' → Q σ' H') r H (match setAll is ds δ with | some δ' => .ok δ' M | none => .stk) := p
    cases e : setAll is ds δ with
    | none => rw [e] at p'; exact p'.elim
    | some δ' =>
      rw [e] at p'
      exact ⟨a, vs, rfl, hK ▸ sqT_off q1, by rw [q2.length, setAll_len e], gNs_ok e q2 E (p' r H S.le S)⟩
  | _ => exact p.elim
theorem setAll_wipe {r : List Addr} {H : Hp} {Q : L2.St → Hp → Prop} {ws : List Nat} : ∀ {is : List Nat} {ds : List D} {vs : List V} {σ : L2.St} {δ δ' : DEnv}, (∀ i ∈ is, i ∈ ws) → setAll is ds δ = some δ' → Reps G r H vs ds → EnvOk G r H σ δ → (∀ σ', EnvOk G r H σ' δ' → L2.wipe σ' ws = L2.wipe σ ws → Q σ' H) → gNs is vs σ H Q
  | [], [], _, _, _, _, _, e, .nil, E, q => by cases e; exact ⟨rfl, q _ E rfl⟩
  | i :: is, d :: ds, _, _, _, _, hw, e, .cons h hs, E, q => ⟨_, _, rfl, setAll_wipe (is := is) (ds := ds) (fun j hj => hw j (.tail _ hj)) e hs (E.set h) fun σ' e' w => q σ' e' (w.trans (wipe_set (hw i (.head _))))⟩
  | [], _ :: _, _, _, _, _, _, e, _, _, _ => by cases e
  | _ :: _, [], _, _, _, _, _, e, _, _, _ => by cases e
theorem SGv.tupN (hc : X.calm = true) (hK : G.K = X.K) (hN : X.N.Nodup) {es : List Expr} {is ws : List Nat} {kt : Nat} {pos : Pos} (h : Nms X es is) (hw : ∀ i ∈ is, i ∈ ws) (hn : (assignEach es X.env).length = is.length) (hst : (assignEach es X.env).findIdx? (·.1) = none) : SGv G X (.Tuple es kt pos) (gTupN is) ws := by
  refine ⟨?_⟩
  intro W tk d v δ M σ r H Q S Rv E p
  refine (pg_tup hc (h.pgs hN) hn hst).wg ?_
  cases Rv with
  | tup q1 q2 =>
    rename_i a vs ds
    have p' : Post G W σ (fun δ' _ r' H' => ∀ σ', EnvOk G r' H' σ' δ' → L2.wipe σ' ws = L2.wipe σ ws → Q σ' H') r H (match setAll is ds δ with | some δ' => .ok δ' M | none => .stk) := p
    cases e : setAll is ds δ with
    | none => rw [e] at p'; exact p'.elim
    | some δ' =>
      rw [e] at p'
      exact ⟨a, vs, rfl, hK ▸ sqT_off q1, by rw [q2.length, setAll_len e], setAll_wipe hw e q2 E (p' r H S.le S)⟩
  | _ => exact p.elim

/-! ### built-in classes alone -/
def ktB : Kt := ⟨fun _ => false, fun a b => match a, b with
  | .b x, .b y => subB x y
  | _, _ => none⟩
theorem ktB_ok {G : Gd} : KtOk G ktB := ⟨(fun _ h => by cases h), (fun _ h => by cases h), fun a b v h => by
  cases a with
  | b x =>
    cases b with
    | b y => exact kit_ty (subB_kit h)
    | o _ => cases h
  | o _ => cases h⟩

/-! ### arguments without a star -/
def noStar : Expr → Bool
  | .Starred .. => false
  | _ => true
theorem star_cons {e : Expr} {es : List Expr} {env : Env} (h : (e :: es).all noStar = true) : starEach (e :: es) env = (false, eval e env) :: starEach es env := by
  have h' := (Bool.and_eq_true_iff.mp h).1
  cases e <;> first | rfl | cases h'
theorem star_none {env : Env} {pos : Pos} : ∀ {es : List Expr}, es.all noStar = true → (backTo pos (starEach es env)).any (·.1) = false
  | [], _ => rfl
  | e :: es, h => by
    rw [star_cons h]
    show (false || (backTo pos (starEach es env)).any (·.1)) = false
    rw [Bool.false_or]
    exact star_none (Bool.and_eq_true_iff.mp h).2
theorem star_tail {e : Expr} {es : List Expr} (h : (e :: es).all noStar = true) : es.all noStar = true := (Bool.and_eq_true_iff.mp h).2

/-! ### what holds of a context -/
structure Cf (G : Gd) (X : Cx) : Prop where
  hK : G.K = X.K
  calm : X.calm = true
  nd : X.N.Nodup
  gd : X.A.guards = some []
  un : X.A.units + 64 < cLine
theorem Cf.blk (c : Cf G X) {D : Addr} {s : Shared} {H : Hp} {scope : Scope} {C : Addr} {cl : List (Str × Addr)} {fp : List Addr} : Cf (G.hide D) (X.blk s H scope (compEnvC scope cl C X.env) fp) := ⟨c.hK, c.calm, c.nd, c.gd, c.un⟩
theorem FnS.zero {P : Program} {w : World} {mg : Str → Option Value} {base : Heap} {k : Nat} {f : Addr} {fd : FuncData} {ps : List Str} : FnS G P w mg base k f fd ps (fun _ => stuck) := fun _ _ _ _ _ _ _ _ _ _ _ _ _ _ _ _ _ _ _ _ p => p.elim
section
variable (c : Cf G X) {e a b : Expr} {es : List Expr} {pos apos p : Pos} {m ma mb : DE} {ms : DA}
include c
theorem sAdd (ha : SE G X a ma) (hb : SE G X b mb) : SE G X (.BinOp a .Add b pos) (dOp (pureO addO) ma mb) := .bin (OpP.add c.hK).s ha hb
omit c in
theorem sSub (ha : SE G X a ma) (hb : SE G X b mb) : SE G X (.BinOp a .Sub b pos) (dOp (pureO subO) ma mb) := .bin OpP.sub.s ha hb
omit c in
theorem sMul (ha : SE G X a ma) (hb : SE G X b mb) : SE G X (.BinOp a .Mult b pos) (dOp (pureO mulO) ma mb) := .bin OpP.mul.s ha hb
omit c in
theorem sDiv (ha : SE G X a ma) (hb : SE G X b mb) : SE G X (.BinOp a .FloorDiv b pos) (dOp (pureO fdivO) ma mb) := .bin OpP.fdiv.s ha hb
omit c in
theorem sMod (ha : SE G X a ma) (hb : SE G X b mb) : SE G X (.BinOp a .Mod b pos) (dOp (pureO modO) ma mb) := .bin OpP.mod.s ha hb
omit c in
theorem sPow (ha : SE G X a ma) (hb : SE G X b mb) : SE G X (.BinOp a .Pow b pos) (dOp (pureO powO) ma mb) := .bin OpP.pow.s ha hb
omit c in
theorem oLt : OpP G X (compareOp .Lt) ltO := OpP.lt
omit c in
theorem oLe : OpP G X (compareOp .LtE) leO := OpP.le
omit c in
theorem oGt : OpP G X (compareOp .Gt) gtO := OpP.gt
omit c in
theorem oGe : OpP G X (compareOp .GtE) geO := OpP.ge
omit c in
theorem oIs : OpP G X (compareOp .Is) isO := OpP.is_
omit c in
theorem oIsn : OpP G X (compareOp .IsNot) isnO := OpP.isn
theorem oEq : OpP G X (compareOp .Eq) eqO := OpP.eq c.hK c.un
theorem oNe : OpP G X (compareOp .NotEq) neO := OpP.ne c.hK c.un
theorem oIn : OpP G X (compareOp .In) inO := OpP.in_ c.hK c.un
theorem oNin : OpP G X (compareOp .NotIn) ninO := OpP.nin c.hK c.un
omit c in
theorem sCmp {op : CmpOp} {g : List D → D → D → Option D} (ho : OpP G X (compareOp op) g) (ha : SE G X a ma) (hb : SE G X b mb) (hm : behindInMarks op b = false := by rfl) : SE G X (.Compare a [op] [b] pos) (dOp (pureO g) ma mb) := .cmp hm ho.s ha hb
theorem tCmp {op : CmpOp} {g : List D → D → D → Option D} (ho : OpP G X (compareOp op) g) (ha : SE G X a ma) (hb : SE G X b mb) (hm : behindInMarks op b = false := by rfl) : ST G X (.Compare a [op] [b] pos) (dTru truO (dOp (pureO g) ma mb)) := .cmp hm ho.s (.pure c.hK) ha hb
theorem tVal (ha : SE G X e m) (he : ∀ whole, isTrue e X.env whole = (do let v ← whole; standAt e.pos; holding [v] (truthy v)) := by intro _; rfl) : ST G X e (dTru truO m) := .truth (.pure c.hK) ha he
theorem sNot (ha : SE G X a ma) : SE G X (.UnaryOp .Not a pos) (dNot truO ma) := .not (.pure c.hK) ha
theorem sAnd {rest : List Expr} (ha : SE G X a ma) (hb : SE G X (.BoolOp .And (b :: rest) pos) mb) : SE G X (.BoolOp .And (a :: b :: rest) pos) (dAnd truO ma mb) := .and (.pure c.hK) ha hb
theorem sOr {rest : List Expr} (ha : SE G X a ma) (hb : SE G X (.BoolOp .Or (b :: rest) pos) mb) : SE G X (.BoolOp .Or (a :: b :: rest) pos) (dOr truO ma mb) := .or (.pure c.hK) ha hb
theorem sIx (ha : SE G X a ma) (hb : SE G X b mb) (hs : PlainIx b := by intro _ _; rfl) : SE G X (.Subscript a b pos) (dOp (pureO idxM) ma mb) := .sub (.seq c.hK hs) ha hb
omit c in
theorem sBF {x : Str} {id : String} {g : List D → Ev D} (hc : CaS G X (.builtin id) g) (hg : Gl X x) (hm : X.mg x = none) (hv : bootBuiltins x = some (.builtin id)) (ha : SA G X (e :: es) ms)
    (hn : x ≠ "__name__" := by decide) (hdb : (x == ("__debug__" : Str)) = false := by decide) (hst : (e :: es).all noStar = true := by rfl) : SE G X (.Call (.Name x p) (e :: es) [] pos) (dBlt g ms) := .bltF hc hg hm hv ha hn hdb (star_cons hst) (star_none (star_tail hst))
omit c in
theorem sBT {x : Str} {T : String} {g : List D → Ev D} (hc : CaS G X (.type T) g) (hg : Gl X x) (hm : X.mg x = none) (hv : bootBuiltins x = some (.type T)) (ha : SA G X (e :: es) ms)
    (hn : x ≠ "__name__" := by decide) (hdb : (x == ("__debug__" : Str)) = false := by decide) (hst : (e :: es).all noStar = true := by rfl) : SE G X (.Call (.Name x p) (e :: es) [] pos) (dBlt g ms) := .bltT hc hg hm hv ha hn hdb (star_cons hst) (star_none (star_tail hst))
omit c in
theorem sVar {i : Nat} {x : Str} (hN : X.N[i]? = some x) (hv : Vis X.env.scope x) (hd : (x == ("__debug__" : Str)) = false := by decide) (hcd : (x == ("__classdict__" : Str)) = false := by decide) : SE G X (.Name x pos) (dVar i) := .var hN hv hd hcd
omit c in
theorem sInt {i : Int} {j : Nat} : SE G X (.Constant (.int i) j pos) (dLit (.int i)) := .lit pe_int fun _ _ => .int
omit c in
theorem sStr {x : Str} {j : Nat} : SE G X (.Constant (.str x) j pos) (dLit (.str x)) := .lit pe_str fun _ _ => .str
omit c in
theorem sBl {x : Bool} {j : Nat} : SE G X (.Constant (.bool x) j pos) (dLit (.bl x)) := .lit pe_bl fun _ _ => .bl
omit c in
theorem sNon {j : Nat} : SE G X (.Constant .none j pos) (dLit .non) := .lit pe_non fun _ _ => .non
omit c in
theorem sGlo {x : Str} {v : V} {u : Value} {d : D} (hg : Gl X x) (hm : X.mg x = some u) (r : RelV v u) (hr : ∀ r H, Rep G r H v d) (hd : (x == ("__debug__" : Str)) = false := by decide) : SE G X (.Name x pos) (dLit d) := .lit (pe_glob hg hm r hd) hr
omit c in
theorem aCons (ha : SE G X e m) (hb : SA G X es ms) (hst : noStar e = true := by rfl) : SA G X (e :: es) (dCons m ms) := .cons ha hb (by cases e <;> first | rfl | cases hst)
/-- a call of an own def, all parameters written -/
theorem sCall {k : Nat} {f : Addr} {fd : FuncData} {ps : List Str} {g : List D → Ev D} (F : FnS G X.prog X.w X.mg X.base k f fd ps g) (hr : Room k X.A) {x : Str} {dvs : List V} {dv : List Value} {dd : List D} (hg : Gl X x) (hm : X.mg x = some (.ref f)) (hk : PySem.W.keepIn X.K (.ref f) = true)
    (hb : Binds X.K fd ps dv) (hd : Vals dvs dv) (hdd : ∀ r H, Reps G r H dvs dd) (ha : SA G X (e :: es) ms) (hdb : (x == ("__debug__" : Str)) = false := by decide)
    (hst : (e :: es).all noStar = true := by rfl) : SE G X (.Call (.Name x p) (e :: es) [] pos) (dCall ps.length dd g ms) := .call F hr c.gd c.hK hg hm hk hb hd hdd ha hdb (star_cons hst) (star_none (star_tail hst))
theorem sCall0 {k : Nat} {f : Addr} {fd : FuncData} {ps : List Str} {g : List D → Ev D} (F : FnS G X.prog X.w X.mg X.base k f fd ps g) (hr : Room k X.A) {x : Str} {dvs : List V} {dv : List Value} {dd : List D} (hg : Gl X x) (hm : X.mg x = some (.ref f)) (hk : PySem.W.keepIn X.K (.ref f) = true)
    (hb : Binds X.K fd ps dv) (hd : Vals dvs dv) (hdd : ∀ r H, Reps G r H dvs dd) (hdb : (x == ("__debug__" : Str)) = false := by decide) : SE G X (.Call (.Name x p) [] [] pos) (dCall ps.length dd g dNil) := .call0 F hr c.gd c.hK hg hm hk hb hd hdd hdb
omit c in
theorem mAppend {o : Expr} (ho : SE G X o m) (ha : SA G X (e :: es) ms) (hbase : attributeBase o "append" X.env (eval o X.env) = eval o X.env := by rfl)
    (hfew : ((backTo pos (starEach (e :: es) X.env)).all (fun x => !x.1) && (backToKw pos (keywordEach [] X.env)).all (fun x => x.1.isSome) && decide ((e :: es).length + ([] : List Keyword).length + (if ([] : List Keyword).isEmpty then 0 else 1) < 30)) = true := by rfl)
    (hline : (apos.endLine == pos.line) = true := by rfl) (hs : starEach (e :: es) X.env = (false, eval e X.env) :: starEach es X.env := by rfl) (hplain : (backTo pos (starEach es X.env)).any (·.1) = false := by rfl) (hK : G.K = X.K := by rfl) :
    SE G X (.Call (.Attribute o "append" apos) (e :: es) [] pos) (dMth isListD appendO m ms) := .mth PySem.F.plainAttrs_list PySem.F.slot_list_append PySem.F.type_list_append (.list hK) .append ho ha hbase hfew hline hs hplain
omit c in
theorem mSplit {o : Expr} (ho : SE G X o m) (ha : SA G X (e :: es) ms) (hbase : attributeBase o "split" X.env (eval o X.env) = eval o X.env := by rfl)
    (hfew : ((backTo pos (starEach (e :: es) X.env)).all (fun x => !x.1) && (backToKw pos (keywordEach [] X.env)).all (fun x => x.1.isSome) && decide ((e :: es).length + ([] : List Keyword).length + (if ([] : List Keyword).isEmpty then 0 else 1) < 30)) = true := by rfl)
    (hline : (apos.endLine == pos.line) = true := by rfl) (hs : starEach (e :: es) X.env = (false, eval e X.env) :: starEach es X.env := by rfl) (hplain : (backTo pos (starEach es X.env)).any (·.1) = false := by rfl) :
    SE G X (.Call (.Attribute o "split" apos) (e :: es) [] pos) (dMth isStrD splitO m ms) := .mth PySem.F.plainAttrs_str PySem.F.slot_str_split PySem.F.type_str_split .str .split ho ha hbase hfew hline hs hplain
theorem mJoin {o : Expr} (ho : SE G X o m) (ha : SA G X (e :: es) ms) (hbase : attributeBase o "join" X.env (eval o X.env) = eval o X.env := by rfl)
    (hfew : ((backTo pos (starEach (e :: es) X.env)).all (fun x => !x.1) && (backToKw pos (keywordEach [] X.env)).all (fun x => x.1.isSome) && decide ((e :: es).length + ([] : List Keyword).length + (if ([] : List Keyword).isEmpty then 0 else 1) < 30)) = true := by rfl)
    (hline : (apos.endLine == pos.line) = true := by rfl) (hs : starEach (e :: es) X.env = (false, eval e X.env) :: starEach es X.env := by rfl) (hplain : (backTo pos (starEach es X.env)).any (·.1) = false := by rfl) :
    SE G X (.Call (.Attribute o "join" apos) (e :: es) [] pos) (dMth isStrD joinO m ms) := .mth PySem.F.plainAttrs_str PySem.F.slot_str_join PySem.F.type_str_join .str (.join c.hK) ho ha hbase hfew hline hs hplain
end
end
end Iv
/-! A head's Hook with one more Bool; keywords of defs of one parameter. -/
namespace Iv
open PySem PySem.Spec PyProof.Rows L2

abbrev AlB : Type := He.AlD × Bool
def obsB (n : Nat) (fa : List He.Fa) (fn : List He.DefD) (ex : PySem.W.Frag → Bool) (g : Addr → Option Obj) : AlB := (He.obsDG n fa fn g, ex (He.frG g (He.asD g n)))
structure SaysB (fa : List He.Fa) (fn : List He.DefD) (ex : PySem.W.Frag → Bool) (K : PySem.W.Frag) : Prop where
  d : He.SaysD fa fn K
  more : ex K = true
def hookB (n : Nat) (fa : List He.Fa) (fn : List He.DefD) (ex : PySem.W.Frag → Bool) : PySem.W.Hook where
  α := AlB
  obs := fun s => obsB n fa fn ex s.heap.get?
  val := fun _ => (He.valD fn, true)
  says := fun _ h => ∃ K : PySem.W.Frag, K.In h ∧ SaysB fa fn ex K
  of := fun _ _ e => ⟨_, He.frG_in, congrArg (fun z : AlB => z.1) e, congrArg (fun z : AlB => z.2) e⟩
  keeps := fun _ _ _ ⟨K, hK, c⟩ k => ⟨K, PySem.W.Frag.In.keeps hK k, c⟩
theorem obsB_eq {n : Nat} {fa : List He.Fa} {fn : List He.DefD} {ex : PySem.W.Frag → Bool} {g : Addr → Option Obj} {s : Shared} (h : ∀ a, g a = s.heap.get? a) : obsB n fa fn ex g = (hookB n fa fn ex).obs s := by
  obtain rfl : g = s.heap.get? := funext h
  rfl
section
variable {K : PySem.W.Frag} {x qual : Str} {params : Arguments} {body : List Stmt} {scope : Scope} {kws : List (Str × V)} {f : Addr} {fd : FuncData}
/-- f(v) and f(p = v) of a def of one parameter p -/
theorem kb1 {p : Str} (F : FunD K x qual params body scope [] kws f fd)
    (h1 : ∀ (kV doc pm : Value) (an : Option Addr) (cdv ct v : Value), bindArgs (PySem.W.fnOf x qual params body scope .none kV doc pm an cdv ct) ⟨[v], []⟩ = pure [(p, v)])
    (h2 : ∀ (kV doc pm : Value) (an : Option Addr) (cdv ct v : Value), bindArgs (PySem.W.fnOf x qual params body scope .none kV doc pm an cdv ct) ⟨[], [(p, v)]⟩ = pure [(p, v)]) : KBinds K fd [p] [p] (fun us ws => us ++ ws) (fun vs zs => vs ++ zs) := by
  obtain ⟨oc, od, dV, kV, doc, pm, an, cdv, ct, osl, rfl, lk, hcd, hD, hK⟩ := F.ex
  rcases hD with ⟨_, rfl⟩ | ⟨e, _⟩
  · refine ⟨fun s us ws _ hl => ?_, fun r1 r2 => r1.append r2⟩
    match us, ws, hl with
    | [v], [], _ => exact .of_eq (h1 kV doc pm an cdv ct v)
    | [], [v], _ => exact .of_eq (h2 kV doc pm an cdv ct v)
    | [], [], hl => cases hl
    | _ :: _ :: _, _, hl => simp at hl
    | [_], _ :: _, hl => simp at hl
    | [], _ :: _ :: _, hl => simp at hl
  · exact absurd rfl e
end
end Iv
/-! What a run of the evaluator comes to: a calculus for the plain laws. -/
namespace Iv
def wp {α : Type} (x : R α) (Q : α → List D → Prop) (E : D → List D → Prop) : Prop := match x with
  | .ok a M => Q a M
  | .exc e M => E e M
  | .stk => False
section
variable {α β : Type} {Q : α → List D → Prop} {E : D → List D → Prop} {M M' : List D}
theorem wp_ok {a : α} : wp (.ok a M) Q E = Q a M := rfl
theorem wp_exc {e : D} : wp (.exc e M) Q E = E e M := rfl
theorem wp_ret {a : α} : wp (ret a M) Q E = Q a M := rfl
theorem wp_bnd {x : Ev β} {f : β → Ev α} : wp (bnd x f M) Q E = wp (x M) (fun a M' => wp (f a M') Q E) E := by
  unfold bnd
  cases x M <;> rfl
theorem wp_lft {x : Ev β} {δ : DEnv} {f : β → Ev Fl} {Q : Fl → List D → Prop} : wp (lft x δ f M) Q E = wp (x M) (fun a M' => wp (f a M') Q E) (fun e M' => Q (.ex δ e) M') := by
  unfold lft
  cases x M <;> rfl
theorem wp_of {x : R α} {a : α} (h : x = .ok a M) (q : Q a M) : wp x Q E := by rw [h]; exact q
theorem wp.mono {Q' : α → List D → Prop} {E' : D → List D → Prop} {x : R α} (h : wp x Q E) (hq : ∀ a M, Q a M → Q' a M) (he : ∀ e M, E e M → E' e M) : wp x Q' E' := by
  cases x with
  | ok a M => exact hq a M h
  | exc e M => exact he e M h
  | stk => exact h
theorem wp.imp {Q' : α → List D → Prop} {x : R α} (h : wp x Q E) (hq : ∀ a M, Q a M → Q' a M) : wp x Q' E := h.mono hq fun _ _ h => h
/-- nothing is raised -/
abbrev wp0 {α : Type} (x : R α) (Q : α → List D → Prop) : Prop := wp x Q fun _ _ => False
theorem wp0.to {Q' : α → List D → Prop} {E' : D → List D → Prop} {x : R α} (h : wp0 x Q) (hq : ∀ a M, Q a M → Q' a M) : wp x Q' E' := h.mono hq fun _ _ h => h.elim
theorem wp0.get {x : R α} (h : wp0 x Q) : ∃ a M, x = .ok a M ∧ Q a M := by
  cases x with
  | ok a M => exact ⟨a, M, rfl, h⟩
  | exc e M => exact h.elim
  | stk => exact h.elim
/-- a def's end, no own cells -/
theorem wp_fin {x : R Fl} {n : Nat} {Q : D → List D → Prop} (h : wp0 x fun f M => M.length = n ∧ match f with
    | .rt d => Q d M
    | .nx _ => Q .non M
    | .ex _ (.ins c ns vs) => E (.ins c ns vs) M
    | _ => False) : wp (fin false n x) Q E := by
  cases x with
  | ok f M =>
    obtain ⟨hn, h⟩ := h
    cases f with
    | rt d => simp only [fin, closes, hn, if_true]; exact h
    | nx d => simp only [fin, closes, hn, if_true]; exact h
    | ex δ e =>
      cases e with
      | ins c ns vs => simp only [fin, closes, hn, if_true]; exact h
      | _ => exact h.elim
    | _ => exact h.elim
  | exc _ _ => exact h.elim
  | stk => exact h.elim
theorem wp_run {m : DS} {n : Nat} {ds : List D} {Q : D → List D → Prop} (h : wp0 (m (entry n ds) M) fun f M' => M'.length = M.length ∧ match f with
    | .rt d => Q d M'
    | .nx _ => Q .non M'
    | .ex _ (.ins c ns vs) => E (.ins c ns vs) M'
    | _ => False) : wp (runF false n m ds M) Q E := wp_fin h
end
/-- a for loop, by what holds ahead of each turn -/
theorem wp_turns {z : Src} {g : DG} {body : DS} {Q : Fl → List D → Prop} {E : D → List D → Prop} (I : Nat → DEnv → List D → Prop)
    (step : ∀ i δ M, I i δ M → i < z.len → ∃ d, z.get M i = some d ∧ wp (g d δ M) (fun δ1 M1 => wp (body δ1 M1) (fun f M2 => match f with
      | .nx δ2 => I (i + 1) δ2 M2
      | .ct δ2 => I (i + 1) δ2 M2
      | .bk δ2 => Q (.nx δ2) (z.out M2)
      | .rt d => Q (.rt d) (z.out M2)
      | x => Q x M2) E) (fun e M' => Q (.ex δ e) M'))
    (fini : ∀ δ M, I z.len δ M → z.fin M = true ∧ Q (.nx δ) (z.out M)) : ∀ (n i : Nat) (δ : DEnv) (M : List D), i + n = z.len → I i δ M → wp (turns z g body n i δ M) Q E
  | 0, i, δ, M, hi, h => by
    obtain rfl : i = z.len := by omega
    obtain ⟨h1, h2⟩ := fini δ M h
    show wp (if z.fin M then .ok (.nx δ) (z.out M) else .stk) Q E
    rw [if_pos h1]
    exact h2
  | n + 1, i, δ, M, hi, h => by
    obtain ⟨d, e, h1⟩ := step i δ M h (by omega)
    unfold turns
    simp only [e]
    rw [wp_lft]
    refine h1.mono (fun δ1 M1 h2 => ?_) fun _ _ h => h
    rw [wp_bnd]
    refine h2.mono (fun f M2 h3 => ?_) fun _ _ h => h
    cases f with
    | nx δ2 => exact wp_turns I step fini n (i + 1) δ2 M2 (by omega) h3
    | ct δ2 => exact wp_turns I step fini n (i + 1) δ2 M2 (by omega) h3
    | bk δ2 => exact h3
    | rt d => exact h3
    | ex δ2 e => exact h3
theorem wp_for {it : DI} {g : DG} {body : DS} {Q : Fl → List D → Prop} {E : D → List D → Prop} {δ : DEnv} {M : List D} (h : wp0 (it δ M) fun z M1 => ∃ I : Nat → DEnv → List D → Prop, I 0 δ M1 ∧
    (∀ i δ M, I i δ M → i < z.len → ∃ d, z.get M i = some d ∧ wp (g d δ M) (fun δ1 M1 => wp (body δ1 M1) (fun f M2 => match f with
      | .nx δ2 => I (i + 1) δ2 M2
      | .ct δ2 => I (i + 1) δ2 M2
      | .bk δ2 => Q (.nx δ2) (z.out M2)
      | .rt d => Q (.rt d) (z.out M2)
      | x => Q x M2) E) (fun e M' => Q (.ex δ e) M')) ∧ (∀ δ M, I z.len δ M → z.fin M = true ∧ Q (.nx δ) (z.out M))) : wp (dFor it g body δ M) Q E := by
  unfold dFor
  rw [wp_lft]
  refine h.mono (fun z M1 ⟨I, i0, st, fi⟩ => wp_turns I st fi z.len 0 δ M1 (Nat.zero_add _) i0) fun _ _ h => h.elim
/-- a comprehension, by what holds ahead of each turn of what is made so far -/
theorem wp_lcs {z : Src} {g : DG} {tt : DT} {te : DE} {δ : DEnv} {Q : List D → List D → Prop} (I : Nat → List D → List D → Prop)
    (step : ∀ i acc M, I i acc M → i < z.len → ∃ d, z.get M i = some d ∧ wp0 (g d δ M) (fun δ1 M1 => wp0 (tt δ1 M1) (fun b M2 => if b = true then wp0 (te δ1 M2) (fun y M3 => I (i + 1) (acc ++ [y]) M3) else I (i + 1) acc M2)))
    (fini : ∀ acc M, I z.len acc M → z.fin M = true ∧ Q acc (z.out M)) : ∀ (n i : Nat) (acc M : List D), i + n = z.len → I i acc M → wp0 (lcs z g tt te δ n i M) (fun ys M' => Q (acc ++ ys) M')
  | 0, i, acc, M, hi, h => by
    obtain rfl : i = z.len := by omega
    obtain ⟨h1, h2⟩ := fini acc M h
    show wp (if z.fin M then .ok [] (z.out M) else .stk) _ _
    rw [if_pos h1]
    show Q (acc ++ []) (z.out M)
    rw [List.append_nil]
    exact h2
  | n + 1, i, acc, M, hi, h => by
    obtain ⟨d, e, h1⟩ := step i acc M h (by omega)
    unfold lcs
    simp only [e]
    rw [wp0, wp_bnd]
    refine h1.imp fun δ1 M1 h2 => ?_
    rw [wp_bnd]
    refine h2.imp fun b M2 h3 => ?_
    cases b with
    | true =>
      simp only [if_true] at h3 ⊢
      rw [wp_bnd]
      refine h3.imp fun y M3 h4 => ?_
      rw [wp_bnd]
      refine (wp_lcs I step fini n (i + 1) (acc ++ [y]) M3 (by omega) h4).imp fun ys M4 h5 => ?_
      show Q (acc ++ y :: ys) M4
      simpa using h5
    | false =>
      simp only [Bool.false_eq_true, if_false] at h3 ⊢
      exact wp_lcs I step fini n (i + 1) acc M2 (by omega) h3
theorem wp_lc {it : DI} {g : DG} {tt : DT} {te : DE} {vs : List Nat} {δ : DEnv} {M : List D} {Q : D → List D → Prop} {E : D → List D → Prop} (h : wp0 (it δ M) fun z M1 => z.len ≤ PySem.sizeLine ∧ ∃ I : Nat → List D → List D → Prop, I 0 [] M1 ∧
    (∀ i acc M, I i acc M → i < z.len → ∃ d, z.get M i = some d ∧ wp0 (g d (wipeD δ vs) M) (fun δ1 M1 => wp0 (tt δ1 M1) (fun b M2 => if b = true then wp0 (te δ1 M2) (fun y M3 => I (i + 1) (acc ++ [y]) M3) else I (i + 1) acc M2))) ∧
    (∀ acc M, I z.len acc M → z.fin M = true ∧ Q (.lst acc) (z.out M))) : wp (dLc it g tt te vs δ M) Q E := by
  unfold dLc
  rw [wp_bnd]
  refine h.mono (fun z M1 ⟨hz, I, i0, st, fi⟩ => ?_) fun _ _ h => h.elim
  rw [if_pos hz]
  obtain ⟨ys, M2, e, q⟩ := (wp_lcs (Q := fun ys M => Q (.lst ys) M) I st fi z.len 0 [] M1 (Nat.zero_add _) i0).get
  unfold noX bnd
  simp only [e]
  exact q
/-! ### the rules that simp takes -/
section
variable {Q : D → List D → Prop} {E : D → List D → Prop} {δ : DEnv} {M : List D}
theorem wp_opt {α : Type} {o : Option α} {a : α} {Q : α → List D → Prop} (h : o = some a) (q : Q a M) : wp (optE o M) Q E := by rw [h]; exact q
theorem wp_dOp {g : D → D → Ev D} {a b : DE} : wp (dOp g a b δ M) Q E = wp (a δ M) (fun x M1 => wp (b δ M1) (fun y M2 => wp (g x y M2) Q E) E) E := by unfold dOp; rw [wp_bnd]; simp only [wp_bnd]
theorem wp_dTru {g : D → Ev Bool} {a : DE} {Q : Bool → List D → Prop} : wp (dTru g a δ M) Q E = wp (a δ M) (fun x M1 => wp (g x M1) Q E) E := by unfold dTru; rw [wp_bnd]
theorem wp_dCons {a : DE} {b : DA} {Q : List D → List D → Prop} : wp (dCons a b δ M) Q E = wp (a δ M) (fun x M1 => wp (b δ M1) (fun xs M2 => Q (x :: xs) M2) E) E := by unfold dCons; rw [wp_bnd]; simp only [wp_bnd, wp_ret]
theorem wp_dNil {Q : List D → List D → Prop} : wp (dNil δ M) Q E = Q [] M := rfl
theorem wp_dCall {n : Nat} {dv : List D} {f : List D → Ev D} {a : DA} : wp (dCall n dv f a δ M) Q E = wp (a δ M) (fun xs M1 => wp ((if xs.length + dv.length = n then f (xs ++ dv) else stuck) M1) Q E) E := by unfold dCall; rw [wp_bnd]
theorem wp_dSeq {a b : DS} {Q : Fl → List D → Prop} : wp (dSeq a b δ M) Q E = wp (a δ M) (fun f M1 => match f with | .nx δ' => wp (b δ' M1) Q E | x => Q x M1) E := by
  unfold dSeq
  rw [wp_bnd]
  congr 1
  funext f M1
  cases f <;> rfl
theorem wp_dAsg {a : DE} {g : DG} {Q : Fl → List D → Prop} : wp (dAsg a g δ M) Q E = wp (a δ M) (fun d M1 => wp (g d δ M1) (fun δ' M2 => Q (.nx δ') M2) (fun e M' => Q (.ex δ e) M')) (fun e M' => Q (.ex δ e) M') := by
  unfold dAsg
  rw [wp_lft]
  simp only [wp_lft, wp_ret]
theorem wp_dIf {c : DT} {a b : DS} {Q : Fl → List D → Prop} : wp (dIf c a b δ M) Q E = wp (c δ M) (fun k M1 => if k = true then wp (a δ M1) Q E else wp (b δ M1) Q E) (fun e M' => Q (.ex δ e) M') := by
  unfold dIf
  rw [wp_lft]
  congr 1
  funext k M1
  cases k <;> rfl
theorem wp_dRet {a : DE} {Q : Fl → List D → Prop} : wp (dRet a δ M) Q E = wp (a δ M) (fun d M1 => Q (.rt d) M1) (fun e M' => Q (.ex δ e) M') := by
  unfold dRet
  rw [wp_lft]
  simp only [wp_ret]
theorem wp_dDrop {a : DE} {Q : Fl → List D → Prop} : wp (dDrop a δ M) Q E = wp (a δ M) (fun d M1 => Q (.nx δ) M1) (fun e M' => Q (.ex δ e) M') := by
  unfold dDrop
  rw [wp_lft]
  simp only [wp_ret]
theorem wp_dNext {Q : Fl → List D → Prop} : wp (dNext δ M) Q E = Q (.nx δ) M := rfl
theorem wp_dAndT {a b : DT} {Q : Bool → List D → Prop} : wp (dAndT a b δ M) Q E = wp (a δ M) (fun c M1 => if c = true then wp (b δ M1) Q E else Q false M1) E := by
  unfold dAndT
  rw [wp_bnd]
  congr 1
  funext k M1
  cases k <;> rfl
theorem wp_dOrT {a b : DT} {Q : Bool → List D → Prop} : wp (dOrT a b δ M) Q E = wp (a δ M) (fun c M1 => if c = true then Q true M1 else wp (b δ M1) Q E) E := by
  unfold dOrT
  rw [wp_bnd]
  congr 1
  funext k M1
  cases k <;> rfl
theorem wp_dNotT {a : DT} {Q : Bool → List D → Prop} : wp (dNotT a δ M) Q E = wp (a δ M) (fun c M1 => Q (!c) M1) E := by unfold dNotT; rw [wp_bnd]; simp only [wp_ret]
theorem wp_dNot {g : D → Ev Bool} {a : DE} : wp (dNot g a δ M) Q E = wp (a δ M) (fun x M1 => wp (g x M1) (fun c M2 => Q (.bl (!c)) M2) E) E := by unfold dNot; rw [wp_bnd]; simp only [wp_bnd, wp_ret]
theorem wp_dAnd {g : D → Ev Bool} {a b : DE} : wp (dAnd g a b δ M) Q E = wp (a δ M) (fun x M1 => wp (g x M1) (fun c M2 => if c = true then wp (b δ M2) Q E else Q x M2) E) E := by
  unfold dAnd
  rw [wp_bnd]
  congr 1
  funext x M1
  rw [wp_bnd]
  congr 1
  funext c M2
  cases c <;> rfl
theorem wp_dOr {g : D → Ev Bool} {a b : DE} : wp (dOr g a b δ M) Q E = wp (a δ M) (fun x M1 => wp (g x M1) (fun c M2 => if c = true then Q x M2 else wp (b δ M2) Q E) E) E := by
  unfold dOr
  rw [wp_bnd]
  congr 1
  funext x M1
  rw [wp_bnd]
  congr 1
  funext c M2
  cases c <;> rfl
theorem wp_dIte {c : DT} {a b : DE} : wp (dIte c a b δ M) Q E = wp (c δ M) (fun k M1 => if k = true then wp (a δ M1) Q E else wp (b δ M1) Q E) E := by
  unfold dIte
  rw [wp_bnd]
  congr 1
  funext k M1
  cases k <;> rfl
theorem wp_dTup {a : DA} : wp (dTup a δ M) Q E = wp (a δ M) (fun xs M1 => xs.length ≤ PySem.sizeLine ∧ Q (.tup xs) M1) E := by
  unfold dTup
  rw [wp_bnd]
  congr 1
  funext xs M1
  by_cases c : xs.length ≤ PySem.sizeLine
  · rw [if_pos c]; simp [wp_ret, c]
  · rw [if_neg c]; simp [stuck, wp, c]
theorem wp_dLst {a : DA} : wp (dLst a δ M) Q E = wp (a δ M) (fun xs M1 => xs.length ≤ PySem.sizeLine ∧ Q (.lst xs) M1) E := by
  unfold dLst
  rw [wp_bnd]
  congr 1
  funext xs M1
  by_cases c : xs.length ≤ PySem.sizeLine
  · rw [if_pos c]; simp [wp_ret, c]
  · rw [if_neg c]; simp [stuck, wp, c]
theorem wp_dMth {ty : List D → D → Bool} {g : D → List D → Ev D} {a : DE} {as : DA} : wp (dMth ty g a as δ M) Q E = wp (a δ M) (fun x M1 => ty M1 x = true ∧ wp (as δ M1) (fun ds M2 => wp (g x ds M2) Q E) E) E := by
  unfold dMth
  rw [wp_bnd]
  congr 1
  funext x M1
  by_cases c : ty M1 x = true
  · simp only [c, if_true, wp_bnd, true_and]
  · simp only [c, Bool.false_eq_true, if_false, false_and]; rfl
theorem wp_dPar {is : List Nat} {a : DA} {Q : Fl → List D → Prop} : wp (dPar is a δ M) Q E = wp (a δ M) (fun ds M1 => wp ((match setAll is ds δ with | some δ' => ret (.nx δ') | none => stuck : Ev Fl) M1) Q E) (fun e M' => Q (.ex δ e) M') := by
  unfold dPar
  rw [wp_lft]
  first | done | congr 1
theorem wp_dNoP {Q : Option Int → List D → Prop} : wp (dNoP δ M) Q E = Q none M := rfl
theorem wp_dPart {a : DE} {Q : Option Int → List D → Prop} : wp (dPart a δ M) Q E = wp (a δ M) (fun x M1 => wp ((match x with | .int i => ret (some i) | _ => stuck : Ev (Option Int)) M1) Q E) E := by
  unfold dPart
  rw [wp_bnd]
  first | done | congr 1
theorem wp_dSli {a : DE} {lo hi : DO} : wp (dSli a lo hi δ M) Q E = wp (a δ M) (fun x M1 => wp (lo δ M1) (fun l M2 => wp (hi δ M2) (fun h M3 => wp (optE (sliM M3 x l h) M3) Q E) E) E) E := by
  unfold dSli
  simp only [wp_bnd]
theorem wp_dCel {a : DA} : wp (dCel a δ M) Q E = wp (a δ M) (fun xs M1 => xs.length ≤ PySem.sizeLine ∧ Q (.cell M1.length) (M1 ++ [.lst xs])) E := by
  unfold dCel
  rw [wp_bnd]
  congr 1
  funext xs M1
  by_cases c : xs.length ≤ PySem.sizeLine
  · simp [wp, c]
  · simp [wp, c]
theorem wp_dNeg {a : DE} : wp (dNeg a δ M) Q E = wp (a δ M) (fun x M1 => wp ((match x with | .int i => ret (.int (-i)) | _ => stuck : Ev D) M1) Q E) E := by
  unfold dNeg
  rw [wp_bnd]
  first | done | congr 1
theorem wp_dBlt {g : List D → Ev D} {a : DA} : wp (dBlt g a δ M) Q E = wp (a δ M) (fun xs M1 => wp (g xs M1) Q E) E := by unfold dBlt; rw [wp_bnd]
end
end Iv
/-! super() in a method of the text: exceptions' __init__. -/
namespace Iv
open PySem PySem.Spec PyProof.Rows L2 NdefX

/-- what the written part has of a method that says super(): D its class -/
structure SupK (P : Program) (K : PySem.W.Frag) (F : NF) (D : Addr) : Prop where
  cell : ∃ cc cl cld csl, F.cl = [(("__class__" : Str), cc)] ∧ K.lookup cc = some ⟨cl, cld, .cell (some (.ref D)), csl⟩
  code : ∃ ccl cdd vs ccs file tf, K.lookup F.c = some ⟨ccl, cdd, .fields vs, ccs⟩ ∧ vs[2]? = some (.str file tf) ∧ ((P.main.file : Str) == file) = true
  cls : ∃ cdD, PySem.W.clsIn K D = some cdD
  sup : PySem.W.nsIn K mainGlobals "super" = some none
  any : PySem.W.nsIn K cStatics "thirdparty.any" = some none
  top : (P.main.scope.names.lookup ("super" : Str)).isSome = false
  nS : F.scope.names.lookup ("super" : Str) = some .globalImplicit
  nC : F.scope.names.lookup ("__class__" : Str) = some .free
  kd : F.scope.kind = .function
section
variable {X : Cx} {pins : List (Addr × Obj)} {σ : L2.St} {H : Hp} {s : Shared}
/-- super() at the head of a call: a new object of super(D, x) -/
theorem super_base {body : List Stmt} {F : NF} {f L D C x : Addr} {oc : Value} {od : Option Addr} {osl : Array (Option Value)} {fd : FuncData} {ar : Arg} {ox : Obj} {odx : Option Obj} {p0 p1 : Pos} {attr : Str} {whole : Sem Value} {Q : Value → Shared → Prop} {E : Value → Shared → Prop}
    (I : Inv X pins σ H s) (hE : X.env = envF F f L) (SK : SupK X.prog X.K F D) (hf : X.K.lookup f = some ⟨oc, od, .func fd, osl⟩) (hp : (fd.params.posonlyargs ++ fd.params.args).head? = some ar)
    (hN : X.N[0]? = some ar.arg) (hl : F.scope.names.lookup ar.arg = some .local) (h0 : σ[0]? = some (some (.ref x))) (IA : PySem.W.InstAt s.heap x ox C odx) (hsub : PySem.W.mroIn X.K C (.ref D) = some true) (hat : (attr == ("__class__" : Str)) = false)
    (q : ∀ so h', (∀ b o, s.heap.get? b = some o → h'.get? b = some o) → h'.get? so = some (PySem.W.ks_superObj D x C) → Q (.ref so) { s with heap := h' }) :
    PySem.wpAt (model X.prog X.w) X.A (.func body X.env) (attributeBase (.Call (.Name "super" p0) [] [] p1) attr X.env whole) Q E s := by
  obtain ⟨cc, cl, cld, csl, ecl, hcell⟩ := SK.cell
  obtain ⟨ccl, cdd, vs, ccs, file, tf, hcode, hvs, hfile⟩ := SK.code
  obtain ⟨cdD, hD⟩ := SK.cls
  have XI : X.K.In s.heap := I.kIn
  obtain ⟨m, hm, hlk⟩ := I.loc
  have kind : ∀ y, X.env.kindOf y = F.scope.names.lookup y := fun y => by rw [hE]; rfl
  have vis : Vis X.env.scope ar.arg := by
    rw [hE]
    exact .inl hl
  obtain ⟨u, ru, lk⟩ := hlk 0 ar.arg (.ref x) hN h0 vis
  cases ru
  have hmx : m ar.arg = some (.ref x) := by
    rcases lk with ⟨_, z⟩ | ⟨z, _⟩
    · exact z
    · rw [kind, hl] at z
      rcases z with z | z <;> cases z
  obtain ⟨mb, hb1, hb2⟩ := I.ok.mod.blt
  have hmg : X.mg "super" = none := PySem.W.mg_none_of I.ok.mod.kin I.ok.mod.glob SK.sup
  obtain ⟨oD, hD1, hD2⟩ : ∃ oD, s.heap.get? D = some oD ∧ oD.data = .cls cdD := by
    unfold PySem.W.clsIn at hD
    split at hD
    · rename_i c d cd' sl ho
      cases hD
      exact ⟨_, XI _ _ ho, rfl⟩
    · cases hD
  rw [hE]
  have hloc : (envF F f L).locals = X.env.locals := by rw [hE]
  refine ks_wpAt_super_base (env := envF F f L) (f := f) (cc := F.c) SK.nS SK.nC hat rfl (XI _ _ hf) rfl hp rfl (XI _ _ hcode) rfl hvs hfile SK.top ?_
  refine PySem.W.ks_loadName_global SK.kd SK.nS (PySem.Calls.loadGlobal_builtin (env := envF F f L) (I.ok.mod.glob.keeps I.bk) hmg (hb1.keeps I.bk) ((hb2 _ (by decide +kernel)).trans (by decide +kernel)) ⟨rfl, ?_⟩)
  refine wpAny_loadName_free (v := .ref D) SK.kd SK.nC (c := cc) (by rw [show (envF F f L).cells = F.cl from rfl, ecl]; rfl) ⟨_, XI _ _ hcell, rfl⟩ ?_
  refine wpAny_loadName_local SK.kd hl (by rw [hloc]; exact hm) hmx ?_
  refine ks_wpAny_isType_cls hD1 hD2 ⟨rfl, ?_⟩
  refine ks_wpAny_call_super hD1 hD2 IA.at_ IA.cls (fun c e => ?_) (PySem.W.looks_mroIn XI hsub) (fun h' e k => ?_)
  · have := IA.no
    unfold PySem.W.notCls at this
    rw [e] at this
    exact Bool.noConfusion this
  · exact q _ h' k e
/-- super().__init__('..') in an exception's __init__ -/
theorem sup_exc {body : List Stmt} {F : NF} {f L D C x : Addr} {oc : Value} {od : Option Addr} {osl : Array (Option Value)} {fd : FuncData} {ar : Arg} {p0 p1 p2 p3 p4 p5 : Pos} {z : Str} {j : Nat} {Q : Flow → Shared → Prop} {E : Value → Shared → Prop}
    (I : Inv X pins σ H s) (hE : X.env = envF F f L) (SK : SupK X.prog X.K F D) (hf : X.K.lookup f = some ⟨oc, od, .func fd, osl⟩) (hp : (fd.params.posonlyargs ++ fd.params.args).head? = some ar)
    (hN : X.N[0]? = some ar.arg) (hl : F.scope.names.lookup ar.arg = some .local) (h0 : σ[0]? = some (some (.ref x))) (hsub : PySem.W.mroIn X.K C (.ref D) = some true)
    (T : OexC X.K C) (hm : PySem.W.ks_superIn X.K C D "__init__" = some (some (.builtin "ValueError.__init__"))) (hB : PySem.W.subIn X.K (.ref C) (.type "ValueError") = some true) (e : H x = some (exo x C none))
    (q : ∀ s', Inv X pins σ H s' → Q .next s') (pl : Sem Bool)
    (he : eval (.Call (.Attribute (.Call (.Name "super" p0) [] [] p1) "__init__" p2) [.Constant (.str z) j p3] [] p4) X.env = (do
      let ov ← attributeBase (.Call (.Name "super" p0) [] [] p1) "__init__" X.env (eval (.Call (.Name "super" p0) [] [] p1) X.env)
      standAt p2.atName
      let (f, first) ← holding [ov] (getMethod ov "__init__" pl)
      callWith p4 f first (backTo p4 (starEach [.Constant (.str z) j p3] X.env)) []))
    (hi : interactive X.env = false) (hs : swapsWith (.Call (.Attribute (.Call (.Name "super" p0) [] [] p1) "__init__" p2) [.Constant (.str z) j p3] [] p4) none p5.line X.env = pure false) :
    PySem.wpAt (model X.prog X.w) X.A (.func body X.env) (exec (.Expr (.Call (.Attribute (.Call (.Name "super" p0) [] [] p1) "__init__" p2) [.Constant (.str z) j p3] [] p4) p5) X.env) Q E s := by
  obtain ⟨t1, ho⟩ := exo_at I.hok e
  have IA : PySem.W.InstAt s.heap x _ C none := ⟨ho, rfl, rfl, trivial⟩
  refine ks_wpAt_Expr_any (ks_wpAt_MethodCall (super_base I hE SK hf hp hN hl h0 IA hsub (by decide) fun so h1 k1 hso => ?_) he) hi hs
  have I1 : Inv X pins σ H { s with heap := h1 } := I.kept (t' := s.toks) k1
  have XI : X.K.In h1 := I1.kIn
  have IA1 : PySem.W.InstAt h1 x _ C none := ⟨k1 _ _ ho, rfl, rfl, trivial⟩
  obtain ⟨hh, g, d, t, os⟩ := s
  have hI : PySem.W.Looks (model X.prog X.w) h1 (isInstance (.ref x) (.type "ValueError")) true := IA1.type.andThen (PySem.W.looks_subIn XI hB)
  cases hc : PySem.W.clsIn X.K C with
  | none => unfold PySem.W.ks_superIn at hm; rw [hc] at hm; cases hm
  | some cd =>
    unfold PySem.W.ks_superIn at hm
    rw [hc] at hm
    refine PySem.W.kxs_getMethod PySem.W.kxs_ValueError hso (PySem.W.looks_opaque XI SK.any) (l₀ := cd.mro) (fun A Q E s k q => wpAny_bind ((PySem.W.looks_clsIn XI hc) A _ E s k (wpAny_pure q))) rfl XI hm hI (PySem.W.ks_ne XI IA1 hc) (by decide) ?_
    have k2 : ∀ b o, h1.get? b = some o → (h1.push (PySem.W.kxs_mw "ValueError.__init__" x)).get? b = some o := fun b o e => Heap.get?_push_of_some _ e
    have I2 : Inv X pins σ H ⟨h1.push (PySem.W.kxs_mw "ValueError.__init__" x), g, d, t + 1, os⟩ := I1.kept (t' := t + 1) k2
    have hu : (h1.push (PySem.W.kxs_mw "ValueError.__init__" x)).get? h1.objs.size = some (PySem.W.kxs_mw "ValueError.__init__" x) := Heap.get?_push_at rfl rfl
    generalize h1.push (PySem.W.kxs_mw "ValueError.__init__" x) = h2 at *
    generalize h1.objs.size = u at *
    have hst : starEach [.Constant (.str z) j p3] X.env = (false, eval (.Constant (.str z) j p3) X.env) :: starEach [] X.env := rfl
    have I3 : Inv X pins σ H ⟨h2, g, d, t + 2, os⟩ := I2.tok (t + 2)
    have ho2 : h2.get? x = some { cls := .ref C, dict := none, data := .fields #[.ref t1, .none, .none, .none, .bool false, .none] } := k2 _ _ (k1 _ _ ho)
    show wpAny _ _ (callWith p4 (.ref u) [] (backTo p4 (starEach [.Constant (.str z) j p3] X.env)) []) _ _ _
    rw [hst]
    refine PySem.W.kxs_callWith (i := "ValueError.__init__") (x := x) rfl (PySem.Calls.evalArgs_plain ?_)
    refine PySem.Calls.spliced_cons (wpAny_Constant_str (k := j) (pos := p3) (PySem.Calls.spliced_nil ⟨hu, ?_⟩))
    obtain ⟨nm, qn, N, bs, bm, sn, sub, ab, col, dd, k0, k1', k2', k3, k5, hC, hbm⟩ := T.cls
    have hC2 := I3.kIn _ _ hC
    have FB := PySem.F.excBase_ValueError
    refine wpAny_call (codeAny_of_tree ?_)
    show wpAny _ _ (callAny (.ref u) ⟨[.str z (t + 1)], []⟩) _ _ _
    simp only [callAny]
    refine wpAny_bind (wpAny_load hu ?_)
    simp only [PySem.W.kxs_mw, show (Value.type "method-wrapper" == Value.type "method" || Value.type "method-wrapper" == Value.type "builtin_function_or_method" || Value.type "method-wrapper" == Value.type "method-wrapper") = true by decide, if_true]
    refine PySem.W.KFB.if_so (by decide) ?_
    refine wpAny_bind (PySem.W.check_bound_init FB.toExcCallFacts hC2 ho2 rfl ?_)
    refine wpAny_bind (wpAny_pure (wpAny_pure ?_))
    refine ⟨plainId_quiet FB.init.plain _, codeAny_builtin FB.initEntry ?_⟩
    refine PySem.W.exc_init_tree (cls := .ref C) (t0 := t1) (dv := none) (c2 := .none) (c3 := .none) (b4 := .bool false) ho2 (by show 1 ≤ sizeLine; rw [sizeLine_eq]; omega) fun h' k hx _ => ?_
    have J := I3.write (h' := h') (t' := t + 2) (x := x) (e := x) (o := exo x C none) (by rw [e]; exact True.intro) (.inl rfl) k ⟨_, hx⟩ (exo_ok hx)
    have eu : upd H x (exo x C none) = H := by
      funext b
      by_cases hb : b = x
      · rw [hb, upd_same, e]
      · rw [upd_ne hb]
    rw [eu] at J
    exact q _ J
end
/-- a method's def with its one captured name, __class__ -/
structure FunX (K : PySem.W.Frag) (F : NF) (f : Addr) (fd : FuncData) : Prop where
  ex : ∃ oc od doc pm an ct osl, fd = PySem.W.fnX F.name F.qual F.params F.body F.scope F.cl .none .none doc pm an (.ref F.c) ct ∧ K.lookup f = some ⟨oc, od, .func fd, osl⟩
  code : PySem.W.codeIn K (.ref F.c) F.qual = true
  kp : PySem.W.keepIn K (.ref f) = true
section
variable {P : Program} {w : World} {K : PySem.W.Frag} {mg : Str → Option Value} {base : Heap} {N ps : List Str} {F : NF} {f D : Addr} {fd : FuncData} {k : Nat} {sp : Sp}
/-- what stands in the way of no call of super().__init__ on x: an exception of the class at C -/
structure SupE (K : PySem.W.Frag) (D C : Addr) : Prop where
  T : OexC K C
  sub : PySem.W.mroIn K C (.ref D) = some true
  sup : PySem.W.ks_superIn K C D "__init__" = some (some (.builtin "ValueError.__init__"))
  ve : PySem.W.subIn K (.ref C) (.type "ValueError") = some true
theorem fnok_super {CX : CXT} {rest : List Stmt} {p0 p1 p2 p3 p4 p5 : Pos} {z : Str} {j : Nat} {ar : Arg} (hf : FunX K F f fd) (S : NScope N ps ["__class__"] F.scope)
    (hbody : F.body = .Expr (.Call (.Attribute (.Call (.Name "super" p0) [] [] p1) "__init__" p2) [.Constant (.str z) j p3] [] p4) p5 :: rest) (SK : SupK P K F D)
    (hp : (F.params.posonlyargs ++ F.params.args).head? = some ar) (hN : N[0]? = some ar.arg) (hl : F.scope.names.lookup ar.arg = some .local) (len : ∀ vs H Q E, sp vs H Q E → vs.length = ps.length)
    (pl : Env → Sem Bool)
    (he : ∀ L, eval (.Call (.Attribute (.Call (.Name "super" p0) [] [] p1) "__init__" p2) [.Constant (.str z) j p3] [] p4) (envF F f L) = (do
      let ov ← attributeBase (.Call (.Name "super" p0) [] [] p1) "__init__" (envF F f L) (eval (.Call (.Name "super" p0) [] [] p1) (envF F f L))
      standAt p2.atName
      let (g, first) ← holding [ov] (getMethod ov "__init__" (pl (envF F f L)))
      callWith p4 g first (backTo p4 (starEach [.Constant (.str z) j p3] (envF F f L))) []))
    (hi : ∀ L, interactive (envF F f L) = false)
    (hs : ∀ L, swapsWith (.Call (.Attribute (.Call (.Name "super" p0) [] [] p1) "__init__" p2) [.Constant (.str z) j p3] [] p4) none p5.line (envF F f L) = pure false)
    (hrest : ∀ (A : Around) (outer : List Env) (s : Shared) (H : Hp) (vs : List V) (Q : VK) (E : XK), Room k (A.deeper (envF F f s.heap.objs.size)) → sp vs H Q E →
      (∃ x C ws, vs = .ref x :: ws ∧ SupE K D C ∧ H x = some (exo x C none)) ∧ ∃ t, PSs (ncx CX P w K mg base N F f A outer s H E) rest t ∧ t { nx := fun _ H' => Q .non H', rt := Q } (startF N vs [some (.ref D)]) H) :
    FnOk P w K mg base CX (k + 1) f fd ps sp := by
  obtain ⟨oc, od, doc, pm, an, ct, osl, rfl, lk⟩ := hf.ex
  refine ⟨len, fun A outer s H args us vs Q E hr e0 hbd rv hsp => ?_⟩
  have inK : K.In s.heap := e0.mod.kin.keeps fun b o e => (e0.bs b o e).1
  have noL : s.heap.NoLimit := e0.mod.nolimit.keeps fun b o e => (e0.bs b o e).1
  obtain ⟨cc, cl, cld, csl, ecl, hcell⟩ := SK.cell
  have hlen := len _ _ _ _ hsp
  have CA : CellsAt F.cl ["__class__"] [some (.ref D)] s.heap H := by
    rw [ecl]
    have hc0 : H cc = none := (e0.bs cc _ (e0.mod.kin _ _ hcell)).2
    have hcs := inK _ _ hcell
    have one : ∀ y c, ([(("__class__" : Str), cc)] : List (Str × Addr)).lookup y = some c → y = ("__class__" : Str) ∧ c = cc := fun y c h => by
      have h' : (match y == ("__class__" : Str) with | true => some cc | false => none) = some c := h
      cases q : (y == ("__class__" : Str)) with
      | true => rw [q] at h'; exact ⟨eq_of_beq q, (Option.some.inj h').symm⟩
      | false => rw [q] at h'; cases h'
    refine ⟨rfl, fun y c h => ?_, fun x y c h1 h2 => ?_, fun i y h => ?_⟩
    · obtain ⟨_, rfl⟩ := one y c h
      exact ⟨hc0, _, _, hcs, rfl⟩
    · rw [(one x c h1).1, (one y c h2).1]
    · cases i with
      | zero =>
        cases h
        exact ⟨cc, rfl, fun v hv => by cases hv; exact ⟨.ref D, rfl, _, hcs, rfl⟩⟩
      | succ i => simp at h
  refine ks_codeAny_call_defAt (fd := PySem.W.fnX F.name F.qual F.params F.body F.scope F.cl .none .none doc pm an (.ref F.c) ct) (body := F.body) (binds := ps.zip us) hr.depth (inK _ _ lk) rfl noL (PySem.W.codeRec_of inK hf.code) rfl hbd S.nocell
    (fun y hy => S.par y.1 (List.of_mem_zip hy).1) (fun h₁ hns hk₁ => ?_) S.co S.gen S.kind
  have I := inv_startN (f := f) (CX := CX) (E := E) (tk := s.toks + (ps.zip us).length) S hr.hd e0 hlen rv CA hns hk₁
  obtain ⟨⟨x, C, ws, rfl, SE, hx⟩, t, ht, hq⟩ := hrest A outer s H vs Q E (hr.deeper _) hsp
  have hA : (ncx CX P w K mg base N F f A outer s H E).A = A.deeper (envF F f s.heap.objs.size) := rfl
  have done : ∀ {s' : Shared} {σ : L2.St} {H' : Hp} {v : V} {u : Value}, Inv (ncx CX P w K mg base N F f A outer s H E) [] σ H' s' → RelV v u → Q v H' → CE outer P w H s Q u s' :=
    fun J rv q => ⟨_, _, J.os, J.bare, J.base, J.hok, rv, q⟩
  show PySem.wpAt (model P w) (A.deeper (envF F f s.heap.objs.size)) (.func F.body (envF F f s.heap.objs.size)) (execs F.body (envF F f s.heap.objs.size)) _ _ _
  rw [hbody]
  refine ks_wpAt_execs_cons ?_
  refine sup_exc (X := ncx CX P w K mg base N F f A outer s H E) (pins := []) (σ := startF N (.ref x :: ws) [some (.ref D)]) (H := H) I rfl SK lk hp hN hl rfl SE.sub SE.T SE.sup SE.ve hx (fun s' J => ?_) (pl (envF F f s.heap.objs.size)) (he _) (hi _) (hs _)
  refine wpAt_of_wpAny (wpAny_mono (ht.run [] s' _ _ _ J hq) (fun fl s'' h => ?_) fun e s' h => h)
  cases fl with
  | ret u => obtain ⟨v, σ, H', J, r1, q1⟩ := h; exact done J r1 q1
  | next => obtain ⟨σ, H', J, q1⟩ := h; exact done (v := .non) (u := .none) J rfl q1
  | brk => obtain ⟨_, _, _, z⟩ := h; exact z.elim
  | cont => obtain ⟨_, _, _, z⟩ := h; exact z.elim
end
end Iv
/-! A call of an exception's class with keywords. -/
namespace PySem
namespace Ivx
open Builtin Builtin.ObjectAttr HandSPX PyProof.Rows
/-- what is told of the class -/
structure Cl (h : Heap) (B newId initId : String) (bmB bm : List Value) (nm q : Str) (C N : Addr) (bs : List Value) (hdct : Bool) (sn : List Str) (sub : List Value) (ab : Bool) (col : Option Bool) (dd : Option Addr) (k0 k1 k2 k3 k5 : Option Value) : Prop where
  F : ExcBaseFacts B newId initId bmB
  T : ∀ X : String, bm.contains (.type X) = bmB.contains (.type X)
  at_ : h.get? C = some (excClassObj nm q C N bs bm hdct sn sub ab col dd k0 k1 k2 k3 k5 newId)
section
variable {h : Heap} {B newId initId : String} {bmB bm : List Value} {nm q : Str} {C N : Addr} {bs : List Value} {hdct : Bool} {sn : List Str} {sub : List Value} {ab : Bool} {col : Option Bool} {dd : Option Addr} {k0 k1 k2 k3 k5 : Option Value}
  {g : Array GenState} {d : Drawn} {t : Nat} {os : OsState} {E : Value → Shared → Prop} {pos : List Value} {kw : List (Str × Value)} {A : Around}
theorem Cl.has (c : Cl h B newId initId bmB bm nm q C N bs hdct sn sub ab col dd k0 k1 k2 k3 k5) : (Value.ref C :: bm).contains (.type B) = true := by rw [List.contains_cons, c.T, c.F.hasB, Bool.or_true]
theorem Cl.checkNew {M : Model} {Q : Unit → Shared → Prop} (c : Cl h B newId initId bmB bm nm q C N bs hdct sn sub ab col dd k0 k1 k2 k3 k5) (hq : Q () ⟨h, g, d, t, os⟩) :
    wpAny M A (checkBuiltinCall newId ⟨.ref C :: pos, kw⟩) Q E ⟨h, g, d, t, os⟩ := by
  have hcont := c.has; have hstar := c.F.noStar; have hC := c.at_
  simp only [checkBuiltinCall, c.F.newKind, c.F.newSplit, c.F.newRow]
  repeat (first | refine wpAny_loadPart_at hC ?_ | (refine wpAny_isSubtype_exc hC ?_; rw [hcont]) | refine wpAny_staticBase_exc hC ?_ | refine wpAny_madeBy_exc hC ?_ | (simp only [bne_self_eq_false, Bool.false_eq_true, if_false]) | wp_step)
  all_goals exact hq
theorem Cl.new {prog : Program} {w : World} {R : Result → Shared → Prop} (c : Cl h B newId initId bmB bm nm q C N bs hdct sn sub ab col dd k0 k1 k2 k3 k5) (hl : pos.length ≤ sizeLine)
    (hq : R (.ok (.ret (.ref (h.objs.size + 1)))) ⟨(h.push (W.kdv_tup pos)).push (excO C h.objs.size), g, d, t, os⟩) : codeAny (model prog w) A (.builtin newId ⟨.ref C :: pos, kw⟩) R ⟨h, g, d, t, os⟩ := by
  have e1 := c.F.ends; have e2 := c.has; have hC := c.at_
  have e3 : (Value.ref C :: bm).contains (.type "AttributeError") = false := (List.contains_cons).trans (by rw [c.T, c.F.noAttr]; rfl)
  have e4 : (Value.ref C :: bm).contains (.type "NameError") = false := (List.contains_cons).trans (by rw [c.T, c.F.noName]; rfl)
  refine codeAny_builtinAt c.F.entry ?_; unfold Builtin.«BaseException.__new__»; refine wpAt_bind ?_
  show wpAt _ _ _ (stack >>= _) _ _ _; refine wpAt_bind (wpAt_stack fun p below => wpAt_of_wpAny ?_); wp_walk
  refine wpAt_of_wpAny ?_; rw [c.F.owner]
  repeat (first | with_reducible refine wpAny_madeHere_exc c.F.canon hC ?_ | with_reducible refine wpAny_loadPart_at hC ?_ | (with_reducible refine wpAny_isSubtype_exc hC ?_; first | rw [e2] | rw [e3] | rw [e4]) | wp_step)
  show R _ _; rw [Heap.size_push]; exact hq
theorem Cl.type {prog : Program} {w : World} {fI : Addr} {Q : Fin → Shared → Prop} (c : Cl h B newId initId bmB bm nm q C N bs hdct sn sub ab col dd k0 k1 k2 k3 k5) (hl : pos.length ≤ sizeLine)
    (hi : W.Looks (model prog w) h (typeLookup (.ref C) "__init__") (some (.ref fI))) (hb : ∀ self, W.Looks (model prog w) h (bindSpecial (.ref fI) self) (.ref fI, [self]))
    (hq : codeAny (model prog w) A (.call (.ref fI) ⟨.ref (h.objs.size + 1) :: pos, kw⟩) (fun r s' => match r with
      | .ok (.ret v) => v = .none ∧ Q (.done (.ret (.ref (h.objs.size + 1)))) s'
      | .ok _ => False
      | .error e => E e s') ⟨(h.push (W.kdv_tup pos)).push (excO C h.objs.size), g, d, t, os⟩) : wpAny (model prog w) A (Builtin.«type.__call__» ⟨.ref C :: pos, kw⟩) Q E ⟨h, g, d, t, os⟩ := by
  have hC := c.at_
  repeat (first | with_reducible refine wpAny_loadPart_at hC ?_ | with_reducible refine wpAny_madeBy_exc hC ?_ | wp_step)
  refine codeAny_call_builtin_code (Code.quiet_builtin _ c.F.quiet) (c.checkNew (c.new hl ?_)); show wpAny _ _ _ _ _ _
  have k : ∀ b o, h.get? b = some o → ((h.push (W.kdv_tup pos)).push (excO C h.objs.size)).get? b = some o := fun b o z => Heap.get?_push_of_some _ (Heap.get?_push_of_some _ z)
  have e1 := k _ _ hC; have e2 : ((h.push (W.kdv_tup pos)).push (excO C h.objs.size)).get? (h.objs.size + 1) = some (excO C h.objs.size) := by heap_get
  have e3 : (Value.ref C :: bm).contains (.ref C) = true := by simp
  have e4 := hi.keeps k; have e5 := (hb (.ref (h.objs.size + 1))).keeps k; unfold isInstance
  repeat (first | with_reducible refine wpAny_loadPart_at e2 ?_ | (with_reducible refine wpAny_isSubtype_exc e1 ?_; rw [e3]) | wp_step)
  show wpAny _ _ (typeLookup (.ref C) _) _ _ _; refine e4.at ?_; refine wpAny_holding (wpAny_bind (e5.at ?_))
  refine wpAny_bind (wpAny_call (codeAny_mono hq fun r s' z => ?_)); rcases r with e | (v | _ | _ | _) <;> first | exact z | exact z.elim | skip
  obtain ⟨rfl, z⟩ := z; first | exact wpAny_pure (wpAny_pure z) | (wp_walk; exact z)
/-- C(..) of an own exception's class: the args, the object, then __init__ -/
theorem Cl.call {prog : Program} {w : World} {fI : Addr} {R : Result → Shared → Prop} (c : Cl h B newId initId bmB bm nm q C N bs hdct sn sub ab col dd k0 k1 k2 k3 k5) (hl : pos.length ≤ sizeLine)
    (hi : W.Looks (model prog w) h (typeLookup (.ref C) "__init__") (some (.ref fI))) (hb : ∀ self, W.Looks (model prog w) h (bindSpecial (.ref fI) self) (.ref fI, [self]))
    (hq : codeAny (model prog w) (A.under (.builtin "type.__call__" ⟨.ref C :: pos, kw⟩)) (.call (.ref fI) ⟨.ref (h.objs.size + 1) :: pos, kw⟩) (W.InitBack (h.objs.size + 1) R) ⟨(h.push (W.kdv_tup pos)).push (excO C h.objs.size), g, d, t, os⟩) :
    codeAny (model prog w) A (.call (.ref C) ⟨pos, kw⟩) R ⟨h, g, d, t, os⟩ := by
  have hC := c.at_; have e1 := tc_lookup; have e2 := tc_bind (.ref C); have e3 : (⟨h, g, d, t, os⟩ : Shared).TypeIs (.ref C) "type" := ⟨_, hC, rfl⟩
  refine codeAny_of_tree ?_; show wpAny _ _ (callAny (.ref C) _) _ _ _
  repeat (any_goals (first | assumption | with_reducible refine wpAny_loadPart_at hC ?_ | wp_step))
  refine ⟨rfl, ?_⟩
  refine codeAny_call_builtin_at (Code.quiet_builtin _ (by decide +kernel)) entry_typeCall (wpAny_check_type_call_sub hC (c.type hl hi hb ?_)); refine codeAny_mono hq fun r s' z => ?_
  rcases r with e | (v | _ | _ | _) <;> exact z
end
end Ivx
end PySem
/-! Exceptions as values: made, read. -/
namespace Iv
open PySem PySem.Spec PyProof.Rows L2 NdefX

section
variable {X : Cx} {pins : List (Addr × Obj)} {σ : L2.St} {H : Hp} {s : Shared}
/-- C(..), its __init__ a def with a promise: the new object stays -/
theorem run_exn {CX : CXT} {C fI : Addr} {k : Nat} {fd : FuncData} {ps : List Str} {sp : Sp} (T : OexC X.K C) (iC : PySem.W.findIn X.K (.ref C) "__init__" = some (some (.ref fI))) (tI : PySem.W.typeIn X.K (.ref fI) = some (.type "function"))
    (F1 : FnOk X.prog X.w X.K X.mg X.base CX k fI fd ps sp) (hr : Room (k + 1) X.A) (hx : Passes CX X (fun _ _ _ => False)) {us all : List Value} {kw : List (Str × Value)} {vs : List V} {Q : VK} (hl : us.length ≤ sizeLine)
    (hb : ∀ (s : Shared) (a : Addr), X.K.In s.heap → BindsTo s fd ⟨.ref a :: us, kw⟩ (ps.zip (.ref a :: all))) (I : Inv X pins σ H s) (rv : Vals vs all)
    (q : ∀ a, H a = none → sp (.ref a :: vs) (upd H a (exo a C none)) (fun v H2 => v = .non ∧ Q (.ref a) H2) (fun _ _ _ => False)) : wpAny (model X.prog X.w) X.A (call (.ref C) us kw) (EP X pins σ Q) X.xe s := by
  obtain ⟨nm, qn, N, bs, bm, sn, sub, ab, col, dd, k0, k1, k2, k3, k5, hC, hbm⟩ := T.cls
  obtain ⟨hp, g, dr, tk, os⟩ := s
  have cl : PySem.Ivx.Cl hp "ValueError" "ValueError.__new__" "ValueError.__init__" PySem.HandSPX.veTail bm nm qn C N bs true sn sub ab col dd k0 k1 k2 k3 k5 := ⟨PySem.F.excBase_ValueError, fun Y => PySem.HandSPX.refsVE_contains Y bm hbm, I.kIn _ _ hC⟩
  have hsz : hp.objs.size ≤ hp.objs.size + 1 := Nat.le_succ _
  have hn : H (hp.objs.size + 1) = none := I.hok.fresh hsz
  have hq := q _ hn
  have kk : ∀ b o, hp.get? b = some o → ((hp.push (PySem.W.kdv_tup us)).push (PySem.HandSPX.excO C hp.objs.size)).get? b = some o := fun b o e => Heap.get?_push_of_some _ (Heap.get?_push_of_some _ e)
  have hget : ((hp.push (PySem.W.kdv_tup us)).push (PySem.HandSPX.excO C hp.objs.size)).get? (hp.objs.size + 1) = some (PySem.HandSPX.excO C hp.objs.size) := by heap_get
  have I2 : Inv X pins σ (upd H (hp.objs.size + 1) (exo (hp.objs.size + 1) C none)) ⟨(hp.push (PySem.W.kdv_tup us)).push (PySem.HandSPX.excO C hp.objs.size), g, dr, tk, os⟩ := I.laid (t' := tk) kk hsz (exo_ok hget)
  refine wpAny_call (cl.call hl (PySem.W.looks_findIn I.kIn iC) (fun self => PySem.W.bind_fn I.kIn self tI) (codeAny_mono (F1.run _ X.stack _ _ ⟨.ref (hp.objs.size + 1) :: us, kw⟩ (.ref (hp.objs.size + 1) :: all) (.ref (hp.objs.size + 1) :: vs) (fun v H2 => v = .non ∧ Q (.ref (hp.objs.size + 1)) H2) (fun _ _ _ => False) (hr.make C us kw) (I2.env0.make C us kw) (hb _ _ I2.kIn) (.cons rfl rv) hq) fun r s' hq' => ?_))
  cases r with
  | error er => exact hx pins σ _ _ er s' I2 hq'
  | ok fl =>
    cases fl with
    | ret u =>
      obtain ⟨v, H2, os2, bare2, un2, hok2, rv2, ev, q2⟩ := hq'
      subst ev
      exact ⟨rv2, (⟨.ref (hp.objs.size + 1), H2, I2.call' (ch := []) os2 un2 hok2 bare2 (fun b z => absurd z (by simp)), rfl, q2⟩ : EP X pins σ Q (.ref (hp.objs.size + 1)) s')⟩
    | next => exact False.elim hq'
    | brk => exact False.elim hq'
    | cont => exact False.elim hq'
end
/-! ### the promise of an exception's __init__: fs the fields, the last one stored first, each with its argument's place -/
def fldV (fs : List (Str × Nat)) (ws : List V) : List (Str × V) := fs.map fun f => (f.1, ws.getD f.2 .non)
def exSp (K : PySem.W.Frag) (D : Addr) (n : Nat) (fs : List (Str × Nat)) : Sp := fun vs H Q _ => ∃ (x C : Addr) (ws : List V), vs = .ref x :: ws ∧ ws.length = n ∧ SupE K D C ∧ (∀ f ∈ fs, PySem.W.findIn K (.ref C) f.1 = some none) ∧ H x = some (exo x C none) ∧
  (fs = [] → Q .non H) ∧ (fs ≠ [] → ∀ dx, H dx = none → dx ≠ x → Q .non (upd (upd H dx (exd dx (fldV fs ws))) x (exo x C (some dx))))
def exnV (c : Nat) (fs : List (Str × Nat)) (ds : List D) : D := .ins c (fs.map (·.1)) (fs.map fun f => ds.getD f.2 .non)
section
variable {G : Gd} {r : List Addr} {H : Hp} {M : List D}
theorem Reps.getD {vs : List V} {ds : List D} (h : Reps G r H vs ds) (i : Nat) : Rep G r H (vs.getD i .non) (ds.getD i .non) := by
  rw [List.getD_eq_getElem?_getD, List.getD_eq_getElem?_getD]
  cases e : ds[i]? with
  | none =>
    have e2 : vs[i]? = none := by
      rw [List.getElem?_eq_none_iff] at e ⊢
      rw [h.length]
      exact e
    rw [e2]
    exact .non
  | some d =>
    obtain ⟨v, e2, hv⟩ := h.get e
    rw [e2]
    exact hv
theorem fld_reps {vs : List V} {ds : List D} (h : Reps G r H vs ds) : ∀ fs : List (Str × Nat), Reps G r H ((fldV fs vs).map (·.2)) (fs.map fun f => ds.getD f.2 .non)
  | [] => .nil
  | f :: fs => .cons (h.getD f.2) (fld_reps h fs)
theorem fld_names (ws : List V) : ∀ fs : List (Str × Nat), (fldV fs ws).map (·.1) = fs.map (·.1)
  | [] => rfl
  | f :: fs => congrArg (fun z => f.1 :: z) (fld_names ws fs)
/-- the new exception stands for its data -/
theorem exn_post {c n : Nat} {fs : List (Str × Nat)} {vs : List V} {ds : List D} {Q : VK} {D : Addr} (hc : isEx c = true) (SEc : SupE G.K D (G.cls c)) (no : ∀ f ∈ fs, PySem.W.findIn G.K (.ref (G.cls c)) f.1 = some none) (S : StOk G r M H) (Rs : Reps G r H vs ds) (hn : vs.length = n)
    (p : ∀ r' H', Le r H r' H' → StOk G r' M H' → ∀ v, Rep G r' H' v (exnV c fs ds) → Q v H') (a : Addr) (ha : H a = none) : exSp G.K D n fs (.ref a :: vs) (upd H a (exo a (G.cls c) none)) (fun v H2 => v = .non ∧ Q (.ref a) H2) (fun _ _ _ => False) := by
  refine ⟨a, G.cls c, vs, rfl, hn, SEc, no, upd_same, fun e => ⟨rfl, ?_⟩, fun ne dx hd hne => ⟨rfl, ?_⟩⟩
  · subst e
    obtain ⟨L, S'⟩ := S.new (o := exo a (G.cls c) none) ha
    exact p r _ L S' _ (.exn0 hc (off_new (S.fresh ha)))
  · rw [upd_ne hne] at hd
    have eH : upd (upd (upd H a (exo a (G.cls c) none)) dx (exd dx (fldV fs vs))) a (exo a (G.cls c) (some dx)) = upd (upd H dx (exd dx (fldV fs vs))) a (exo a (G.cls c) (some dx)) := by
      funext b
      by_cases h1 : b = a
      · subst h1
        rw [upd_same, upd_same]
      · rw [upd_ne h1, upd_ne h1]
        by_cases h2 : b = dx
        · subst h2
          rw [upd_same, upd_same]
        · rw [upd_ne h2, upd_ne h2, upd_ne h1]
    rw [eH]
    obtain ⟨L1, S1⟩ := S.new (o := exd dx (fldV fs vs)) hd
    have ha1 : upd H dx (exd dx (fldV fs vs)) a = none := by rw [upd_ne (Ne.symm hne)]; exact ha
    obtain ⟨L2, S2⟩ := S1.new (o := exo a (G.cls c) (some dx)) ha1
    have Rf := ((fld_reps Rs fs).le L1).le L2
    have f1 := S.fresh hd
    have R := Rep.exn (G := G) (r := r) (H := upd (upd H dx (exd dx (fldV fs vs))) a (exo a (G.cls c) (some dx))) hc (off_new (S1.fresh ha1)) (off_some.mpr ⟨f1, by rw [upd_ne hne, upd_same]⟩) Rf
    rw [fld_names] at R
    exact p r _ (L1.trans L2) S2 _ R
end
/-- X(e, ..) -/
def dExn (c n : Nat) (fs : List (Str × Nat)) (m : DA) : DE := fun δ => bnd (m δ) fun ds => if ds.length = n then ret (exnV c fs ds) else stuck
/-- what is known of an exception's class and its __init__ -/
structure ExC (G : Gd) (X : Cx) (c n : Nat) (fs : List (Str × Nat)) (ps : List Str) (fd : FuncData) : Prop where
  ex : isEx c = true
  T : OexC G.K (G.cls c)
  f : ∃ D fI, PySem.W.findIn G.K (.ref (G.cls c)) "__init__" = some (some (.ref fI)) ∧ PySem.W.typeIn G.K (.ref fI) = some (.type "function") ∧ SupE G.K D (G.cls c) ∧ FnOk X.prog X.w G.K X.mg X.base (L2.CX X.prog X.w) 1 fI fd ps (exSp G.K D n fs)
  no : ∀ f ∈ fs, PySem.W.findIn G.K (.ref (G.cls c)) f.1 = some none
section
variable {G : Gd} {X : Cx}
theorem SE.exn {c n : Nat} {fs : List (Str × Nat)} {ps : List Str} {fd : FuncData} (h : ExC G X c n fs ps fd) (hK : G.K = X.K) (hr : Room 2 X.A) {x : Str} {p pos : Pos} {e : Expr} {es : List Expr} {m : DA} (hg : Gl X x) (hm : X.mg x = some (.ref (G.cls c)))
    (hb : Binds G.K fd ps []) (hn : ps.length = n + 1) (hn2 : n ≤ sizeLine) (ha : SA G X (e :: es) m) (hdb : (x == ("__debug__" : Str)) = false)
    (he : starEach (e :: es) X.env = (false, eval e X.env) :: starEach es X.env) (hpl : (backTo pos (starEach es X.env)).any (·.1) = false) (px : Passes (L2.CX X.prog X.w) X (fun _ _ _ => False)) : SE G X (.Call (.Name x p) (e :: es) [] pos) (dExn c n fs m) := by
  obtain ⟨Dc, fI, iC, tI, SEc, F1⟩ := h.f
  refine ⟨?_⟩
  intro W tk δ M σ r H Q S E q pins s I
  refine wpAny_Call_Name_kw (ld_glob I hg hm ?_ hdb)
  have hA : WA X (e :: es) σ H fun vs H1 => ∀ (pins : List (Addr × Obj)) (s : Shared) (us : List Value), Inv X pins σ H1 s → Vals vs us → wpAny (model X.prog X.w) X.A (PySem.call (.ref (G.cls c)) us) (EP X pins σ Q) X.xe s := by
    refine ha.ru W tk δ M σ r H _ S E (q.bnd.imp ?_)
    intro ds M1 r1 H1 L1 S1 h1 vs Rs pins s us I1 ru
    by_cases cn : ds.length = n
    · rw [if_pos cn] at h1
      have hl : vs.length = n := by rw [Rs.length]; exact cn
      have F1' : FnOk X.prog X.w X.K X.mg X.base (L2.CX X.prog X.w) 1 fI fd ps (exSp G.K Dc n fs) := hK ▸ F1
      refine run_exn (hK ▸ h.T) (hK ▸ iC) (hK ▸ tI) F1' hr px (by rw [← ru.length, hl]; exact hn2) (all := us) (fun s a kin => ?_) I1 ru ?_
      · have z := hb s (.ref a :: us) (hK ▸ kin) (by rw [List.append_nil, List.length_cons, ← ru.length, hl, hn])
        rw [List.append_nil] at z
        exact z
      · exact fun a ha => exn_post h.ex SEc h.no S1 Rs hl (fun r' H' l S' v R => h1 r' H' l S' v R) a ha
    · rw [if_neg cn] at h1
      exact h1.elim
  exact PySem.W.callWith_K (h₀ := X.base) I.ok.mod.kin (hK ▸ h.T.kC) (thn (hA pos pins s I) fun us s1 ⟨vs, H1, I1, r1, h⟩ => ⟨I1.kIn, h pins s1 us I1 r1⟩) he hpl
end
end Iv
/-! Exceptions made by keywords, without arguments; attributes. -/
namespace Iv
open PySem PySem.Spec PyProof.Rows L2 NdefX

/-- the arguments by their places among the keywords -/
def perD (pi : List Nat) (ds : List D) : List D := pi.map fun i => ds.getD i .non
def dExnK (c n : Nat) (fs : List (Str × Nat)) (pi : List Nat) (m : DA) : DE := fun δ => bnd (m δ) fun ds => if ds.length = pi.length ∧ pi.length = n then ret (exnV c fs (perD pi ds)) else stuck
section
variable {G : Gd} {X : Cx}
theorem per_reps {r : List Addr} {H : Hp} {vs : List V} {ds : List D} (h : Reps G r H vs ds) : ∀ pi : List Nat, Reps G r H (pi.map fun i => vs.getD i .non) (perD pi ds)
  | [] => .nil
  | i :: pi => .cons (h.getD i) (per_reps h pi)
theorem vals_getD : ∀ {vs : List V} {us : List Value}, Vals vs us → ∀ i, RelV (vs.getD i .non) (us.getD i .none)
  | _, _, .nil, i => rfl
  | _, _, .cons h _, 0 => h
  | _, _, .cons _ hs, i + 1 => by
    have z := vals_getD hs i
    simpa using z
theorem per_vals {vs : List V} {us : List Value} (h : Vals vs us) : ∀ pi : List Nat, Vals (pi.map fun i => vs.getD i .non) (pi.map fun i => us.getD i .none)
  | [] => .nil
  | i :: pi => .cons (vals_getD h i) (per_vals h pi)
/-- X(k = e, ..) -/
theorem SE.exnK {c n : Nat} {fs : List (Str × Nat)} {ps ks : List Str} {pi : List Nat} {fd : FuncData} (h : ExC G X c n fs ps fd) (hK : G.K = X.K) (hr : Room 2 X.A) {x : Str} {p pos : Pos} {kws : List Keyword} {mk : DA} (hg : Gl X x) (hm : X.mg x = some (.ref (G.cls c)))
    (hb : ∀ (s : Shared) (a : Value) (us : List Value), us.length = pi.length → BindsTo s fd ⟨[a], ks.zip us⟩ (ps.zip (a :: pi.map fun i => us.getD i .none)))
    (hkw : SK G X kws mk) (hall : (backToKw pos (keywordEach kws X.env)).all (·.1.isSome) = true) (hks : (backToKw pos (keywordEach kws X.env)).filterMap (·.1) = ks) (hdb : (x == ("__debug__" : Str)) = false)
    (hpl : ((backTo pos (starEach [] X.env)).any (·.1) || (backToKw pos (keywordEach kws X.env)).any (·.1.isNone)) = false) (px : Passes (L2.CX X.prog X.w) X (fun _ _ _ => False)) : SE G X (.Call (.Name x p) [] kws pos) (dExnK c n fs pi mk) := by
  obtain ⟨Dc, fI, iC, tI, SEc, F1⟩ := h.f
  refine ⟨?_⟩
  intro W tk δ M σ r H Q S E q pins s I
  refine wpAny_Call_Name_kw (ld_glob I hg hm ?_ hdb)
  have hA : WK X kws σ H fun zs H1 => ∀ (pins : List (Addr × Obj)) (s : Shared) (ws : List Value), Inv X pins σ H1 s → Vals zs ws → wpAny (model X.prog X.w) X.A (PySem.call (.ref (G.cls c)) [] (ks.zip ws)) (EP X pins σ Q) X.xe s := by
    refine hkw.ru W tk δ M σ r H _ S E ((show Post G W σ (JE G Q) r H (bnd (mk δ) (fun ds => if ds.length = pi.length ∧ pi.length = n then ret (exnV c fs (perD pi ds)) else stuck) M) from q).bnd.imp ?_)
    intro ds M1 r1 H1 L1 S1 h1 zs Rz pins s ws I1 rz
    by_cases cn : ds.length = pi.length ∧ pi.length = n
    · rw [if_pos cn] at h1
      have F1' : FnOk X.prog X.w X.K X.mg X.base (L2.CX X.prog X.w) 1 fI fd ps (exSp G.K Dc n fs) := hK ▸ F1
      refine run_exn (us := []) (hK ▸ h.T) (hK ▸ iC) (hK ▸ tI) F1' hr px (Nat.zero_le _) (all := pi.map fun i => ws.getD i .none) (fun s a kin => hb s (.ref a) ws ?_) I1 (per_vals rz pi) ?_
      · rw [← rz.length, Rz.length]; exact cn.1
      · exact fun a ha => exn_post h.ex SEc h.no S1 (per_reps Rz pi) (by rw [List.length_map]; exact cn.2) (fun r' H' l S' v R => h1 r' H' l S' v R) a ha
    · rw [if_neg cn] at h1
      exact h1.elim
  refine PySem.W.callWith_KW0 (h₀ := X.base) I.ok.mod.kin (hK ▸ h.T.kC) hall ?_ hpl
  obtain ⟨t, ht, hA⟩ := hA
  refine thn (ht.run pos pins s σ H _ I hA) fun ws s1 ⟨zs, H1, I1, r1, h⟩ => ⟨I1.kIn, ?_⟩
  rw [hks]
  exact h pins s1 ws I1 r1
/-- X() -/
theorem SE.exn0 {c : Nat} {ps : List Str} {fd : FuncData} (h : ExC G X c 0 [] ps fd) (hK : G.K = X.K) (hr : Room 2 X.A) {x : Str} {p pos : Pos} (hg : Gl X x) (hm : X.mg x = some (.ref (G.cls c)))
    (hb : Binds G.K fd ps []) (hn : ps.length = 1) (hdb : (x == ("__debug__" : Str)) = false) (px : Passes (L2.CX X.prog X.w) X (fun _ _ _ => False)) : SE G X (.Call (.Name x p) [] [] pos) (dLit (.ins c [] [])) := by
  obtain ⟨Dc, fI, iC, tI, SEc, F1⟩ := h.f
  refine ⟨?_⟩
  intro W tk δ M σ r H Q S E q pins s I
  refine wpAny_Call_Name_kw (ld_glob I hg hm ?_ hdb)
  refine PySem.W.callWith_K0 I.kIn (hK ▸ h.T.kC) ?_
  have F1' : FnOk X.prog X.w X.K X.mg X.base (L2.CX X.prog X.w) 1 fI fd ps (exSp G.K Dc 0 []) := hK ▸ F1
  refine run_exn (us := []) (kw := []) (vs := []) (hK ▸ h.T) (hK ▸ iC) (hK ▸ tI) F1' hr px (Nat.zero_le _) (all := []) (fun s a kin => ?_) I .nil ?_
  · have z := hb s [.ref a] (hK ▸ kin) (by rw [List.append_nil, hn]; rfl)
    exact z
  · exact fun a ha => exn_post (ds := []) h.ex SEc h.no S .nil rfl (fun r' H' l S' v R => q r' H' l S' v R) a ha
/-- X() of a class without an own __init__ -/
theorem SE.exnB {c : Nat} (hx : isEx c = true) (kC : PySem.W.keepIn X.K (.ref (G.cls c)) = true) (qe : PySem.W.excIn X.K (G.cls c) He.veBase "ValueError.__new__" = true) {x : Str} {p pos : Pos} (hg : Gl X x) (hm : X.mg x = some (.ref (G.cls c))) (hdb : (x == ("__debug__" : Str)) = false) :
    SE G X (.Call (.Name x p) [] [] pos) (dLit (.ins c [] [])) := by
  refine ⟨?_⟩
  intro W tk δ M σ r H Q S E q pins s I
  refine wpAny_Call_Name_kw (ld_glob I hg hm ?_ hdb)
  refine PySem.W.callWith_K0 I.kIn kC ?_
  obtain ⟨bm, N, nm, qn, bs, hdct, sn, sub, ab, col, dd, k0, k1, k2, k3, k5, mN, hC, hN, hni, T⟩ := exc_obj I.kIn qe
  refine wpAny_call_exc_subT PySem.F.excBase_ValueError T hC hN hni (fun h' a hm => ?_) (Nat.zero_le _)
  have hn : H a = none := I.hok.gone hm.new
  obtain ⟨t, ht, _, _⟩ := hm.there
  obtain ⟨L, S'⟩ := S.new (o := exo a (G.cls c) none) hn
  exact ⟨.ref a, _, I.laidN hm.keeps hm.new hn (exo_ok ht), rfl, q r _ L S' _ (.exn0 hx (off_new (S.fresh hn)))⟩
end
/-! ### attributes -/
def lkD : List Str → List D → Str → Option D
  | n :: ns, d :: ds, f => if f == n then some d else lkD ns ds f
  | _, _, _ => none
def fldM (kf : Nat → Str → Bool) (M : List D) (x : D) (f : Str) : Option D := match valD M x with
  | .ins c ns vs => if kf c f then lkD ns vs f else none
  | _ => none
def dFld (kf : Nat → Str → Bool) (f : Str) (a : DE) : DE := fun δ => bnd (a δ) fun x M => optE (fldM kf M x f) M
/-- whose attributes may be read -/
structure KfOk (G : Gd) (kf : Nat → Str → Bool) : Prop where
  ins : ∀ c f, kf c f = true → isEx c = false → Cls G.K (G.cls c) ∧ NoAttr G.K (G.cls c) f
  exn : ∀ c f, kf c f = true → isEx c = true → XfC G.K (G.cls c) ∧ PySem.W.findIn G.K (.ref (G.cls c)) f = some none
theorem lk_rep {G : Gd} {r : List Addr} {H : Hp} {f : Str} {d : D} : ∀ {fs : List (Str × V)} {ds : List D}, Reps G r H (fs.map (·.2)) ds → lkD (fs.map (·.1)) ds f = some d → ∃ v, fs.lookup f = some v ∧ Rep G r H v d
  | [], _, _, e => by cases e
  | (n, v) :: fs, _, .cons h hs, e => by
    unfold lkD at e
    show ∃ u, (match f == n with | true => some v | false => fs.lookup f) = some u ∧ _
    cases q : (f == n) with
    | true =>
      rw [List.map_cons] at e
      simp only [q, if_true] at e
      cases e
      exact ⟨v, rfl, h⟩
    | false =>
      rw [List.map_cons] at e
      simp only [q, Bool.false_eq_true, if_false] at e
      exact lk_rep hs e
theorem SE.fld {G : Gd} {X : Cx} {kf : Nat → Str → Bool} (k : KfOk G kf) (hK : G.K = X.K) {e : Expr} {f : Str} {pos : Pos} {m : DE} (he : SE G X e m) (hb : attributeBase e f X.env (eval e X.env) = eval e X.env) : SE G X (.Attribute e f pos) (dFld kf f m) := by
  refine ⟨?_⟩
  intro W tk δ M σ r H Q S E p pins s I
  have hA : WE X e σ H fun x H1 => ∀ (pins : List (Addr × Obj)) (s : Shared) (u : Value), Inv X pins σ H1 s → RelV x u → wpAny (model X.prog X.w) X.A (getAttr u f true) (EP X pins σ Q) X.xe s := by
    refine he.ru W tk δ M σ r H _ S E (p.bnd.imp ?_)
    intro d M1 r1 H1 L1 S1 h1 v Rv pins s u I1 ru
    have ofI : ∀ {a dx : Addr} {c : Nat} {fs : List (Str × V)} {vs : List D}, v = .ref a → H1 a = some (.ins (G.cls c) dx fs) → isEx c = false → Reps G r1 H1 (fs.map (·.2)) vs → Post G W σ (JE G Q) r1 H1 (optE (if kf c f then lkD (fs.map (·.1)) vs f else none) M1) → wpAny (model X.prog X.w) X.A (getAttr u f true) (EP X pins σ Q) X.xe s := by
      intro a dx c fs vs ev ha hx hs h1
      subst ev
      cases ru
      by_cases o : kf c f = true
      · rw [if_pos o] at h1
        cases el : lkD (fs.map (·.1)) vs f with
        | none => rw [el] at h1; exact h1.elim
        | some z =>
          rw [el] at h1
          obtain ⟨w, l, R⟩ := lk_rep hs el
          obtain ⟨c1, c2⟩ := k.ins c f o hx
          exact getattr_ok I1 ha (hK ▸ c1) (hK ▸ c2) l fun u' s2 I2 ru2 => ⟨w, H1, I2, ru2, h1 r1 H1 S1.le S1 w R⟩
      · rw [if_neg o] at h1; exact h1.elim
    cases Rv with
    | ins hx h2 hs => exact ofI rfl (off_some.mp h2).2 hx hs h1
    | @exn a c dx fs vs hx h2 h3 hs =>
      cases ru
      have h1' : Post G W σ (JE G Q) r1 H1 (optE (if kf c f then lkD (fs.map (·.1)) vs f else none) M1) := h1
      by_cases o : kf c f = true
      · rw [if_pos o] at h1'
        cases el : lkD (fs.map (·.1)) vs f with
        | none => rw [el] at h1'; exact h1'.elim
        | some z =>
          rw [el] at h1'
          obtain ⟨w, l, R⟩ := lk_rep hs el
          obtain ⟨T, no⟩ := k.exn c f o hx
          rw [hK] at T no
          obtain ⟨t1, ho⟩ := exo_at I1.hok (off_some.mp h2).2
          obtain ⟨mA, hns, hr⟩ := exd_at I1.hok (off_some.mp h3).2
          obtain ⟨od, hd, hl⟩ := lookIn_ns hns
          obtain ⟨u, hu, ru2⟩ := RelO.some_of (v := w) (o := mA f) (by rw [← l]; exact hr f)
          have J : PySem.W.InstAt s.heap a _ (G.cls c) (some od) := ⟨ho, rfl, rfl, hd⟩
          exact PySem.HandSPX.exc_get I1.kIn J T.ga T.gg T.exC (PySem.W.findObj_own T.hdC no rfl (by rw [hl, hu])) (handed_of ru2) ⟨w, H1, I1.tok _, ru2, h1' r1 H1 S1.le S1 w R⟩
      · rw [if_neg o] at h1'; exact h1'.elim
    | @exn0 a c hx h2 =>
      have h1' : Post G W σ (JE G Q) r1 H1 (optE (if kf c f then none else none) M1) := h1
      rw [ite_self] at h1'
      exact h1'.elim
    | cell hn =>
      rename_i a n
      cases em : M1[n]? with
      | none => simp only [fldM, valD, em] at h1; exact h1.elim
      | some o =>
        cases o with
        | ins c ns vs =>
          simp only [fldM, valD, em] at h1
          obtain ⟨dx, fs, q1, rfl, q2, q3⟩ := S1.at_ _ _ _ hn em
          exact ofI rfl q1 q3 q2 h1
        | _ => simp only [fldM, valD, em] at h1; exact h1.elim
    | _ => exact h1.elim
  exact attr_of hb (thn (hA pins s I) fun u s1 ⟨x, H1, I1, rx, q⟩ => q pins s1 u I1 rx)
end Iv
/-! repr of any plain data, dicts too; dict displays. -/
namespace Iv
open PySem PySem.Spec PyProof.Rows L2

mutual
def pyV : D → Option PyData
  | .non => some .none
  | .bl b => some (.bool b)
  | .int i => some (.int i)
  | .str x => some (.str x)
  | .lst xs => (pyVs xs).map .list
  | .tup xs => (pyVs xs).map .tuple
  | .dct ks vs => match pyVs ks, pyVs vs with
    | some a, some b => if a.length = b.length then some (.dict (a.zip b)) else none
    | _, _ => none
  | _ => none
def pyVs : List D → Option (List PyData)
  | [] => some []
  | d :: ds => match pyV d, pyVs ds with
    | some x, some xs => some (x :: xs)
    | _, _ => none
end
section
variable {X : Cx} {G : Gd} {pins : List (Addr × Obj)} {σ : L2.St} {H : Hp} {s : Shared} {r : List Addr}
theorem keys_read {prog : Program} {w : World} {h : Heap} : ∀ {es : List DictEntry} {kvs : List (Key × Value)} {a : List PyData}, Pairs (mixKind prog w) es kvs → pyVs (kvs.map fun p => kD p.1) = some a → ReadsAll h (es.map (·.key)) a []
  | _, _, _, .nil, e => by cases e; exact .nil
  | _, _, _, .cons (kv := kv) (kvs := kvs) h1 _ hs, e => by
    have h1' : keyIs kv.1 _ = true := h1
    rw [List.map_cons] at e
    unfold pyVs at e
    cases e2 : pyVs (kvs.map fun p => kD p.1) with
    | none => rw [e2] at e; cases q : pyV (kD kv.1) <;> (rw [q] at e; cases e)
    | some a =>
      rcases keyIs_shape h1' with ⟨i, t, k1, k2⟩ | ⟨x, t, k1, k2⟩
      · rw [k1, e2] at e
        cases e
        rw [List.map_cons, k2]
        exact .cons (as := []) (.int i t) (keys_read hs e2)
      · rw [k1, e2] at e
        cases e
        rw [List.map_cons, k2]
        exact .cons (as := []) (.str x t) (keys_read hs e2)
theorem pairs_vals {prog : Program} {w : World} : ∀ {es : List DictEntry} {kvs : List (Key × Value)}, Pairs (mixKind prog w) es kvs → es.map (·.val) = kvs.map (·.2)
  | _, _, .nil => rfl
  | _, _, .cons _ e hs => by rw [List.map_cons, List.map_cons, e, pairs_vals hs]
theorem kv_keys : ∀ {a : List (Key × V)} {b : List (Key × Value)}, KV a b → a.map (·.1) = b.map (·.1)
  | _, _, .nil => rfl
  | _, _, .cons h hs => by rw [List.map_cons, List.map_cons, h.1, kv_keys hs]
theorem kv_vals : ∀ {a : List (Key × V)} {b : List (Key × Value)}, KV a b → Vals (a.map (·.2)) (b.map (·.2))
  | _, _, .nil => .nil
  | _, _, .cons h hs => .cons h.2 (kv_vals hs)
mutual
theorem reads_ofV (hK : G.K = X.K) (I : Inv X pins σ H s) : ∀ {v : V} {d : D} {u : Value} {y : PyData}, Rep G r H v d → RelV v u → pyV d = some y → ∃ as, Reads s.heap u y as ∧ ∀ b ∈ as, H b ≠ none
  | _, _, _, _, .non, rv, e => by cases rv; cases e; exact ⟨_, .none, fun _ z => nomatch z⟩
  | _, _, _, _, .bl, rv, e => by cases rv; cases e; exact ⟨_, .bool _, fun _ z => nomatch z⟩
  | _, _, _, _, .int, rv, e => by obtain ⟨t, rfl⟩ := rv; cases e; exact ⟨_, .int _ _, fun _ z => nomatch z⟩
  | _, _, _, _, .str, rv, e => by obtain ⟨t, rfl⟩ := rv; cases e; exact ⟨_, .str _ _, fun _ z => nomatch z⟩
  | _, _, _, _, .lst h hs, rv, e => by
    cases rv
    obtain ⟨ys, e1, rfl⟩ := Option.map_eq_some_iff.mp e
    have ha := (off_some.mp h).2
    obtain ⟨z, its, n, r1, q⟩ := I.hok _ _ ha
    obtain ⟨as, ra, m⟩ := readss_ofV hK I hs r1 e1
    refine ⟨_, .list q rfl rfl (by simpa using ra), fun b hb => ?_⟩
    rcases List.mem_cons.mp hb with rfl | hb
    · rw [ha]; exact fun z => nomatch z
    · exact m b hb
  | _, _, _, _, .tup h hs, rv, e => by
    cases rv
    obtain ⟨ys, e1, rfl⟩ := Option.map_eq_some_iff.mp e
    obtain ⟨its, r1, ⟨o, q1, q2, n, q3⟩, z⟩ := I.tuple (hK ▸ sqT_off h)
    obtain ⟨as, ra, m⟩ := readss_ofV hK I hs r1 e1
    exact ⟨_, .tuple q1 q2 q3 (by simpa using ra), m⟩
  | _, _, _, _, .dct (a := a) (kvs := kvs) (vs := ds) h hs, rv, e => by
    cases rv
    have ha : H a ≠ none := by
      rcases rd_off h with e | ⟨ob, e⟩ <;> (rw [e]; exact fun z => nomatch z)
    obtain ⟨_, _, vs, kv, o, es, ep, q1, q2, q3, _, q4, _⟩ := (show ObjOk X.prog X.w H s.heap a (.dK kvs) from (rd_off h).ok I.hok)
    unfold pyV at e
    cases e1 : pyVs (kvs.map fun p => kD p.1) with
    | none => rw [e1] at e; cases e
    | some ks =>
      cases e2 : pyVs ds with
      | none => rw [e1, e2] at e; cases e
      | some ys =>
        rw [e1, e2] at e
        dsimp only at e
        by_cases c : ks.length = ys.length
        · rw [if_pos c] at e
          cases e
          have ek : (kvs.map fun p => kD p.1) = vs.map fun p => kD p.1 := by
            have z := congrArg (List.map kD) (kv_keys kv)
            rw [List.map_map, List.map_map] at z
            exact z
          rw [ek] at e1
          have rk := keys_read (h := s.heap) q4 e1
          obtain ⟨bs, rb, m⟩ := readss_ofV hK I hs (kv_vals kv) e2
          rw [← pairs_vals q4] at rb
          refine ⟨_, .dict (kvs := ks.zip ys) (as := []) q1 q2.1 q3 (by rw [List.map_fst_zip (by omega)]; exact rk) (by rw [List.map_snd_zip (by omega)]; exact rb), fun b hb => ?_⟩
          rcases List.mem_append.mp hb with hb | hb
          · rw [List.mem_singleton.mp hb]; exact ha
          · exact m b hb
        · rw [if_neg c] at e; cases e
  | _, _, _, _, .scr _ _, _, e => by cases e
  | _, _, _, _, .ins _ _ _, _, e => by cases e
  | _, _, _, _, .exn _ _ _ _, _, e => by cases e
  | _, _, _, _, .exn0 _ _, _, e => by cases e
  | _, _, _, _, .cell _, _, e => by cases e
  | _, _, _, _, .fn, _, e => by cases e
  | _, _, _, _, .cls, _, e => by cases e
  | _, _, _, _, .ty, _, e => by cases e
theorem readss_ofV (hK : G.K = X.K) (I : Inv X pins σ H s) : ∀ {vs : List V} {ds : List D} {us : List Value} {ys : List PyData}, Reps G r H vs ds → Vals vs us → pyVs ds = some ys → ∃ as, ReadsAll s.heap us ys as ∧ ∀ b ∈ as, H b ≠ none
  | _, _, _, _, .nil, .nil, e => by cases e; exact ⟨_, .nil, fun _ z => nomatch z⟩
  | _, _, _, _, .cons (d := d) (ds := ds) h hs, .cons q qs, e => by
    unfold pyVs at e
    cases e1 : pyV d with
    | none => rw [e1] at e; cases e
    | some y =>
      cases e2 : pyVs ds with
      | none => rw [e1, e2] at e; cases e
      | some ys =>
        rw [e1, e2] at e
        cases e
        obtain ⟨as, a1, m1⟩ := reads_ofV hK I h q e1
        obtain ⟨bs, b1, m2⟩ := readss_ofV hK I hs qs e2
        exact ⟨_, .cons a1 b1, fun b hb => (List.mem_append.mp hb).elim (m1 b) (m2 b)⟩
end
end
/-- repr -/
def shownV (u : Nat) (d : D) : Option D := match pyV d with
  | some y => if y.showable = true ∧ y.depth ≤ u ∧ y.shown.length ≤ sizeLine then some (.str y.shown) else none
  | none => none
def reprV (u : Nat) (d : D) : Option D := match d with
  | .non => some (.str "None")
  | .bl b => some (.str (if b then "True" else "False"))
  | .int i => if i.natAbs.log2 < 1920 then some (.str (toString i)) else none
  | .str x => if (reprText x).length ≤ sizeLine then some (.str (reprText x)) else none
  | d => shownV u d
theorem CaS.reprV {X : Cx} {G : Gd} (hK : G.K = X.K) (hgd : X.A.guards = some []) {n : Nat} (hu : X.A.units + (n + 1) < cLine) (hsm : (X.K.lookup sysModules).isSome = true) : CaS G X (.builtin "repr") (oneO (reprV n)) := CaS.one fun r H x d z Q h e k => by
  intro pins s σ us I rx
  cases rx with
  | cons rv rs =>
    cases rs
    rename_i u
    have one : ∀ {a : Addr}, x = .ref a → shownV n d = some z → wpAny (model X.prog X.w) X.A (call (.builtin "repr") [u]) (EP X pins σ Q) X.xe s := by
      intro a ex e
      unfold shownV at e
      cases ey : pyV d with
      | none => rw [ey] at e; cases e
      | some y =>
        rw [ey] at e
        dsimp only at e
        by_cases c : y.showable = true ∧ y.depth ≤ n ∧ y.shown.length ≤ sizeLine
        · rw [if_pos c] at e
          cases e
          obtain ⟨as, ra, m⟩ := reads_ofV hK I h rv ey
          subst ex
          cases rv
          refine repr_of_reads' ra c.1 (fun _ hm => ?_) hgd (by have := c.2.1; omega) (fun b o q => q) (fun h' u tk kp => ⟨.str y.shown, H, I.kept kp, ⟨_, rfl⟩, k _ .str⟩) c.2.2
          obtain ⟨o, ho⟩ := Option.isSome_iff_exists.mp hsm
          exact m _ hm (I.bs _ _ (I.ok.mod.kin _ _ ho)).2
        · rw [if_neg c] at e; cases e
    cases h with
    | non => cases e; cases rv; exact PySem.P.repr_of_none ⟨.str "None", H, I.tok _, ⟨_, rfl⟩, k _ .str⟩
    | bl => cases e; cases rv; exact PySem.P.repr_of_bool ⟨.str _, H, I.tok _, ⟨_, rfl⟩, k _ .str⟩
    | int =>
      rename_i i
      obtain ⟨t, rfl⟩ := rv
      have e' : (if i.natAbs.log2 < 1920 then some (D.str (toString i)) else none) = some z := e
      by_cases c : i.natAbs.log2 < 1920
      · rw [if_pos c] at e'; cases e'; exact PySem.P.repr_of_int c ⟨.str _, H, I.tok _, ⟨_, rfl⟩, k _ .str⟩
      · rw [if_neg c] at e'; cases e'
    | str =>
      rename_i y
      obtain ⟨t, rfl⟩ := rv
      have e' : (if (reprText y).length ≤ sizeLine then some (D.str (reprText y)) else none) = some z := e
      by_cases c : (reprText y).length ≤ sizeLine
      · rw [if_pos c] at e'; cases e'; exact PySem.P.repr_of_str ⟨.str _, H, I.tok _, ⟨_, rfl⟩, k _ .str⟩ c
      · rw [if_neg c] at e'; cases e'
    | lst => exact one rfl e
    | tup => exact one rfl e
    | dct => exact one rfl e
    | _ => cases e
end Iv
/-! A head's Hook with methods that say super(), exceptions' classes. -/
namespace Iv
open PySem PySem.Spec PyProof.Rows L2 NdefX

/-- what is reached from the module's names, and two objects of the machine's own -/
def asX (g : Addr → Option Obj) (n : Nat) : List Addr := (He.asD g n ++ [cStatics, sysModules]).eraseDups
abbrev FnY : Type := Option (Str × Str × Arguments × FuncBody × Scope × Addr × List Str × Addr)
def fnY (K : PySem.W.Frag) (p : Str × Option Str) : FnY := match K.lookup (He.fAd K p) with
  | some ⟨_, _, .func fd, _⟩ => some (fd.name, fd.qualname, fd.params, fd.body, fd.scope, fd.globals, fd.closure.map (·.1), fd.builtins)
  | _ => none
/-- a method that says super(): where it stands, its words -/
structure DefY where
  at_ : Str × Str
  name : Str
  qual : Str
  params : Arguments
  body : List Stmt
  scope : Scope
def DefY.val (d : DefY) : FnY := some (d.name, d.qual, d.params, .stmts d.body, d.scope, mainGlobals, [("__class__" : Str)], builtinsNs)
def DefY.ad (d : DefY) : Str × Option Str := (d.at_.1, some d.at_.2)
/-- its code, its cell -/
def codeB (P : Program) (K : PySem.W.Frag) (cdv : Value) (qual : Str) : Bool := match cdv with
  | .ref c => PySem.W.codeIn K (.ref c) qual && (match K.lookup c with
    | some ⟨_, _, .fields vs, _⟩ => (match (vs[2]? : Option Value) with
      | some (.str file _) => ((P.main.file : Str) == file)
      | _ => false)
    | _ => false)
  | _ => false
def cellB (K : PySem.W.Frag) (D : Addr) (cl : List (Str × Addr)) : Bool := match cl with
  | [(_, cc)] => (match K.lookup cc with
    | some ⟨_, _, .cell (some (.ref D')), _⟩ => decide (D' = D)
    | _ => false)
  | _ => false
def DefY.ok (P : Program) (K : PySem.W.Frag) (d : DefY) : Bool := PySem.W.keepIn K (.ref (He.fAd K d.ad)) && ((PySem.W.clsIn K (He.ga K d.at_.1)).isSome && (match K.lookup (He.fAd K d.ad) with
  | some ⟨_, _, .func fd, _⟩ => decide (fd.defaults = .none) && (decide (fd.kwdefaults = .none) && (codeB P K fd.code d.qual && cellB K (He.ga K d.at_.1) fd.closure))
  | _ => false))
def supB (P : Program) (K : PySem.W.Frag) : Bool := He.eqO (PySem.W.nsIn K mainGlobals "super") (some none) && (He.eqO (PySem.W.nsIn K cStatics "thirdparty.any") (some none) && (!(P.main.scope.names.lookup ("super" : Str)).isSome && (K.lookup sysModules).isSome))
theorem codeB_ok {P : Program} {K : PySem.W.Frag} {cdv : Value} {qual : Str} (h : codeB P K cdv qual = true) : ∃ c, cdv = .ref c ∧ PySem.W.codeIn K (.ref c) qual = true ∧ ∃ ccl cdd vs ccs file tf, K.lookup c = some ⟨ccl, cdd, .fields vs, ccs⟩ ∧ vs[2]? = some (.str file tf) ∧ ((P.main.file : Str) == file) = true := by
  cases cdv with
  | ref c =>
    obtain ⟨h1, h2⟩ := He.ba (show (PySem.W.codeIn K (.ref c) qual && (match K.lookup c with
      | some ⟨_, _, .fields vs, _⟩ => (match (vs[2]? : Option Value) with
        | some (.str file _) => ((P.main.file : Str) == file)
        | _ => false)
      | _ => false)) = true from h)
    refine ⟨c, rfl, h1, ?_⟩
    cases q : K.lookup c with
    | none => rw [q] at h2; cases h2
    | some o =>
      obtain ⟨oc, od, dt, osl⟩ := o
      rw [q] at h2
      cases dt with
      | fields vs =>
        dsimp only at h2
        cases q2 : vs[2]? with
        | none => rw [q2] at h2; cases h2
        | some u =>
          rw [q2] at h2
          cases u with
          | str file tf => exact ⟨oc, od, vs, osl, file, tf, rfl, q2, h2⟩
          | _ => cases h2
      | _ => cases h2
  | _ => cases h
theorem cellB_ok {K : PySem.W.Frag} {D : Addr} {cl : List (Str × Addr)} (h : cellB K D cl = true) : ∃ x cc c2 cld csl, cl = [(x, cc)] ∧ K.lookup cc = some ⟨c2, cld, .cell (some (.ref D)), csl⟩ := by
  match cl, h with
  | [(x, cc)], h =>
    have h' : (match K.lookup cc with
      | some ⟨_, _, .cell (some (.ref D')), _⟩ => decide (D' = D)
      | _ => false) = true := h
    cases q : K.lookup cc with
    | none => rw [q] at h'; cases h'
    | some o =>
      obtain ⟨oc, od, dt, osl⟩ := o
      rw [q] at h'
      cases dt with
      | cell v =>
        cases v with
        | none => cases h'
        | some u =>
          cases u with
          | ref D' =>
            have e : D' = D := of_decide_eq_true h'
            subst e
            exact ⟨x, cc, oc, od, osl, rfl, q⟩
          | _ => cases h'
      | _ => cases h'
/-- the observation -/
abbrev AlX : Type := He.AlD × List FnY × Bool
def obsX (P : Program) (n : Nat) (fa : List He.Fa) (fn : List He.DefD) (fy : List DefY) (ex : PySem.W.Frag → Bool) (g : Addr → Option Obj) : AlX :=
  let K := He.frG g (asX g n)
  (He.obsD fa fn K, fy.map (fun d => fnY K d.ad), fy.all (fun d => d.ok P K) && (supB P K && ex K))
structure SaysX (P : Program) (fa : List He.Fa) (fn : List He.DefD) (fy : List DefY) (ex : PySem.W.Frag → Bool) (K : PySem.W.Frag) : Prop where
  d : He.SaysD fa fn K
  y : fy.map (fun d => fnY K d.ad) = fy.map DefY.val
  ok : fy.all (fun d => d.ok P K) = true
  sup : supB P K = true
  more : ex K = true
def hookX (P : Program) (n : Nat) (fa : List He.Fa) (fn : List He.DefD) (fy : List DefY) (ex : PySem.W.Frag → Bool) : PySem.W.Hook where
  α := AlX
  obs := fun s => obsX P n fa fn fy ex s.heap.get?
  val := fun _ => (He.valD fn, fy.map DefY.val, true)
  says := fun _ h => ∃ K : PySem.W.Frag, K.In h ∧ SaysX P fa fn fy ex K
  of := fun _ _ e => by
    refine ⟨_, He.frG_in, congrArg (fun z : AlX => z.1) e, congrArg (fun z : AlX => z.2.1) e, ?_, ?_, ?_⟩
    · exact (He.ba (congrArg (fun z : AlX => z.2.2) e)).1
    · exact (He.ba (He.ba (congrArg (fun z : AlX => z.2.2) e)).2).1
    · exact (He.ba (He.ba (congrArg (fun z : AlX => z.2.2) e)).2).2
  keeps := fun _ _ _ ⟨K, hK, c⟩ k => ⟨K, PySem.W.Frag.In.keeps hK k, c⟩
theorem obsX_eq {P : Program} {n : Nat} {fa : List He.Fa} {fn : List He.DefD} {fy : List DefY} {ex : PySem.W.Frag → Bool} {g : Addr → Option Obj} {s : Shared} (h : ∀ a, g a = s.heap.get? a) : obsX P n fa fn fy ex g = (hookX P n fa fn fy ex).obs s := by
  obtain rfl : g = s.heap.get? := funext h
  rfl
/-- a method that says super() -/
theorem SaysX.supF {P : Program} {fa : List He.Fa} {fn : List He.DefD} {fy : List DefY} {ex : PySem.W.Frag → Bool} {K : PySem.W.Frag} (c : SaysX P fa fn fy ex K) (i : Nat) {d : DefY} (h : fy[i]? = some d) (h1 : d.scope.names.lookup ("super" : Str) = some .globalImplicit) (h2 : d.scope.names.lookup ("__class__" : Str) = some .free) (h3 : d.scope.kind = .function) :
    ∃ cl cc fd, FunX K ⟨d.name, d.qual, d.params, d.body, d.scope, cl, cc⟩ (He.fAd K d.ad) fd ∧ SupK P K ⟨d.name, d.qual, d.params, d.body, d.scope, cl, cc⟩ (He.ga K d.at_.1) := by
  have hok := List.all_eq_true.mp c.ok d (List.mem_of_getElem? h)
  obtain ⟨kp, hok⟩ := He.ba hok
  obtain ⟨hcl, hok⟩ := He.ba hok
  have e : (fy.map fun d => fnY K d.ad)[i]? = (fy.map DefY.val)[i]? := by rw [c.y]
  rw [List.getElem?_map, List.getElem?_map, h] at e
  have e : fnY K d.ad = d.val := Option.some.inj e
  obtain ⟨s1, s2⟩ := He.ba c.sup
  obtain ⟨s2, s3⟩ := He.ba s2
  obtain ⟨s3, s4⟩ := He.ba s3
  unfold fnY at e
  cases q : K.lookup (He.fAd K d.ad) with
  | none => rw [q] at hok; cases hok
  | some o =>
    obtain ⟨oc, od, dt, osl⟩ := o
    rw [q] at hok e
    cases dt with
    | func fd =>
      obtain ⟨n1, n2, n3, n4, n5, n6, n7, n8, n9, n10, n11, n12, n13, n14, n15⟩ := fd
      have e2 : (some (n1, n2, n3, n4, n5, n6, n7.map (·.1), n15) : FnY) = some (d.name, d.qual, d.params, .stmts d.body, d.scope, mainGlobals, [("__class__" : Str)], builtinsNs) := e
      simp only [Option.some.injEq, Prod.mk.injEq] at e2
      obtain ⟨g1, g2, g3, g4, g5, g6, g7, g8⟩ := e2
      subst g1 g2 g3 g4 g5 g6 g8
      obtain ⟨k1, k2⟩ := He.ba (show (decide (n8 = .none) && (decide (n9 = .none) && (codeB P K n13 d.qual && cellB K (He.ga K d.at_.1) n7))) = true from hok)
      obtain ⟨k2, k3⟩ := He.ba k2
      obtain ⟨k3, k4⟩ := He.ba k3
      obtain rfl : n8 = .none := of_decide_eq_true k1
      obtain rfl : n9 = .none := of_decide_eq_true k2
      obtain ⟨cc, rfl, k5, k6⟩ := codeB_ok k3
      obtain ⟨x, ca, c2, cld, csl, rfl, k7⟩ := cellB_ok k4
      obtain rfl : x = ("__class__" : Str) := by simpa using g7
      exact ⟨[("__class__", ca)], cc, _, ⟨⟨oc, od, _, _, _, _, osl, rfl, q⟩, k5, kp⟩, ⟨⟨ca, c2, cld, csl, rfl, k7⟩, k6, Option.isSome_iff_exists.mp hcl, He.eqO_ok s1, He.eqO_ok s2, by simpa using s3, h1, h2, h3⟩⟩
    | _ => cases hok
end Iv
/-! What a head's Bool tells of exceptions' classes; isinstance by a table. -/
namespace Iv
open PySem PySem.Spec PyProof.Rows L2 NdefX

def deB (a b : Option Bool) : Bool := decide (a = b)
def oexB (K : PySem.W.Frag) (C : Addr) : Bool := (match K.lookup C with
  | some ⟨.type t, _, .cls cd, sl⟩ => decide (t = "type") && (!cd.hasDel && (cd.hasDict && (match cd.mro, sl.toList with
    | .ref C' :: bm, [_, _, _, _, some (.builtin n), _] => decide (C' = C) && (decide (n = "ValueError.__new__") && PySem.HandSPX.refsVE bm)
    | _, _ => false)))
  | _ => false) && (He.eqO (PySem.W.findIn K (.ref C) "__setattr__") (some (some (.builtin "object.__setattr__"))) && (deB (PySem.W.subIn K (.ref C) (.type "BaseException")) (some true) && (decide (PySem.W.typeIn K (.ref C) = some (.type "type")) && PySem.W.keepIn K (.ref C))))
theorem oexB_ok {K : PySem.W.Frag} {C : Addr} (h : oexB K C = true) : OexC K C := by
  obtain ⟨h1, h⟩ := He.ba h
  obtain ⟨h2, h⟩ := He.ba h
  obtain ⟨h3, h⟩ := He.ba h
  obtain ⟨h4, h5⟩ := He.ba h
  refine ⟨?_, He.eqO_ok h2, of_decide_eq_true h3, of_decide_eq_true h4, h5⟩
  cases q : K.lookup C with
  | none => rw [q] at h1; cases h1
  | some o =>
    obtain ⟨oc, od, dt, sl⟩ := o
    rw [q] at h1
    cases oc with
    | type t =>
      cases dt with
      | cls cd =>
        obtain ⟨nm, bs, mro, ns, qn, hd, sn, sub, ab, col, del⟩ := cd
        obtain ⟨e1, g1⟩ := He.ba h1
        clear h1
        obtain ⟨e2, g2⟩ := He.ba g1
        clear g1
        obtain ⟨e3, g3⟩ := He.ba g2
        clear g2
        dsimp only at e1 e2 e3 g3
        obtain rfl := of_decide_eq_true e1
        obtain rfl : del = false := by simpa using e2
        obtain rfl : hd = true := e3
        obtain ⟨sl⟩ := sl
        match mro, sl, g3 with
        | .ref C' :: bm, [k0, k1, k2, k3, some (.builtin n), k5], g3 =>
          obtain ⟨f1, g4⟩ := He.ba (show (decide (C' = C) && (decide (n = "ValueError.__new__") && PySem.HandSPX.refsVE bm)) = true from g3)
          obtain ⟨f2, f3⟩ := He.ba g4
          obtain rfl := of_decide_eq_true f1
          obtain rfl := of_decide_eq_true f2
          exact ⟨nm, qn, ns, bs, bm, sn, sub, ab, col, od, k0, k1, k2, k3, k5, rfl, f3⟩
      | _ => cases h1
    | _ => cases dt <;> cases h1
/-- an own exception's class x, its __init__ that of the class y -/
structure EcOk (K : PySem.W.Frag) (x y : Str) (fs : List Str) : Prop where
  T : OexC K (He.ga K x)
  i : PySem.W.findIn K (.ref (He.ga K x)) "__init__" = some (some (.ref (He.fAd K (y, some "__init__"))))
  t : PySem.W.typeIn K (.ref (He.fAd K (y, some "__init__"))) = some (.type "function")
  s : SupE K (He.ga K y) (He.ga K x)
  no : ∀ f ∈ fs, PySem.W.findIn K (.ref (He.ga K x)) f = some none
def ecB (K : PySem.W.Frag) (x y : Str) (fs : List Str) : Bool := oexB K (He.ga K x) && (He.eqO (PySem.W.findIn K (.ref (He.ga K x)) "__init__") (some (some (.ref (He.fAd K (y, some "__init__"))))) && (decide (PySem.W.typeIn K (.ref (He.fAd K (y, some "__init__"))) = some (.type "function")) &&
  (deB (PySem.W.mroIn K (He.ga K x) (.ref (He.ga K y))) (some true) && (He.eqO (PySem.W.ks_superIn K (He.ga K x) (He.ga K y) "__init__") (some (some (.builtin "ValueError.__init__"))) && (deB (PySem.W.subIn K (.ref (He.ga K x)) (.type "ValueError")) (some true) &&
  fs.all fun f => He.eqO (PySem.W.findIn K (.ref (He.ga K x)) f) (some none))))))
theorem ecB_ok {K : PySem.W.Frag} {x y : Str} {fs : List Str} (h : ecB K x y fs = true) : EcOk K x y fs := by
  obtain ⟨h1, h⟩ := He.ba h
  obtain ⟨h2, h⟩ := He.ba h
  obtain ⟨h3, h⟩ := He.ba h
  obtain ⟨h4, h⟩ := He.ba h
  obtain ⟨h5, h⟩ := He.ba h
  obtain ⟨h6, h7⟩ := He.ba h
  have T := oexB_ok h1
  exact ⟨T, He.eqO_ok h2, of_decide_eq_true h3, ⟨T, of_decide_eq_true h4, He.eqO_ok h5, of_decide_eq_true h6⟩, fun f hf => He.eqO_ok (List.all_eq_true.mp h7 f hf)⟩
/-- what isinstance and attributes ask -/
def etB (K : PySem.W.Frag) (C : Addr) : Bool := (PySem.W.clsIn K C).isSome && (He.eqO (PySem.W.findIn K (.ref C) "__class__") (some (some (.builtin "object.__class__"))) && (He.eqO (PySem.W.specialIn K (.builtin "object.__class__") "__get__") (some (some (.builtin "getset_descriptor.__get__"))) && (deB (PySem.W.takesIn K (.builtin "object.__class__")) (some true) && (deB (PySem.W.mroIn K C (.type "object")) (some true) && xfB K C))))
theorem etB_ok {K : PySem.W.Frag} {C : Addr} (h : etB K C = true) : ExcTy K C ∧ XfC K C := by
  obtain ⟨h1, h⟩ := He.ba h
  obtain ⟨h2, h⟩ := He.ba h
  obtain ⟨h3, h⟩ := He.ba h
  obtain ⟨h4, h⟩ := He.ba h
  obtain ⟨h5, h6⟩ := He.ba h
  have X := xfB_ok h6
  exact ⟨⟨h1, X.ga, X.gg, X.exC, He.eqO_ok h2, He.eqO_ok h3, of_decide_eq_true h4, of_decide_eq_true h5⟩, X⟩
/-! ### the text's classes: exceptions from 1000 on -/
def clsX (en : List Str) (K : PySem.W.Frag) (c : Nat) : Addr := He.ga K (en.getD (c - 1000) "")
abbrev GX (en : List Str) (K : PySem.W.Frag) : Gd := ⟨K, clsX en K, fun _ => 0, []⟩
def ktX (n : Nat) (sb : Nat → Ty → Bool) (ts : List Ty) : Kt := ⟨fun c => decide (1000 ≤ c ∧ c < 1000 + n), fun a b => match a, b with
  | .b x, .b y => subB x y
  | .o c, t => if 1000 ≤ c ∧ c < 1000 + n ∧ t ∈ ts then some (sb c t) else none
  | _, _ => none⟩
def ktxB (en : List Str) (sb : Nat → Ty → Bool) (ts : List Ty) (K : PySem.W.Frag) : Bool := (List.range en.length).all fun i => etB K (clsX en K (1000 + i)) && ts.all fun t => deB (PySem.W.kitOne K (.ref (clsX en K (1000 + i))) (tyVal (GX en K) t)) (some (sb (1000 + i) t))
theorem ktX_ok {en : List Str} {sb : Nat → Ty → Bool} {ts : List Ty} {K : PySem.W.Frag} (h : ktxB en sb ts K = true) (hid : List Addr) : KtOk ((GX en K).at hid) (ktX en.length sb ts) := by
  have at_ : ∀ c, 1000 ≤ c ∧ c < 1000 + en.length → etB K (clsX en K c) = true ∧ ∀ t ∈ ts, PySem.W.kitOne K (.ref (clsX en K c)) (tyVal (GX en K) t) = some (sb c t) := fun c hc => by
    have z := List.all_eq_true.mp h (c - 1000) (List.mem_range.mpr (by omega))
    rw [show 1000 + (c - 1000) = c by omega] at z
    obtain ⟨z1, z2⟩ := He.ba z
    exact ⟨z1, fun t ht => of_decide_eq_true (List.all_eq_true.mp z2 t ht)⟩
  have tv : ∀ t, tyVal ((GX en K).at hid) t = tyVal (GX en K) t := fun t => by cases t <;> rfl
  refine ⟨fun c hc hx => ?_, fun c hc _ => ?_, fun a b v e => ?_⟩
  · have hc := of_decide_eq_true hc
    have : isEx c = true := Nat.ble_eq.mpr hc.1
    rw [this] at hx
    cases hx
  · exact (etB_ok (at_ c (of_decide_eq_true hc)).1).1
  · cases a with
    | b x =>
      cases b with
      | b y => exact kit_ty (subB_kit e)
      | o _ => cases e
    | o c =>
      have e' : (if 1000 ≤ c ∧ c < 1000 + en.length ∧ b ∈ ts then some (sb c b) else none) = some v := by cases b <;> exact e
      by_cases q : 1000 ≤ c ∧ c < 1000 + en.length ∧ b ∈ ts
      · rw [if_pos q] at e'
        cases e'
        rw [tv]
        exact (at_ c ⟨q.1, q.2.1⟩).2 b q.2.2
      · rw [if_neg q] at e'; cases e'
/-- attributes of exceptions, by a list of what may be read -/
def kfX (n : Nat) (fs : List (Nat × Str)) : Nat → Str → Bool := fun c f => decide (1000 ≤ c ∧ c < 1000 + n) && fs.contains (c, f)
def kfxB (en : List Str) (fs : List (Nat × Str)) (K : PySem.W.Frag) : Bool := fs.all fun p => He.eqO (PySem.W.findIn K (.ref (clsX en K p.1)) p.2) (some none)
theorem kfX_ok {en : List Str} {sb : Nat → Ty → Bool} {ts : List Ty} {fs : List (Nat × Str)} {K : PySem.W.Frag} (h0 : ktxB en sb ts K = true) (h : kfxB en fs K = true) (hid : List Addr) : KfOk ((GX en K).at hid) (kfX en.length fs) := by
  refine ⟨fun c f e hx => ?_, fun c f e _ => ?_⟩
  · have hc := of_decide_eq_true (He.ba e).1
    have : isEx c = true := Nat.ble_eq.mpr hc.1
    rw [this] at hx
    cases hx
  · obtain ⟨e1, e2⟩ := He.ba e
    have hc := of_decide_eq_true e1
    have z := List.all_eq_true.mp h0 (c - 1000) (List.mem_range.mpr (by omega))
    rw [show 1000 + (c - 1000) = c by omega] at z
    exact ⟨(etB_ok (He.ba z).1).2, He.eqO_ok (List.all_eq_true.mp h (c, f) (List.contains_iff_mem.mp e2))⟩
theorem exc_of {G : Gd} {X : Cx} {c n : Nat} {fs : List (Str × Nat)} {ps : List Str} {fd : FuncData} {x y : Str} {fsn : List Str} (hx : isEx c = true) (hc : G.cls c = He.ga G.K x) (E : EcOk G.K x y fsn) (hf : ∀ f ∈ fs, f.1 ∈ fsn)
    (F : FnOk X.prog X.w G.K X.mg X.base (L2.CX X.prog X.w) 1 (He.fAd G.K (y, some "__init__")) fd ps (exSp G.K (He.ga G.K y) n fs)) : ExC G X c n fs ps fd :=
  ⟨hx, by rw [hc]; exact E.T, ⟨_, _, by rw [hc]; exact E.i, E.t, by rw [hc]; exact E.s, F⟩, fun f h => by rw [hc]; exact E.no f.1 (hf f h)⟩
theorem pss_none {X : Cx} : Passes (L2.CX X.prog X.w) X (fun _ _ _ => False) := by
  rintro pins σ H s e s' I ⟨a, B, H', cls, d, ea, fl, hok, ub, na, os, ag, he⟩
  exact he.elim
/-- two fields stored, as one -/
theorem upd_two {H : Hp} {x dx : Addr} {o o1 o2 : HO} (h : dx ≠ x) : upd (upd (upd H dx o1) x o) dx o2 = upd (upd H dx o2) x o := by
  funext b
  by_cases h1 : b = dx
  · subst h1
    rw [upd_same, upd_ne h, upd_same]
  · rw [upd_ne h1]
    by_cases h2 : b = x
    · subst h2
      rw [upd_same, upd_same]
    · rw [upd_ne h2, upd_ne h2, upd_ne h1, upd_ne h1]
end Iv
/-! Own classes: instances made; the new object is a cell while its __init__ runs. -/
namespace Iv
open PySem PySem.Spec PyProof.Rows L2 NdefX

/-! ### a promise with an own reading of the arguments -/
def FnA (G : Gd) (P : Program) (w : World) (mg : Str → Option Value) (base : Heap) (k : Nat) (f : Addr) (ok : Shared → Args → List Value → Prop) (g : List D → Ev D) : Prop :=
  ∀ (A : Around) (outer : List Env) (s : Shared) (H : Hp) (args : Args) (us : List Value) (vs : List V) (ds : List D) (r : List Addr) (M : List D) (Q : VK) (E : XK),
    Room k A → A.guards = some [] → Env0 P w G.K mg base A outer s H → ok s args us → Vals vs us → StOk G r M H → Reps G r H vs ds →
    Post G (fun c d _ H' => E c d H') [] (JE G Q) r H (g ds M) → codeAny (model P w) A (.call (.ref f) args) (CR (CX P w) outer P w H s Q E) s
/-- the arguments of a plain def -/
def okB (fd : FuncData) (ps : List Str) : Shared → Args → List Value → Prop := fun s args us => BindsTo s fd args (ps.zip us) ∧ us.length = ps.length
/-- the arguments as they are -/
def okP : Shared → Args → List Value → Prop := fun _ args us => args = ⟨us, []⟩
section
variable {G : Gd} {P : Program} {w : World} {mg : Str → Option Value} {base : Heap}
theorem FnS.a {k : Nat} {f : Addr} {fd : FuncData} {ps : List Str} {g : List D → Ev D} (F : FnS G P w mg base k f fd ps g) : FnA G P w mg base k f (okB fd ps) g :=
  fun A outer s H args us vs ds r M Q E hr hg e0 ok rv S Rs p => F A outer s H args us vs ds r M Q E hr hg e0 ok.1 rv (rv.length.trans ok.2) S Rs p
end
/-! ### C(..) -/
/-- what __init__ makes of the new object -/
def mkE (c : Nat) (g : List D → Ev D) (ds : List D) : Ev D := fun M => fin false M.length (match g (.cell M.length :: ds) (M ++ [.ins c [] []]) with
  | .ok .non M2 => .ok (.rt (.cell M.length)) M2
  | .exc e M2 => .ok (.ex [] e) M2
  | _ => .stk)
section
variable {G : Gd} {X : Cx}
theorem run_makeA {k c : Nat} {fI : Addr} {ok : Shared → Args → List Value → Prop} {g : List D → Ev D} (F : FnA G X.prog X.w X.mg X.base k fI ok g) (hc : isEx c = false) (T : L2.Mk X.K (G.cls c) fI) (hK : G.K = X.K) (hr : Room (k + 1) X.A) (hgd : X.A.guards = some []) {W : WX} (tk : Takes X W)
    {pins : List (Addr × Obj)} {σ : L2.St} {H : Hp} {s : Shared} {Q : VK} {us all : List Value} {kw : List (Str × Value)} {vs : List V} {ds : List D} {r : List Addr} {M : List D}
    (I : Inv X pins σ H s) (hb : ∀ (s : Shared) (a : Addr), X.K.In s.heap → ok s ⟨.ref a :: us, kw⟩ (.ref a :: all)) (rv : Vals vs all) (S : StOk G r M H) (Rs : Reps G r H vs ds) (p : Post G W σ (JE G Q) r H (mkE c g ds M)) :
    wpAny (model X.prog X.w) X.A (call (.ref (G.cls c)) us kw) (EP X pins σ Q) X.xe s := by
  have hx : H (s.heap.objs.size + 1) = none := I.hok.fresh (Nat.le_succ _)
  have hd : H s.heap.objs.size = none := I.hok.fresh (Nat.le_refl _)
  have ne : s.heap.objs.size + 1 ≠ s.heap.objs.size := Nat.succ_ne_self _
  obtain ⟨L1, S1⟩ := S.new (o := .own (s.heap.objs.size + 1)) hd
  have hx1 : upd H s.heap.objs.size (.own (s.heap.objs.size + 1)) (s.heap.objs.size + 1) = none := by rw [upd_ne ne]; exact hx
  obtain ⟨L2, S2⟩ := S1.more (o := .ins (G.cls c) s.heap.objs.size []) (d := .ins c [] []) hx1 fun _ => ⟨_, [], upd_same, rfl, .nil, hc⟩
  have I2 := Inv.made (C := G.cls c) I
  have e0 := I2.env0
  rw [← hK] at e0
  have L : Le r H (r ++ [s.heap.objs.size + 1]) (upd (upd H s.heap.objs.size (.own (s.heap.objs.size + 1))) (s.heap.objs.size + 1) (.ins (G.cls c) s.heap.objs.size [])) := L1.trans L2
  have lr : r.length = M.length := S.len
  have at_ : (r ++ [s.heap.objs.size + 1])[M.length]? = some (s.heap.objs.size + 1) := by rw [← lr, List.getElem?_append_right (Nat.le_refl _), Nat.sub_self]; rfl
  have Rs2 : Reps G (r ++ [s.heap.objs.size + 1]) (upd (upd H s.heap.objs.size (.own (s.heap.objs.size + 1))) (s.heap.objs.size + 1) (.ins (G.cls c) s.heap.objs.size [])) (.ref (s.heap.objs.size + 1) :: vs) (.cell M.length :: ds) := .cons (.cell at_) (Rs.le L)
  have p2 : Post G (fun c' d _ H' => W c' d σ H') [] (JE G Q) r H (mkE c g ds M) := by
    cases e : mkE c g ds M with
    | ok d M' => rw [e] at p; exact p
    | exc d M' => rw [e] at p; exact p
    | stk => rw [e] at p; exact p
  have p3 := Post.fin (E := fun c' d H' => W c' d σ H') lr p2
  have p4 : Post G (fun c' d _ H' => W c' d σ H') [] (JE G (fun v H' => v = .non ∧ Q (.ref (s.heap.objs.size + 1)) H')) (r ++ [s.heap.objs.size + 1]) (upd (upd H s.heap.objs.size (.own (s.heap.objs.size + 1))) (s.heap.objs.size + 1) (.ins (G.cls c) s.heap.objs.size [])) (g (.cell M.length :: ds) (M ++ [.ins c [] []])) := by
    cases e : g (.cell M.length :: ds) (M ++ [.ins c [] []]) with
    | stk => rw [e] at p3; exact p3.elim
    | exc d M' =>
      rw [e] at p3
      intro cls dd r' H' l' S' x
      exact p3 r' H' (L.trans l') S' [] cls dd ⟨rfl, fun i d z => by simp at z⟩ x
    | ok d M' =>
      rw [e] at p3
      cases d with
      | non =>
        intro r' H' l' S' v Rv
        cases Rv
        exact ⟨rfl, p3 r' H' (L.trans l') S' _ (.cell (l'.get at_))⟩
      | _ => exact p3.elim
  have rv2 : Vals (V.ref (s.heap.objs.size + 1) :: vs) (Value.ref (s.heap.objs.size + 1) :: all) := .cons rfl rv
  refine wpAny_call (make_map (f := fI) I.kIn T.makes T.init (beq_iff_eq.mp T.fn) (codeAny_mono (F _ X.stack _ _ ⟨Value.ref (s.heap.objs.size + 1) :: us, kw⟩ (Value.ref (s.heap.objs.size + 1) :: all) _ _ _ _ _ _ (hr.make (G.cls c) us kw) hgd
    (e0.make (G.cls c) us kw) (hb _ _ I2.kIn) rv2 S2 Rs2 p4) fun z s' hq' => ?_))
  cases z with
  | error e => exact tk e s' (XE.of_call (E := fun c d H' => W c d σ H') I2 (fun _ _ _ h => h) hq')
  | ok fl =>
    cases fl with
    | ret u =>
      obtain ⟨v, H', I3, rv, ev, q3⟩ := I2.after hq'
      subst ev
      exact ⟨rv, ⟨V.ref (s.heap.objs.size + 1), H', I3, rfl, q3⟩⟩
    | next => exact False.elim hq'
    | brk => exact False.elim hq'
    | cont => exact False.elim hq'
end
end Iv
namespace Iv
open PySem PySem.Spec PyProof.Rows L2 NdefX
/-- C(a, ..) -/
def dMk (c : Nat) (al : Nat → Bool) (dd : List D) (g : List D → Ev D) (a : DA) : DE := fun δ => bnd (a δ) fun ds => if al ds.length then mkE c g (ds ++ dd) else stuck
/-- C(k = e, ..): the arguments by their places among the keywords -/
def dMkK (c : Nat) (pi : List Nat) (dd : List D) (g : List D → Ev D) (m : DA) : DE := fun δ => bnd (m δ) fun ds => if ds.length = pi.length then mkE c g (perD pi ds ++ dd) else stuck
section
variable {G : Gd} {X : Cx}
theorem SE.new {k c : Nat} {fI : Addr} {ok : Shared → Args → List Value → Prop} {g : List D → Ev D} (F : FnA G X.prog X.w X.mg X.base k fI ok g) (hc : isEx c = false) (T : L2.Mk G.K (G.cls c) fI) (hK : G.K = X.K) (hr : Room (k + 1) X.A) (hgd : X.A.guards = some [])
    {al : Nat → Bool} {x : Str} {p pos : Pos} {e : Expr} {es : List Expr} {m : DA} {dvs : List V} {dv : List Value} {dd : List D} (hg : Gl X x) (hm : X.mg x = some (.ref (G.cls c)))
    (hb : ∀ (s : Shared) (a : Value) (us : List Value), al us.length = true → ok s ⟨a :: us, []⟩ (a :: (us ++ dv))) (hd : Vals dvs dv) (hdd : ∀ r H, Reps G r H dvs dd) (ha : SA G X (e :: es) m) (hdb : (x == ("__debug__" : Str)) = false)
    (he : starEach (e :: es) X.env = (false, eval e X.env) :: starEach es X.env) (hpl : (backTo pos (starEach es X.env)).any (·.1) = false) : SE G X (.Call (.Name x p) (e :: es) [] pos) (dMk c al dd g m) := by
  refine ⟨?_⟩
  intro W tk δ M σ r H Q S E q pins s I
  refine wpAny_Call_Name_kw (ld_glob I hg hm ?_ hdb)
  have hA : WA X (e :: es) σ H fun vs H1 => ∀ (pins : List (Addr × Obj)) (s : Shared) (us : List Value), Inv X pins σ H1 s → Vals vs us → wpAny (model X.prog X.w) X.A (PySem.call (.ref (G.cls c)) us) (EP X pins σ Q) X.xe s := by
    refine ha.ru W tk δ M σ r H _ S E (q.bnd.imp ?_)
    intro ds M1 r1 H1 L1 S1 h1 vs Rs pins s us I1 ru
    cases cn : al ds.length with
    | true =>
      rw [cn, if_pos rfl] at h1
      have cn' : al us.length = true := by rw [← ru.length, Rs.length]; exact cn
      exact run_makeA F hc (hK ▸ T) hK hr hgd tk I1 (fun s a _ => hb s (.ref a) us cn') (ru.append hd) S1 (Rs.append (hdd r1 H1)) h1
    | false =>
      rw [cn, if_neg (by simp)] at h1
      exact h1.elim
  exact PySem.W.callWith_K (h₀ := X.base) I.ok.mod.kin (hK ▸ T.kp) (thn (hA pos pins s I) fun us s1 ⟨vs, H1, I1, r1, h⟩ => ⟨I1.kIn, h pins s1 us I1 r1⟩) he hpl
theorem SE.new0 {k c : Nat} {fI : Addr} {ok : Shared → Args → List Value → Prop} {g : List D → Ev D} (F : FnA G X.prog X.w X.mg X.base k fI ok g) (hc : isEx c = false) (T : L2.Mk G.K (G.cls c) fI) (hK : G.K = X.K) (hr : Room (k + 1) X.A) (hgd : X.A.guards = some [])
    {al : Nat → Bool} {x : Str} {p pos : Pos} {dvs : List V} {dv : List Value} {dd : List D} (hg : Gl X x) (hm : X.mg x = some (.ref (G.cls c)))
    (hb : ∀ (s : Shared) (a : Value), al 0 = true → ok s ⟨[a], []⟩ (a :: dv)) (hd : Vals dvs dv) (hdd : ∀ r H, Reps G r H dvs dd) (hdb : (x == ("__debug__" : Str)) = false) : SE G X (.Call (.Name x p) [] [] pos) (dMk c al dd g dNil) := by
  refine ⟨?_⟩
  intro W tk δ M σ r H Q S E q pins s I
  refine wpAny_Call_Name_kw (ld_glob I hg hm ?_ hdb)
  refine PySem.W.callWith_K0 I.kIn (hK ▸ T.kp) ?_
  have q' : Post G W σ (JE G Q) r H (if al 0 = true then mkE c g dd M else .stk) := by
    have e : dMk c al dd g dNil δ M = if al 0 = true then mkE c g dd M else .stk := by
      unfold dMk dNil bnd Iv.ret
      simp only [List.length_nil, List.nil_append]
      split <;> rfl
    rw [← e]
    exact q
  cases cn : al 0 with
  | true =>
    rw [cn, if_pos rfl] at q'
    exact run_makeA (us := []) F hc (hK ▸ T) hK hr hgd tk I (fun s a _ => hb s (.ref a) cn) hd S (hdd r H) q'
  | false =>
    rw [cn, if_neg (by simp)] at q'
    exact q'.elim
theorem SE.newK {k c : Nat} {fI : Addr} {ok : Shared → Args → List Value → Prop} {g : List D → Ev D} (F : FnA G X.prog X.w X.mg X.base k fI ok g) (hc : isEx c = false) (T : L2.Mk G.K (G.cls c) fI) (hK : G.K = X.K) (hr : Room (k + 1) X.A) (hgd : X.A.guards = some [])
    {ks : List Str} {pi : List Nat} {x : Str} {p pos : Pos} {kws : List Keyword} {mk : DA} {dvs : List V} {dv : List Value} {dd : List D} (hg : Gl X x) (hm : X.mg x = some (.ref (G.cls c)))
    (hb : ∀ (s : Shared) (a : Value) (us : List Value), us.length = pi.length → ok s ⟨[a], ks.zip us⟩ (a :: (pi.map (fun i => us.getD i .none) ++ dv))) (hd : Vals dvs dv) (hdd : ∀ r H, Reps G r H dvs dd)
    (hkw : SK G X kws mk) (hall : (backToKw pos (keywordEach kws X.env)).all (·.1.isSome) = true) (hks : (backToKw pos (keywordEach kws X.env)).filterMap (·.1) = ks) (hdb : (x == ("__debug__" : Str)) = false)
    (hpl : ((backTo pos (starEach [] X.env)).any (·.1) || (backToKw pos (keywordEach kws X.env)).any (·.1.isNone)) = false) : SE G X (.Call (.Name x p) [] kws pos) (dMkK c pi dd g mk) := by
  refine ⟨?_⟩
  intro W tk δ M σ r H Q S E q pins s I
  refine wpAny_Call_Name_kw (ld_glob I hg hm ?_ hdb)
  have hA : WK X kws σ H fun zs H1 => ∀ (pins : List (Addr × Obj)) (s : Shared) (ws : List Value), Inv X pins σ H1 s → Vals zs ws → wpAny (model X.prog X.w) X.A (PySem.call (.ref (G.cls c)) [] (ks.zip ws)) (EP X pins σ Q) X.xe s := by
    refine hkw.ru W tk δ M σ r H _ S E ((show Post G W σ (JE G Q) r H (bnd (mk δ) (fun ds => if ds.length = pi.length then mkE c g (perD pi ds ++ dd) else stuck) M) from q).bnd.imp ?_)
    intro ds M1 r1 H1 L1 S1 h1 zs Rz pins s ws I1 rz
    by_cases cn : ds.length = pi.length
    · rw [if_pos cn] at h1
      refine run_makeA (us := []) F hc (hK ▸ T) hK hr hgd tk I1 (fun s a _ => hb s (.ref a) ws ?_) ((per_vals rz pi).append hd) S1 ((per_reps Rz pi).append (hdd r1 H1)) h1
      rw [← rz.length, Rz.length]; exact cn
    · rw [if_neg cn] at h1
      exact h1.elim
  refine PySem.W.callWith_KW0 (h₀ := X.base) I.ok.mod.kin (hK ▸ T.kp) hall ?_ hpl
  obtain ⟨t, ht, hA⟩ := hA
  refine thn (ht.run pos pins s σ H _ I hA) fun ws s1 ⟨zs, H1, I1, r1, h⟩ => ⟨I1.kIn, ?_⟩
  rw [hks]
  exact h pins s1 ws I1 r1
end
end Iv
/-! Defs with a star; super().__init__(..) of own classes. -/
namespace Iv
open PySem PySem.Spec PyProof.Rows L2 NdefX ClX

section
variable {G : Gd} {X : Cx} {k : Nat} {f : Addr} {ok : Shared → Args → List Value → Prop} {g : List D → Ev D}
/-- a promise, kept -/
theorem FnA.run (F : FnA G X.prog X.w X.mg X.base k f ok g) (hr : Room k X.A) (hgd : X.A.guards = some []) (hK : G.K = X.K) {W : WX} (tk : Takes X W) {pins : List (Addr × Obj)} {σ : L2.St} {H : Hp} {s : Shared} {Q : VK} {args : Args} {us : List Value} {vs : List V} {ds : List D} {r : List Addr} {M : List D}
    (I : Inv X pins σ H s) (hb : ok s args us) (rv : Vals vs us) (S : StOk G r M H) (Rs : Reps G r H vs ds) (p : Post G W σ (JE G Q) r H (g ds M)) :
    codeAny (model X.prog X.w) X.A (.call (.ref f) args) (fun r s' => match r with | .ok (.ret v) => EP X pins σ Q v s' | .ok _ => False | .error e => X.xe e s') s := by
  have p' : Post G (fun c d _ H' => W c d σ H') [] (JE G Q) r H (g ds M) := by
    cases e : g ds M with
    | ok d M' => rw [e] at p; exact p
    | exc d M' => rw [e] at p; exact p
    | stk => rw [e] at p; exact p
  have e0 := I.env0
  rw [← hK] at e0
  refine codeAny_mono (F X.A X.stack s H args us vs ds r M Q (fun c d H' => W c d σ H') hr hgd e0 hb rv S Rs p') fun z s' h => ?_
  cases z with
  | error e => exact tk e s' (XE.of_call (E := fun c d H' => W c d σ H') I (fun _ _ _ h => h) h)
  | ok fl =>
    cases fl with
    | ret u => exact I.after h
    | next => exact h.elim
    | brk => exact h.elim
    | cont => exact h.elim
theorem FnA.call (F : FnA G X.prog X.w X.mg X.base k f ok g) (hr : Room k X.A) (hgd : X.A.guards = some []) (hK : G.K = X.K) {W : WX} (tk : Takes X W) {pins : List (Addr × Obj)} {σ : L2.St} {H : Hp} {s : Shared} {Q : VK} {us : List Value} {kw : List (Str × Value)} {as : List Value} {vs : List V} {ds : List D} {r : List Addr} {M : List D}
    (I : Inv X pins σ H s) (hb : ok s ⟨as, kw⟩ us) (rv : Vals vs us) (S : StOk G r M H) (Rs : Reps G r H vs ds) (p : Post G W σ (JE G Q) r H (g ds M)) :
    wpAny (model X.prog X.w) X.A (call (.ref f) as kw) (EP X pins σ Q) X.xe s :=
  wpAny_call (F.run hr hgd hK tk I hb rv S Rs p)
end
/-! ### def f(a, .., *v) -/
def starG (n : Nat) (g : List D → Ev D) : List D → Ev D := fun ds => if n ≤ ds.length ∧ ds.length ≤ sizeLine then g (ds.take n ++ [.tup (ds.drop n)]) else stuck
section
variable {G : Gd} {P : Program} {w : World} {mg : Str → Option Value} {base : Heap}
theorem FnA.star {x qual : Str} {params : Arguments} {body : List Stmt} {scope : Scope} {dvs : List V} {kws : List (Str × V)} {f : Addr} {fd : FuncData} {N ps : List Str} {pv : Str} {k : Nat} {keep : Bool} {m : DS}
    (F : FunD G.K x qual params body scope dvs kws f fd) (S : FnScope N (ps ++ [pv]) scope) (hds : dvs = [])
    (hbd : ∀ (kV doc pm : Value) (an : Option Addr) (cdv ct : Value) (us rest : List Value), us.length = ps.length → bindArgs (PySem.W.fnOf x qual params body scope .none kV doc pm an cdv ct) ⟨us ++ rest, []⟩ = (newTuple rest >>= fun t => pure (ps.zip us ++ [(pv, t)])))
    (hb : ∀ (cd : Value) (A : Around) (outer : List Env) (s : Shared) (H : Hp) (E : XK), Room k (A.deeper (envOfC qual scope s.heap.objs.size f cd)) → A.guards = some [] → SSs G (bodyCx G P w mg base N qual scope f cd A outer s H E) body m) :
    FnA G P w mg base (k + 1) f okP (starG ps.length (runF keep N.length m)) := by
  subst hds
  obtain ⟨oc, od, dV, kV, doc, pm, an, cdv, ct, osl, rfl, lk, hcd, hD, _⟩ := F.ex
  rcases hD with ⟨_, rfl⟩ | ⟨e, _⟩
  rotate_left
  · exact absurd rfl e
  intro A outer s H args us vs ds r M Q E hr hgd e0 hok rv S0 R0 post
  obtain rfl : args = ⟨us, []⟩ := hok
  unfold starG at post
  by_cases c : ps.length ≤ ds.length ∧ ds.length ≤ sizeLine
  rotate_left
  · rw [if_neg c] at post; exact post.elim
  rw [if_pos c] at post
  have hlv : vs.length = ds.length := R0.length
  have hlu : us.length = ds.length := by rw [← rv.length]; exact hlv
  have sp : ∃ u1 u2, us = u1 ++ u2 ∧ Vals (vs.take ps.length) u1 ∧ Vals (vs.drop ps.length) u2 := by
    have e : vs = vs.take ps.length ++ vs.drop ps.length := (List.take_append_drop _ _).symm
    rw [e] at rv
    exact StX.vals_split rv
  obtain ⟨u1, u2, rfl, rv1, rv2⟩ := sp
  have hl1 : u1.length = ps.length := by rw [← rv1.length, List.length_take, hlv]; omega
  have hl2 : u2.length ≤ sizeLine := by rw [← rv2.length, List.length_drop, hlv]; omega
  have hz : (vs.drop ps.length).length ≤ sizeLine := by rw [List.length_drop, hlv]; omega
  have hn : H s.heap.objs.size = none := e0.hok.fresh (Nat.le_refl _)
  refine StX.run_bnd lk hcd S hr e0 (G := fun xs H2 => ∃ p, H p = none ∧ xs = vs.take ps.length ++ [V.ref p] ∧ H2 = upd H p (.tup (vs.drop ps.length))) (fun A' Ex Q' h => ?_) fun s2 H2 xs ⟨p, hp, ex, eH⟩ hr' => ?_
  · rw [hbd _ _ _ _ _ _ u1 u2 hl1]
    refine wpAny_bind (wpAny_newTuple (wpAny_pure ?_) hl2)
    have new : ObjOk P w (upd H s.heap.objs.size (.tup (vs.drop ps.length))) (s.heap.push ({ cls := .type "tuple", data := .seq u2.toArray } : Obj)) s.heap.objs.size (.tup (vs.drop ps.length)) := ⟨hz, u2, rv2, ⟨_, Heap.get?_push_size _ rfl, rfl, _, rfl⟩⟩
    have un := StX.un_laid (fs := frs outer) (s := s) (o := ({ cls := .type "tuple", data := .seq u2.toArray } : Obj)) (u := .tup (vs.drop ps.length)) hn
    have z := h _ _ (vs.take ps.length ++ [V.ref s.heap.objs.size]) (u1 ++ [Value.ref s.heap.objs.size]) (StX.env0_laid e0 new) un rfl (fun e s' => StX.cxUp outer s H _ _ E e s' un (fun b o q => Heap.get?_push_of_some _ q) rfl) (rv1.append (.cons rfl .nil))
      (by rw [List.length_append, List.length_append, List.length_take, hlv]; simp; omega) ⟨_, hn, rfl, rfl⟩
    rw [List.zip_append hl1.symm] at z
    exact z
  · subst ex eH
    obtain ⟨L1, S1⟩ := S0.new (o := .tup (vs.drop ps.length)) hp
    have R1 := R0.le L1
    have Rt : Rep G r (upd H p (.tup (vs.drop ps.length))) (.ref p) (.tup (ds.drop ps.length)) := .tup (.inl (.inl (off_new (S0.fresh hp)))) (R1.drop _)
    have R2 : Reps G r (upd H p (.tup (vs.drop ps.length))) (vs.take ps.length ++ [V.ref p]) (ds.take ps.length ++ [.tup (ds.drop ps.length)]) := (R1.take _).append (.cons Rt .nil)
    have post2 : Post G (fun c d _ H' => E c d H') [] (JE G Q) r (upd H p (.tup (vs.drop ps.length))) (fin keep M.length (m (entry N.length (ds.take ps.length ++ [.tup (ds.drop ps.length)])) M)) := (show Post G (fun c d _ H' => E c d H') [] (JE G Q) r H (fin keep M.length (m (entry N.length (ds.take ps.length ++ [.tup (ds.drop ps.length)])) M)) from post).mono L1
    have T : Takes (bodyCx G P w mg base N qual scope f cdv A outer s2 (upd H p (.tup (vs.drop ps.length))) E) (fun c d _ H' => E c d H') := takes_of rfl rfl rfl rfl
    have q := (hb cdv A outer s2 (upd H p (.tup (vs.drop ps.length))) E hr' hgd).ru _ T (entry N.length (ds.take ps.length ++ [.tup (ds.drop ps.length)])) M (L2.start N (vs.take ps.length ++ [V.ref p])) r _ { nx := fun _ H' => Q .non H', rt := Q } S1 (env_entry R2) (Post.fin S1.len post2)
    exact ⟨_, pssW body, q⟩
end
/-! ### super().__init__(e, ..) in an own class's __init__ -/
section
variable {X : Cx} {pins : List (Addr × Obj)} {σ : L2.St} {H : Hp} {s : Shared}
theorem sup_own {body : List Stmt} {F : NF} {f L D C x dx f2 : Addr} {fs : List (Str × V)} {oc : Value} {od : Option Addr} {osl : Array (Option Value)} {fd : FuncData} {ar : Arg} {p0 p1 p2 p4 p5 : Pos} {a : Expr} {es : List Expr} {Q : Flow → Shared → Prop} {Q' : Hp → Prop} {E : Value → Shared → Prop}
    (I : Inv X pins σ H s) (hE : X.env = envF F f L) (SK : SupK X.prog X.K F D) (hf : X.K.lookup f = some ⟨oc, od, .func fd, osl⟩) (hp : (fd.params.posonlyargs ++ fd.params.args).head? = some ar)
    (hN : X.N[0]? = some ar.arg) (hl : F.scope.names.lookup ar.arg = some .local) (h0 : σ[0]? = some (some (.ref x))) (hsub : PySem.W.mroIn X.K C (.ref D) = some true)
    (hm : PySem.W.ks_superIn X.K C D "__init__" = some (some (.ref f2))) (ht : PySem.W.typeIn X.K (.ref f2) = some (.type "function")) (hfn : PySem.W.fnIn X.K f2 = true) (e : H x = some (.ins C dx fs))
    (ha : WA X (a :: es) σ H fun vs H1 => ∀ (pins : List (Addr × Obj)) (s : Shared) (us : List Value), Inv X pins σ H1 s → Vals vs us → codeAny (model X.prog X.w) X.A (.call (.ref f2) ⟨.ref x :: us, []⟩) (fun r s' => match r with | .ok (.ret v) => EP X pins σ (fun _ H2 => Q' H2) v s' | .ok _ => False | .error e => X.xe e s') s)
    (q : ∀ s' H2, Inv X pins σ H2 s' → Q' H2 → Q .next s') (qx : ∀ e s', X.xe e s' → E e s') (pl : Sem Bool)
    (he : eval (.Call (.Attribute (.Call (.Name "super" p0) [] [] p1) "__init__" p2) (a :: es) [] p4) X.env = (do
      let ov ← attributeBase (.Call (.Name "super" p0) [] [] p1) "__init__" X.env (eval (.Call (.Name "super" p0) [] [] p1) X.env)
      standAt p2.atName
      let (f, first) ← holding [ov] (getMethod ov "__init__" pl)
      callWith p4 f first (backTo p4 (starEach (a :: es) X.env)) []))
    (hi : interactive X.env = false) (hs : swapsWith (.Call (.Attribute (.Call (.Name "super" p0) [] [] p1) "__init__" p2) (a :: es) [] p4) none p5.line X.env = pure false)
    (hst : starEach (a :: es) X.env = (false, eval a X.env) :: starEach es X.env) (hpl : (backTo p4 (starEach es X.env)).any (·.1) = false) :
    PySem.wpAt (model X.prog X.w) X.A (.func body X.env) (exec (.Expr (.Call (.Attribute (.Call (.Name "super" p0) [] [] p1) "__init__" p2) (a :: es) [] p4) p5) X.env) Q E s := by
  obtain ⟨mA, O, _, _, _, _⟩ := ins_get I.hok e
  obtain ⟨od', IA, _⟩ := O.look
  refine ks_wpAt_Expr_any (ks_wpAt_MethodCall (super_base I hE SK hf hp hN hl h0 IA hsub (by decide) fun so h1 k1 hso => ?_) he) hi hs
  have I1 : Inv X pins σ H { s with heap := h1 } := I.kept (t' := s.toks) k1
  have XI : X.K.In h1 := I1.kIn
  obtain ⟨mA1, O1, _, _, _, _⟩ := ins_get I1.hok e
  obtain ⟨od1, IA1, _⟩ := O1.look
  obtain ⟨hh, g, d, t, os⟩ := s
  cases hc : PySem.W.clsIn X.K C with
  | none => unfold PySem.W.ks_superIn at hm; rw [hc] at hm; cases hm
  | some cd =>
    unfold PySem.W.ks_superIn at hm
    rw [hc] at hm
    obtain ⟨of, hof, hofc⟩ : ∃ of, h1.get? f2 = some of ∧ of.cls = .type "function" := by
      have ht' : (X.K.lookup f2).map (·.cls) = some (.type "function") := ht
      cases z : X.K.lookup f2 with
      | none => rw [z] at ht'; cases ht'
      | some of => rw [z] at ht'; exact ⟨of, XI _ _ z, Option.some.inj ht'⟩
    refine ks_wpAny_getMethod_super hso (PySem.W.looks_opaque XI SK.any) (l₀ := cd.mro) (fun A Q E s k q => wpAny_bind ((PySem.W.looks_clsIn XI hc) A _ E s k (wpAny_pure q))) rfl XI hm hof hofc (PySem.W.ks_ne XI IA1 hc) (by decide) ?_
    have I2 := met_new (g := f2) (C := x) I1
    refine callwith_cm I2 (base_none I1 (Nat.le_refl _)) hfn (wpAny_mono (ha p4 _ _ I2) (fun us s3 ⟨vs, H2, I3, rv, q2⟩ => ⟨⟨pin_at I3, I3.kIn⟩, ?_⟩) qx) hst hpl
    refine wpAny_mono (wpAny_call (PySem.W.method_call (pin_at I3) (q2 _ s3 us I3 rv))) (fun v s' ⟨y, H3, I4, _, q4⟩ => q s' H3 (unpin I4) q4) qx
end
end Iv
/-! An own class's __init__ that begins with super().__init__(..). -/
namespace Iv
open PySem PySem.Spec PyProof.Rows L2 NdefX ClX

/-- super().__init__(e, ..) on self, the first slot's cell -/
def dSup (cs : Nat → Bool) (g : List D → Ev D) (a : DA) : DS := fun (δ : DEnv) (M : List Iv.D) => match (δ[0]? : Option (Option Iv.D)) with
  | some (some (.cell n)) => match M[n]? with
    | some (.ins c _ _) => if cs c then lft (bnd (a δ) fun ds => g (.cell n :: ds)) δ (fun _ => ret (.nx δ)) M else .stk
    | _ => .stk
  | _ => .stk
section
variable {P : Program} {w : World} {G : Gd} {mg : Str → Option Value} {base : Heap} {N ps : List Str} {F : NF} {f D f2 : Addr} {fd : FuncData} {k : Nat}
/-- whose __init__ behind D is the def at f2 -/
structure SupC (G : Gd) (D f2 : Addr) (cs : Nat → Bool) : Prop where
  cls : ∀ c, cs c = true → PySem.W.mroIn G.K (G.cls c) (.ref D) = some true ∧ PySem.W.ks_superIn G.K (G.cls c) D "__init__" = some (some (.ref f2))
  ty : PySem.W.typeIn G.K (.ref f2) = some (.type "function")
  fn : PySem.W.fnIn G.K f2 = true
theorem env_entryF {r : List Addr} {H : Hp} {vs : List V} {ds : List Iv.D} {ws : List (Option V)} (h : Reps G r H vs ds) (hl : ds.length + ws.length ≤ N.length) : EnvOk G r H (startF N vs ws) (entry N.length ds) := by
  have hlv := h.length
  refine ⟨by unfold startF entry; simp; omega, fun i d e => ?_⟩
  unfold entry at e
  by_cases hi : i < ds.length
  · rw [List.getElem?_append_left (by simpa using hi), List.getElem?_map] at e
    have e' : ds[i]? = some d := by
      cases q : ds[i]? with
      | none => rw [q] at e; cases e
      | some d' => rw [q] at e; cases e; rfl
    obtain ⟨v, h1, h2⟩ := h.get e'
    refine ⟨v, ?_, h2⟩
    unfold startF
    rw [List.getElem?_append_left (by simpa [hlv] using hi), List.getElem?_map, h1]
    rfl
  · rw [List.getElem?_append_right (by simpa using hi), List.getElem?_replicate] at e
    split at e <;> cases e
theorem FnS.sup {rest : List Stmt} {p0 p1 p2 p4 p5 : Pos} {a : Expr} {es : List Expr} {ar : Arg} {g2 : List Iv.D → Ev Iv.D} {cs : Nat → Bool} {ma : DA} {mrest : DS} {keep : Bool} (hf : FunX G.K F f fd) (S : NScope N ps ["__class__"] F.scope)
    (hbody : F.body = .Expr (.Call (.Attribute (.Call (.Name "super" p0) [] [] p1) "__init__" p2) (a :: es) [] p4) p5 :: rest) (SK : SupK P G.K F D)
    (hp : (F.params.posonlyargs ++ F.params.args).head? = some ar) (hN : N[0]? = some ar.arg) (hl : F.scope.names.lookup ar.arg = some .local)
    (F2 : FnA G P w mg base k f2 okP g2) (SC : SupC G D f2 cs)
    (pl : Env → Sem Bool)
    (he : ∀ L, eval (.Call (.Attribute (.Call (.Name "super" p0) [] [] p1) "__init__" p2) (a :: es) [] p4) (envF F f L) = (do
      let ov ← attributeBase (.Call (.Name "super" p0) [] [] p1) "__init__" (envF F f L) (eval (.Call (.Name "super" p0) [] [] p1) (envF F f L))
      standAt p2.atName
      let (g, first) ← holding [ov] (getMethod ov "__init__" (pl (envF F f L)))
      callWith p4 g first (backTo p4 (starEach (a :: es) (envF F f L))) []))
    (hi : ∀ L, interactive (envF F f L) = false)
    (hs : ∀ L, swapsWith (.Call (.Attribute (.Call (.Name "super" p0) [] [] p1) "__init__" p2) (a :: es) [] p4) none p5.line (envF F f L) = pure false)
    (hst : ∀ L, starEach (a :: es) (envF F f L) = (false, eval a (envF F f L)) :: starEach es (envF F f L)) (hpl : ∀ L, (backTo p4 (starEach es (envF F f L))).any (·.1) = false)
    (hargs : ∀ (A : Around) (outer : List Env) (s : Shared) (H : Hp) (E : XK), Room k (A.deeper (envF F f s.heap.objs.size)) → A.guards = some [] → SA G (ncx (CX P w) P w G.K mg base N F f A outer s H E) (a :: es) ma)
    (hrest : ∀ (A : Around) (outer : List Env) (s : Shared) (H : Hp) (E : XK), Room k (A.deeper (envF F f s.heap.objs.size)) → A.guards = some [] → SSs G (ncx (CX P w) P w G.K mg base N F f A outer s H E) rest mrest) :
    FnS G P w mg base (k + 1) f fd ps (runF keep N.length (dSeq (dSup cs g2 ma) mrest)) := by
  obtain ⟨oc, od, doc, pm, an, ct, osl, rfl, lk⟩ := hf.ex
  intro A outer s H args us vs ds r M Q E hr hgd e0 hbd rv hlen S0 R0 post
  have inK : G.K.In s.heap := e0.mod.kin.keeps fun b o e => (e0.bs b o e).1
  have noL : s.heap.NoLimit := e0.mod.nolimit.keeps fun b o e => (e0.bs b o e).1
  obtain ⟨cc, cl, cld, csl, ecl, hcell⟩ := SK.cell
  have CA : CellsAt F.cl ["__class__"] [some (.ref D)] s.heap H := by
    rw [ecl]
    have hc0 : H cc = none := (e0.bs cc _ (e0.mod.kin _ _ hcell)).2
    have hcs := inK _ _ hcell
    have one : ∀ y c, ([(("__class__" : Str), cc)] : List (Str × Addr)).lookup y = some c → y = ("__class__" : Str) ∧ c = cc := fun y c h => by
      have h' : (match y == ("__class__" : Str) with | true => some cc | false => none) = some c := h
      cases q : (y == ("__class__" : Str)) with
      | true => rw [q] at h'; exact ⟨eq_of_beq q, (Option.some.inj h').symm⟩
      | false => rw [q] at h'; cases h'
    refine ⟨rfl, fun y c h => ?_, fun x y c h1 h2 => ?_, fun i y h => ?_⟩
    · obtain ⟨_, rfl⟩ := one y c h
      exact ⟨hc0, _, _, hcs, rfl⟩
    · rw [(one x c h1).1, (one y c h2).1]
    · cases i with
      | zero =>
        cases h
        exact ⟨cc, rfl, fun v hv => by cases hv; exact ⟨.ref D, rfl, _, hcs, rfl⟩⟩
      | succ i => simp at h
  refine ks_codeAny_call_defAt (fd := PySem.W.fnX F.name F.qual F.params F.body F.scope F.cl .none .none doc pm an (.ref F.c) ct) (body := F.body) (binds := ps.zip us) hr.depth (inK _ _ lk) rfl noL (PySem.W.codeRec_of inK hf.code) rfl hbd S.nocell
    (fun y hy => S.par y.1 (List.of_mem_zip hy).1) (fun h₁ hns hk₁ => ?_) S.co S.gen S.kind
  have I := inv_startN (f := f) (CX := CX P w) (E := E) (tk := s.toks + (ps.zip us).length) S hr.hd e0 hlen rv CA hns hk₁
  have T : Takes (ncx (CX P w) P w G.K mg base N F f A outer s H E) (fun c d _ H' => E c d H') := takes_of rfl rfl rfl rfl
  have done : ∀ {s' : Shared} {σ : L2.St} {H' : Hp} {v : V} {u : Value}, Inv (ncx (CX P w) P w G.K mg base N F f A outer s H E) [] σ H' s' → RelV v u → Q v H' → CE outer P w H s Q u s' :=
    fun J rv q => ⟨_, _, J.os, J.bare, J.base, J.hok, rv, q⟩
  have hNl : ds.length + ([some (V.ref D)] : List (Option V)).length ≤ N.length := by
    have := congrArg List.length S.pre
    rw [List.length_take, List.length_append] at this
    rw [← R0.length, hlen]
    simp at this ⊢
    omega
  have EO : EnvOk G r H (startF N vs [some (.ref D)]) (entry N.length ds) := env_entryF R0 hNl
  have P1 := Post.fin S0.len post
  have P2 := Post.bnd (m := dSup cs g2 ma (entry N.length ds)) P1
  generalize hδ : entry N.length ds = δ at P2 EO
  have hr2 := hr.deeper (envF F f s.heap.objs.size)
  have HA := hargs A outer s H E hr2 hgd
  have HR := hrest A outer s H E hr2 hgd
  unfold dSup at P2
  cases e1 : δ[0]? with
  | none => rw [e1] at P2; exact P2.elim
  | some o1 =>
    rw [e1] at P2
    cases o1 with
    | none => exact P2.elim
    | some d1 =>
      cases d1 with
      | cell n =>
        obtain ⟨v0, ev0, Rv0⟩ := EO.at_ 0 _ e1
        cases Rv0 with
        | cell hn =>
          rename_i x
          dsimp only at P2
          cases e2 : M[n]? with
          | none => rw [e2] at P2; exact P2.elim
          | some o2 =>
            rw [e2] at P2
            have CAt := S0.at_ n x o2 hn e2
            cases o2 with
            | ins c ns vs2 =>
              obtain ⟨dx, fs, hx, _, _, _⟩ := CAt
              dsimp only at P2
              cases e3 : cs c with
              | false => rw [e3] at P2; exact P2.elim
              | true =>
                rw [e3, if_pos rfl] at P2
                have P3 : Post G (fun c d _ H' => E c d H') (startF N vs [some (.ref D)]) (fun _ M1 r1 H1 => PostS G (fun c d _ H' => E c d H') { nx := fun _ H' => Q .non H', rt := Q } r1 H1 (mrest δ M1)) r H (bnd (ma δ) (fun ds => g2 (.cell n :: ds)) M) := by
                  unfold lft at P2
                  cases e : bnd (ma δ) (fun ds => g2 (.cell n :: ds)) M with
                  | ok a M' => rw [e] at P2; exact fun r' H' l S => P2 r' H' l S
                  | exc d M' => rw [e] at P2; exact fun c dd r' H' l S q => P2 r' H' l S r' H' S.le S _ c dd (EO.le l) q
                  | stk => rw [e] at P2; exact P2.elim
                show PySem.wpAt (model P w) (A.deeper (envF F f s.heap.objs.size)) (.func F.body (envF F f s.heap.objs.size)) (execs F.body (envF F f s.heap.objs.size)) _ _ _
                rw [hbody]
                refine ks_wpAt_execs_cons ?_
                refine sup_own (X := ncx (CX P w) P w G.K mg base N F f A outer s H E) (pins := []) (σ := startF N vs [some (.ref D)]) (H := H) (Q' := fun H2 => ∃ r2 M2, Le r H r2 H2 ∧ StOk G r2 M2 H2 ∧ PostS G (fun c d _ H' => E c d H') { nx := fun _ H' => Q .non H', rt := Q } r2 H2 (mrest δ M2))
                  I rfl SK lk hp hN hl ev0 (SC.cls c e3).1 (SC.cls c e3).2 SC.ty SC.fn hx ?_ ?_ ?_ (pl (envF F f s.heap.objs.size)) (he _) (hi _) (hs _) (hst _) (hpl _)
                · refine HA.ru _ T δ M _ r H _ S0 EO (Post.imp P3.bnd ?_)
                  intro ds2 M2 r2 H2 L2 S2 h2 ws2 Rw2 pins2 s2 us2 I2 rv2
                  refine F2.run (X := ncx (CX P w) P w G.K mg base N F f A outer s H E) (vs := V.ref x :: ws2) hr2 hgd rfl T I2 rfl (.cons rfl rv2) S2 (.cons (.cell (L2.get hn)) Rw2) (h2.imp ?_)
                  intro d3 M3 r3 H3 L3 S3 h3 v3 Rv3
                  exact ⟨r3, M3, (L2.trans L3), S3, h3⟩
                · intro s' H2 J ⟨r2, M2, L2, S2, h2⟩
                  refine wpAt_of_wpAny (wpAny_mono (HR.ru _ T δ M2 _ r2 H2 _ S2 (EO.le L2) h2 [] s' J) (fun fl s'' h => ?_) fun e s' h => h)
                  cases fl with
                  | ret u => obtain ⟨v, σ, H', J, r1, q1⟩ := h; exact done J r1 q1
                  | next => obtain ⟨σ, H', J, q1⟩ := h; exact done (v := .non) (u := .none) J rfl q1
                  | brk => obtain ⟨_, _, _, z⟩ := h; exact z.elim
                  | cont => obtain ⟨_, _, _, z⟩ := h; exact z.elim
                · exact fun e s' h => h
            | _ => exact P2.elim
      | _ => exact P2.elim
end
end Iv
/-! Own classes: attributes stored, methods called. -/
namespace Iv
open PySem PySem.Spec PyProof.Rows L2 NdefX ClX

/-! ### x.f = e, x a cell -/
def putN (f : Str) : List Str → List Str
  | [] => [f]
  | g :: r => if g = f then g :: r else g :: putN f r
def putV (f : Str) (y : D) : List Str → List D → List D
  | g :: r, v :: vs => if g = f then y :: vs else v :: putV f y r vs
  | _, _ => [y]
theorem putN_ok (f : Str) (v : V) : ∀ fs : List (Str × V), (putF f v fs).map (·.1) = putN f (fs.map (·.1))
  | [] => rfl
  | (g, x) :: r => by
    unfold putF
    show _ = putN f (g :: r.map (·.1))
    unfold putN
    by_cases h : g = f
    · rw [if_pos h, if_pos h]; rfl
    · rw [if_neg h, if_neg h, List.map_cons, putN_ok f v r]
section
variable {G : Gd} {r : List Addr} {H : Hp}
theorem putV_ok {f : Str} {v : V} {d : D} (h : Rep G r H v d) : ∀ {fs : List (Str × V)} {ds : List D}, Reps G r H (fs.map (·.2)) ds → Reps G r H ((putF f v fs).map (·.2)) (putV f d (fs.map (·.1)) ds)
  | [], _, .nil => .cons h .nil
  | (g, x) :: fs, _, .cons q qs => by
    unfold putF
    show Reps G r H _ (putV f d (g :: fs.map (·.1)) _)
    unfold putV
    by_cases e : g = f
    · rw [if_pos e, if_pos e]; exact .cons h qs
    · rw [if_neg e, if_neg e]; exact .cons q (putV_ok h qs)
end
def setFM (kf : Nat → Str → Bool) (f : Str) (y x : D) : Ev Unit := fun M => match x with
  | .cell n => match M[n]? with
    | some (.ins c ns vs) => if kf c f && Nat.blt ns.length 1000 then .ok () (M.set n (.ins c (putN f ns) (putV f y ns vs))) else .stk
    | _ => .stk
  | _ => .stk
def dSetF (kf : Nat → Str → Bool) (f : Str) (o e : DE) : DS := fun δ => lft (bnd (e δ) fun y => bnd (o δ) fun x => setFM kf f y x) δ fun _ => ret (.nx δ)
section
variable {G : Gd} {X : Cx}
theorem SS.setF {kf : Nat → Str → Bool} (k : KfOk G kf) (hK : G.K = X.K) {o e : Expr} {f : Str} {pos pos' : Pos} {mo me : DE} (ho : SE G X o mo) (he : SE G X e me) (hs : swapsWith e (some (.Attribute o f pos')) pos.line X.env = pure false) :
    SS G X (.Assign [.Attribute o f pos'] e pos) (dSetF kf f mo me) := by
  refine ⟨?_⟩
  intro W tk δ M σ r H E S ev p
  refine (ps_fld (peW o) (peW e) hs).ws ?_
  refine he.ru W tk δ M σ r H _ S ev ((p.lft ev).bnd.imp ?_)
  intro y M1 r1 H1 L1 S1 h1 v Rv
  refine ho.ru W tk δ M1 σ r1 H1 _ S1 (ev.le L1) (h1.bnd.imp ?_)
  intro x M2 r2 H2 L2 S2 h2 u Ru
  unfold setFM at h2
  cases Ru with
  | cell hn =>
    rename_i a n
    dsimp only at h2
    cases em : M2[n]? with
    | none => rw [em] at h2; exact h2.elim
    | some d =>
      rw [em] at h2
      have CA := S2.at_ n a d hn em
      cases d with
      | ins c ns vs =>
        obtain ⟨dx, fs, ea, rfl, Rs, hc⟩ := CA
        dsimp only at h2
        cases cn : (kf c f && Nat.blt (fs.map (·.1)).length 1000) with
        | false => rw [cn, if_neg (by simp)] at h2; exact h2.elim
        | true =>
          rw [cn, if_pos rfl] at h2
          rw [Bool.and_eq_true] at cn
          obtain ⟨c1, c2⟩ := cn
          have c3 : fs.length < 1000 := by rw [← List.length_map (f := (·.1)) (as := fs)]; exact Nat.blt_eq.mp c2
          obtain ⟨KC, KN⟩ := k.ins c f c1 hc
          obtain ⟨L3, S3⟩ := S2.write (o := .ins (G.cls c) dx (putF f v fs)) (d := .ins c (putN f (fs.map (·.1))) (putV f y (fs.map (·.1)) vs)) hn ea fun l => ⟨dx, putF f v fs, upd_same, (putN_ok f v fs).symm, putV_ok (Rv.le (L2.trans l)) (Rs.le l), hc⟩
          exact ⟨a, G.cls c, dx, fs, rfl, ea, hK ▸ KC, hK ▸ KN, c3, h2 r2 _ L3 S3 r2 _ S3.le S3 σ ((ev.le (L1.trans L2)).le L3)⟩
      | _ => exact h2.elim
  | _ => exact h2.elim
end
/-! ### o.m(..) -/
theorem lookup_no {m : Str} : ∀ {fs : List (Str × V)}, (fs.map (·.1)).contains m = false → fs.lookup m = none
  | [], _ => rfl
  | (g, x) :: r, h => by
    rw [List.map_cons, List.contains_cons, Bool.or_eq_false_iff] at h
    show (match m == g with | true => some x | false => r.lookup m) = none
    rw [h.1]
    exact lookup_no h.2
def dMet (tab : Nat → Option (List D → Ev D)) (m : Str) (o : DE) (a : DA) : DE := fun δ => bnd (o δ) fun x M => match valD M x with
  | .ins c ns _ => match tab c with
    | some g => if ns.contains m then .stk else bnd (a δ) (fun ds => g (x :: ds)) M
    | none => .stk
  | _ => .stk
structure MtOk (G : Gd) (X : Cx) (k : Nat) (m : Str) (tab : Nat → Option (List D → Ev D)) : Prop where
  at_ : ∀ c g, tab c = some g → isEx c = false ∧ Cls G.K (G.cls c) ∧ ∃ f, Meth G.K (G.cls c) m f ∧ FnA G X.prog X.w X.mg X.base k f okP g
section
variable {G : Gd} {r : List Addr} {H : Hp} {M : List D}
/-- an instance, by value or a cell -/
theorem val_ins (S : StOk G r M H) {v : V} {x : D} {c : Nat} {ns : List Str} {vs : List D} (h : Rep G r H v x) (e : valD M x = .ins c ns vs) (hc : isEx c = false) : ∃ a dx fs, v = .ref a ∧ H a = some (.ins (G.cls c) dx fs) ∧ ns = fs.map (·.1) ∧ Reps G r H (fs.map (·.2)) vs := by
  cases h with
  | ins h0 h1 h2 => cases e; exact ⟨_, _, _, rfl, (off_some.mp h1).2, rfl, h2⟩
  | exn h0 => cases e; rw [hc] at h0; cases h0
  | exn0 h0 => cases e; rw [hc] at h0; cases h0
  | cell h1 =>
    rename_i a n
    have e' : (match M[n]? with | some o => o | none => D.cell n) = D.ins c ns vs := e
    cases em : M[n]? with
    | none => rw [em] at e'; cases e'
    | some o =>
      rw [em] at e'
      have e2 : o = .ins c ns vs := e'
      subst e2
      obtain ⟨dx, fs, q1, q2, q3, _⟩ := S.at_ n a _ h1 em
      exact ⟨a, dx, fs, rfl, q1, q2, q3⟩
  | _ => cases e
end
section
variable {G : Gd} {X : Cx}
theorem met_run {k : Nat} {m : Str} {tab : Nat → Option (List D → Ev D)} (T : MtOk G X k m tab) {ma : DA} {W : WX} {δ : DEnv} {M1 : List D} {σ : L2.St} {r1 : List Addr} {H1 : Hp} {Q : VK} {x : D} {v : V}
    (S1 : StOk G r1 M1 H1) (Rv : Rep G r1 H1 v x)
    (h1 : Post G W σ (JE G Q) r1 H1 (match valD M1 x with
      | .ins c ns _ => match tab c with
        | some g => if ns.contains m then .stk else bnd (ma δ) (fun ds => g (x :: ds)) M1
        | none => .stk
      | _ => .stk)) :
    ∃ a dx fs c f g, v = .ref a ∧ H1 a = some (.ins (G.cls c) dx fs) ∧ fs.lookup m = none ∧ Cls G.K (G.cls c) ∧ Meth G.K (G.cls c) m f ∧ FnA G X.prog X.w X.mg X.base k f okP g ∧
      Post G W σ (JE G Q) r1 H1 (bnd (ma δ) (fun ds => g (x :: ds)) M1) := by
  cases ed : valD M1 x with
  | ins c ns vs =>
    rw [ed] at h1
    dsimp only at h1
    cases et : tab c with
    | none => rw [et] at h1; exact h1.elim
    | some g =>
      rw [et] at h1
      dsimp only at h1
      cases ec : ns.contains m with
      | true => rw [ec, if_pos rfl] at h1; exact h1.elim
      | false =>
        rw [ec, if_neg (by simp)] at h1
        obtain ⟨hc, KC, f, hm, F⟩ := T.at_ c g et
        obtain ⟨a, dx, fs, rfl, ea, rfl, Rs⟩ := val_ins S1 Rv ed hc
        exact ⟨a, dx, fs, c, f, g, rfl, ea, lookup_no ec, KC, hm, F, h1⟩
  | _ => rw [ed] at h1; exact h1.elim
theorem SE.met {k : Nat} {m : Str} {tab : Nat → Option (List D → Ev D)} (T : MtOk G X k m tab) (hK : G.K = X.K) (hr : Room k X.A) (hgd : X.A.guards = some []) {o e : Expr} {es : List Expr} {apos pos : Pos} {mo : DE} {ma : DA} {pl : Sem Bool} (ho : SE G X o mo) (ha : SA G X (e :: es) ma)
    (hst : starEach (e :: es) X.env = (false, eval e X.env) :: starEach es X.env) (hpl : (backTo pos (starEach es X.env)).any (·.1) = false)
    (ht : eval (.Call (.Attribute o m apos) (e :: es) [] pos) X.env = (do
      let ov ← eval o X.env
      standAt apos.atName
      let (f, first) ← holding [ov] (getMethod ov m pl)
      callWith pos f first (backTo pos (starEach (e :: es) X.env)) (backToKw pos (keywordEach [] X.env)))) : SE G X (.Call (.Attribute o m apos) (e :: es) [] pos) (dMet tab m mo ma) := by
  refine ⟨?_⟩
  intro W tk δ M σ r H Q S ev p pins s I
  have hA : WE X o σ H fun v H1 => ∃ a dx fs c f, v = .ref a ∧ H1 a = some (.ins (G.cls c) dx fs) ∧ fs.lookup m = none ∧ Cls G.K (G.cls c) ∧ Meth G.K (G.cls c) m f ∧
      WA X (e :: es) σ H1 (fun vs H2 => ∀ (pins : List (Addr × Obj)) (s : Shared) (us : List Value), Inv X pins σ H2 s → Vals vs us → wpAny (model X.prog X.w) X.A (PySem.call (.ref f) (.ref a :: us)) (EP X pins σ Q) X.xe s) := by
    refine ho.ru W tk δ M σ r H _ S ev (p.bnd.imp ?_)
    intro x M1 r1 H1 L1 S1 h1 v Rv
    obtain ⟨a, dx, fs, c, f, g, rfl, ea, l, KC, hm, F, h2⟩ := met_run T S1 Rv h1
    refine ⟨a, dx, fs, c, f, rfl, ea, l, KC, hm, ?_⟩
    refine ha.ru W tk δ M1 σ r1 H1 _ S1 (ev.le L1) (h2.bnd.imp ?_)
    intro ds M2 r2 H2 L2 S2 h3 ws Rw pins s us I rv
    exact F.call hr hgd hK tk I rfl (show Vals (V.ref a :: ws) (Value.ref a :: us) from .cons rfl rv) S2 (.cons (Rv.le L2) Rw) h3
  refine PySem.W.methodCall_KW (pl := pl) (thn (hA pins s I) fun u s1 ⟨x, H1, I1, rx, a, dx, fs, c, f, ex, ea, l, KC, hm, q⟩ => ?_) ht
  subst ex
  obtain rfl : u = Value.ref a := rx
  refine getmeth_ok I1 ea (hK ▸ KC) (hK ▸ hm) l ?_
  exact PySem.W.callWith_K (first := [.ref a]) (h₀ := X.base) I.ok.mod.kin (hK ▸ hm.kp) (thn (q pos pins s1 I1) fun us s2 ⟨vs, H2, I2, rv, q2⟩ => ⟨I2.kIn, q2 pins s2 us I2 rv⟩) hst hpl
theorem SE.met0 {k : Nat} {m : Str} {tab : Nat → Option (List D → Ev D)} (T : MtOk G X k m tab) (hK : G.K = X.K) (hr : Room k X.A) (hgd : X.A.guards = some []) {o : Expr} {apos pos : Pos} {mo : DE} {pl : Sem Bool} (ho : SE G X o mo)
    (ht : eval (.Call (.Attribute o m apos) [] [] pos) X.env = (do
      let ov ← eval o X.env
      standAt apos.atName
      let (f, first) ← holding [ov] (getMethod ov m pl)
      callWith pos f first (backTo pos (starEach [] X.env)) (backToKw pos (keywordEach [] X.env)))) : SE G X (.Call (.Attribute o m apos) [] [] pos) (dMet tab m mo dNil) := by
  refine ⟨?_⟩
  intro W tk δ M σ r H Q S ev p pins s I
  have hA : WE X o σ H fun v H1 => ∃ a dx fs c f, v = .ref a ∧ H1 a = some (.ins (G.cls c) dx fs) ∧ fs.lookup m = none ∧ Cls G.K (G.cls c) ∧ Meth G.K (G.cls c) m f ∧
      ∀ (pins : List (Addr × Obj)) (s : Shared), Inv X pins σ H1 s → wpAny (model X.prog X.w) X.A (PySem.call (.ref f) [.ref a]) (EP X pins σ Q) X.xe s := by
    refine ho.ru W tk δ M σ r H _ S ev (p.bnd.imp ?_)
    intro x M1 r1 H1 L1 S1 h1 v Rv
    obtain ⟨a, dx, fs, c, f, g, rfl, ea, l, KC, hm, F, h2⟩ := met_run T S1 Rv h1
    refine ⟨a, dx, fs, c, f, rfl, ea, l, KC, hm, fun pins s I => ?_⟩
    exact F.call hr hgd hK tk I rfl (show Vals [V.ref a] [Value.ref a] from .cons rfl .nil) S1 (.cons Rv .nil) h2
  refine PySem.W.methodCall_KW (pl := pl) (thn (hA pins s I) fun u s1 ⟨x, H1, I1, rx, a, dx, fs, c, f, ex, ea, l, KC, hm, q⟩ => ?_) ht
  subst ex
  obtain rfl : u = Value.ref a := rx
  refine getmeth_ok I1 ea (hK ▸ KC) (hK ▸ hm) l ?_
  exact PySem.W.callWith_K0 (first := [.ref a]) I1.kIn (hK ▸ hm.kp) (q pins s1 I1)
end
/-! ### defaults -/
theorem FnS.p {G : Gd} {P : Program} {w : World} {mg : Str → Option Value} {base : Heap} {k : Nat} {f : Addr} {fd : FuncData} {ps : List Str} {g : List D → Ev D} (F : FnS G P w mg base k f fd ps g) {dvs : List V} {dv : List Value} {dd : List D}
    (hb : Binds G.K fd ps dv) (hd : Vals dvs dv) (hdd : ∀ r H, Reps G r H dvs dd) : FnA G P w mg base k f okP (fun ds => if ds.length + dd.length = ps.length then g (ds ++ dd) else stuck) := by
  intro A outer s H args us vs ds r M Q E hr hgd e0 ok rv S Rs p
  obtain rfl : args = ⟨us, []⟩ := ok
  by_cases c : ds.length + dd.length = ps.length
  · simp only [if_pos c] at p
    have hl : (us ++ dv).length = ps.length := by rw [List.length_append, ← rv.length, Rs.length, ← hd.length, (hdd r H).length]; exact c
    have inK : G.K.In s.heap := e0.mod.kin.keeps fun b o e => (e0.bs b o e).1
    exact F A outer s H ⟨us, []⟩ (us ++ dv) (vs ++ dvs) (ds ++ dd) r M Q E hr hgd e0 (hb s us inK hl) (rv.append hd) (by rw [List.length_append, Rs.length, (hdd r H).length]; exact c) S (Rs.append (hdd r H)) p
  · simp only [if_neg c] at p
    exact p.elim
end Iv
/-! == and != by an own __eq__. -/
namespace Iv
open PySem PySem.Spec PyProof.Rows L2 NdefX ClX

section
variable {prog : Program} {w : World} {A : Around} {E : Value → Shared → Prop} {s : Shared} {K : PySem.W.Frag} {x y C C' f : Addr} {ox oy : Obj} {od od' : Option Obj} {b tb : Value}
/-- the left one first -/
theorem cmpL {op : CmpOp} {Q : Value → Shared → Prop} (hu : A.units < cLine) (X : K.In s.heap) (I : PySem.W.InstAt s.heap x ox C od) (hb : PySem.W.Looks (model prog w) s.heap (typeOf b) tb) (hn : tb = .ref C ∨ PySem.W.Looks (model prog w) s.heap (isSubtype tb (.ref C)) false)
    (h : wpAny (model prog w) A (tryCompare (.ref x) (cmpInfo op).2.1 b) (fun r s' => ∃ v, r = some v ∧ Q v s') E s) : wpAny (model prog w) A (richCompare op (.ref x) b) Q E s := by
  unfold richCompare
  simp only [oneThing_ref]
  refine wpAny_holding (wpAny_bind (wpAny_cRoomFor hu ?_))
  refine wpAny_bind (I.type.here (wpAny_bind (hb.here ?_)))
  split
  · rename_i q
    have e : PySem.W.Looks (model prog w) s.heap (isSubtype tb (.ref C)) false := by
      rcases hn with e | e
      · rw [e] at q; simp at q
      · exact e
    refine wpAny_bind (e.here ?_)
    simp only [Bool.false_eq_true, if_false]
    refine wpAny_bind (wpAny_mono h (fun r s' z => ?_) fun _ _ e => e)
    obtain ⟨v, rfl, hq⟩ := z
    exact wpAny_pure hq
  · refine wpAny_bind (wpAny_pure ?_)
    simp only [Bool.false_eq_true, if_false]
    refine wpAny_bind (wpAny_mono h (fun r s' z => ?_) fun _ _ e => e)
    obtain ⟨v, rfl, hq⟩ := z
    exact wpAny_pure hq
/-- the right one first: its class is below the left one's -/
theorem cmpR {op : CmpOp} {Q : Value → Shared → Prop} (hu : A.units < cLine) (X : K.In s.heap) (I : PySem.W.InstAt s.heap x ox C od) (J : PySem.W.InstAt s.heap y oy C' od') (hne : C ≠ C') (hs : PySem.W.Looks (model prog w) s.heap (isSubtype (.ref C') (.ref C)) true)
    (h : wpAny (model prog w) A (tryCompare (.ref y) (cmpInfo op).2.2 (.ref x)) (fun r s' => ∃ v, r = some v ∧ Q v s') E s) : wpAny (model prog w) A (richCompare op (.ref x) (.ref y)) Q E s := by
  unfold richCompare
  simp only [oneThing_ref]
  refine wpAny_holding (wpAny_bind (wpAny_cRoomFor hu ?_))
  refine wpAny_bind (I.type.here (wpAny_bind (J.type.here ?_)))
  rw [if_pos (by simp [hne])]
  refine wpAny_bind (hs.here ?_)
  simp only [if_true]
  refine wpAny_bind (wpAny_mono h (fun r s' z => ?_) fun _ _ e => e)
  obtain ⟨v, rfl, hq⟩ := z
  exact wpAny_bind (wpAny_rule (wpAny_pure hq))
/-- an own method of the class answers -/
theorem tryOwn {name : Str} {Q : Value → Shared → Prop} (X : K.In s.heap) (I : PySem.W.InstAt s.heap x ox C od) (hs : PySem.W.findIn K (.ref C) name = some (some (.ref f))) (hf : PySem.W.isFn K (.ref f) = true)
    (h : wpAny (model prog w) A (call (.ref f) [.ref x, b]) (fun v s' => ∃ k, v = .bool k ∧ Q (.bool k) s') E s) : wpAny (model prog w) A (tryCompare (.ref x) name b) (fun r s' => ∃ v, r = some v ∧ Q v s') E s := by
  unfold tryCompare
  refine wpAny_bind (PySem.W.ifBound_K X I hs hf (wpAny_mono h (fun v s' hv => ?_) fun _ _ e => e))
  obtain ⟨k, rfl, q⟩ := hv
  exact wpAny_pure ⟨_, rfl, q⟩
theorem ifBoundB {M : Model} {name : Str} {id : String} {args : List Value} {Q : Option Value → Shared → Prop} (X : K.In s.heap) (I : PySem.W.InstAt s.heap x ox C od) (hn : PySem.W.findIn K (.ref C) name = some (some (.builtin id))) (hb : ∀ v : Value, bindSpecial (.builtin id) v = pure (.builtin id, [v]))
    (h : wpAny M A (call (.builtin id) (.ref x :: args)) (fun v => Q (some v)) E s) : wpAny M A (callSpecialIfBound? (.ref x) name args) Q E s := by
  simp only [callSpecialIfBound?, bindSpecialIfBound?]
  refine wpAny_holding (wpAny_bind (wpAny_bind (wpAny_bind (I.type.here ((PySem.W.looks_findIn X hn).here ?_)))))
  refine wpAny_bind (wpAny_askSetting (wpAny_ite ?_))
  have fin : wpAny M A (call (.builtin id) ([.ref x] ++ args) >>= fun v => pure (some v)) Q E s := wpAny_bind (wpAny_mono h (fun v s' h' => wpAny_pure h') fun _ _ h' => h')
  simp only [hb]
  split
  · exact wpAny_bind (wpAny_pure (wpAny_pure (by exact fin)))
  · exact wpAny_tryCatch (wpAny_bind (wpAny_pure (wpAny_pure (by exact fin))))
theorem check_slotK {M : Model} {id owner n : String} {rest : List Value} {Q : Unit → Shared → Prop} (hk : builtinKind id = some .slot) (hs : splitId id = some (owner, n)) (ha : argsOk id ⟨.ref x :: rest, []⟩)
    (hI : PySem.W.Looks M s.heap (isInstance (.ref x) (.type owner)) true) (hq : Q () s) : wpAny M A (checkBuiltinCall id ⟨.ref x :: rest, []⟩) Q E s := by
  simp only [checkBuiltinCall, hk, hs]
  refine wpAny_bind (hI.here ?_)
  simp only [Bool.not_true, Bool.false_eq_true, if_false]
  cases hsig : Manifest.signature? id with
  | none => exact wpAny_pure hq
  | some sig =>
    simp only [argsOk, hsig] at ha
    have h2 : Bind.checkArgs id sig ⟨.ref x :: rest, []⟩ = pure () := ha
    show wpAny M A (Bind.checkArgs id sig ⟨.ref x :: rest, []⟩) Q E _
    rw [h2]; exact wpAny_pure hq
/-- object's __ne__: the own __eq__, turned -/
theorem tryNe {Q : Value → Shared → Prop} (hu : A.units + 1 < cLine) (X : K.In s.heap) (I : PySem.W.InstAt s.heap x ox C od) (hn : PySem.W.findIn K (.ref C) "__ne__" = some (some (.builtin "object.__ne__"))) (hm : PySem.W.mroIn K C (.type "object") = some true)
    (hs : PySem.W.findIn K (.ref C) "__eq__" = some (some (.ref f))) (hf : PySem.W.isFn K (.ref f) = true)
    (h : wpAny (model prog w) A.in1 (call (.ref f) [.ref x, b]) (fun v s' => ∃ k, v = .bool k ∧ Q (.bool (!k)) s') E s) : wpAny (model prog w) A (tryCompare (.ref x) "__ne__" b) (fun r s' => ∃ v, r = some v ∧ Q v s') E s := by
  have S := PySem.F.cmp_object.ne
  have hI : PySem.W.Looks (model prog w) s.heap (isInstance (.ref x) (.type "object")) true := I.type.andThen (PySem.W.looks_mroIn X hm)
  unfold tryCompare
  refine wpAny_bind (ifBoundB X I hn (fun v => S.bind v) (wpAny_call (codeAny_call_builtin S.plain PySem.F.cmpEntry_ne (check_slotK PySem.F.cmpKind_ne PySem.F.cmpSplit_ne (PySem.F.cmpArgs_ne _ _) hI ?_))))
  have body : wpAny (model prog w) A.in1 (Builtin.«object.__ne__» ⟨[.ref x, b], []⟩) (fun fin s' => ∃ k : Bool, fin = .done (.ret (.bool k)) ∧ Q (.bool k) s') E s := by
    unfold Builtin.«object.__ne__»
    obtain ⟨hh, g, d, t, os⟩ := s
    have hu1 : A.in1.units < cLine := hu
    repeat (first
      | with_reducible refine wpAny_cRoomFor hu1 ?_
      | (refine wpAny_bind (m := callSpecialIfBound? (.ref x) (Str.ofString "__eq__") [b])
          (PySem.W.ifBound_K X I hs hf (wpAny_mono h (fun r s' hr => by
            obtain ⟨k, rfl, hq⟩ := hr
            repeat (first | exact ⟨_, rfl, hq⟩ | exact wpAny_pure ⟨_, rfl, hq⟩ | (refine wpAny_bind (m := truthy (.bool _)) (wpAny_truthy_bool ?_)) | wp_step)) fun _ _ e => e)))
      | wp_step)
  refine wpAny_mono body (fun fin s' ⟨k, e, q⟩ => ?_) fun _ _ e => e
  subst e
  exact wpAny_pure ⟨_, rfl, q⟩
end
end Iv
/-! == and != of data, own __eq__ among it. -/
namespace Iv
open PySem PySem.Spec PyProof.Rows L2 NdefX ClX

def blR (m : Ev D) : Ev D := bnd m fun d => match d with
  | .bl b => ret (.bl b)
  | _ => stuck
def ntR (m : Ev D) : Ev D := bnd m fun d => match d with
  | .bl b => ret (.bl (!b))
  | _ => stuck
/-- which __eq__ answers: of the right one, if its class is below the left one's; with which arguments -/
def pickEq (kt : Kt) (tab : Nat → Option (List D → Ev D)) (c : Nat) (t : Ty) (x y : D) : Ev D := match tab c with
  | none => stuck
  | some g => if t = .o c then g [x, y] else match kt.sub t (.o c) with
    | some false => g [x, y]
    | some true => match t with
      | .o c' => match tab c' with
        | some g' => g' [y, x]
        | none => stuck
      | _ => stuck
    | none => stuck
def eqI (kt : Kt) (tab : Nat → Option (List D → Ev D)) (x y : D) : Ev D := fun M => match valD M x with
  | .ins c _ _ => match tyD kt (valD M y) with
    | some t => blR (pickEq kt tab c t x y) M
    | none => .stk
  | _ => pureO eqO x y M
def neI (kt : Kt) (tab : Nat → Option (List D → Ev D)) (x y : D) : Ev D := fun M => match valD M x with
  | .ins c _ _ => match tyD kt (valD M y) with
    | some t => ntR (pickEq kt tab c t x y) M
    | none => .stk
  | _ => pureO neO x y M
structure EqOk (G : Gd) (X : Cx) (k : Nat) (tab : Nat → Option (List D → Ev D)) : Prop where
  at_ : ∀ c g, tab c = some g → isEx c = false ∧ PySem.W.findIn G.K (.ref (G.cls c)) "__ne__" = some (some (.builtin "object.__ne__")) ∧ PySem.W.mroIn G.K (G.cls c) (.type "object") = some true ∧
    ∃ f : Addr, PySem.W.findIn G.K (.ref (G.cls c)) "__eq__" = some (some (.ref f)) ∧ PySem.W.isFn G.K (.ref f) = true ∧ FnA G X.prog X.w X.mg X.base k f okP g
  ne : ∀ c c' g g', tab c = some g → tab c' = some g' → c' ≠ c → G.cls c ≠ G.cls c'
section
variable {G : Gd} {X : Cx} {k : Nat} {f : Addr} {ok : Shared → Args → List Value → Prop} {g : List D → Ev D}
theorem FnA.callA (F : FnA G X.prog X.w X.mg X.base k f ok g) {A : Around} (hfr : A.frames = X.A.frames) (hr : Room k A) (hgd : A.guards = some []) (hK : G.K = X.K) {W : WX} (tk : Takes X W) {pins : List (Addr × Obj)} {σ : L2.St} {H : Hp} {s : Shared} {Q : VK} {us : List Value} {kw : List (Str × Value)} {as : List Value} {vs : List V} {ds : List D} {r : List Addr} {M : List D}
    (I : Inv X pins σ H s) (hb : ok s ⟨as, kw⟩ us) (rv : Vals vs us) (S : StOk G r M H) (Rs : Reps G r H vs ds) (p : Post G W σ (JE G Q) r H (g ds M)) :
    wpAny (model X.prog X.w) A (PySem.call (.ref f) as kw) (EP X pins σ Q) X.xe s := by
  have p' : Post G (fun c d _ H' => W c d σ H') [] (JE G Q) r H (g ds M) := by
    cases e : g ds M with
    | ok d M' => rw [e] at p; exact p
    | exc d M' => rw [e] at p; exact p
    | stk => rw [e] at p; exact p
  have e0 : Env0 X.prog X.w X.K X.mg X.base A X.stack s H := by
    have e := I.env0
    exact ⟨by rw [hfr]; exact e.frames, e.mod, e.bs, e.bsz, e.funs, e.frf, e.hok, e.bare⟩
  rw [← hK] at e0
  refine wpAny_call (codeAny_mono (F A X.stack s H ⟨as, kw⟩ us vs ds r M Q (fun c d H' => W c d σ H') hr hgd e0 hb rv S Rs p') fun z s' h => ?_)
  cases z with
  | error e => exact tk e s' (XE.of_call (E := fun c d H' => W c d σ H') I (fun _ _ _ h => h) h)
  | ok fl =>
    cases fl with
    | ret u => exact I.after h
    | next => exact h.elim
    | brk => exact h.elim
    | cont => exact h.elim
theorem Post.bl {W : WX} {σ : L2.St} {r : List Addr} {H : Hp} {M : List D} {m : Ev D} {Q : VK} (p : Post G W σ (JE G Q) r H (blR m M)) : Post G W σ (JE G (fun v H' => ∃ b, v = .bl b ∧ Q (.bl b) H')) r H (m M) := by
  refine (Post.bnd p).imp ?_
  intro d M1 r1 H1 L1 S1 h v R
  cases d with
  | bl b => cases R; exact ⟨b, rfl, h r1 H1 S1.le S1 _ .bl⟩
  | _ => exact h.elim
theorem Post.nt {W : WX} {σ : L2.St} {r : List Addr} {H : Hp} {M : List D} {m : Ev D} {Q : VK} (p : Post G W σ (JE G Q) r H (ntR m M)) : Post G W σ (JE G (fun v H' => ∃ b, v = .bl b ∧ Q (.bl (!b)) H')) r H (m M) := by
  refine (Post.bnd p).imp ?_
  intro d M1 r1 H1 L1 S1 h v R
  cases d with
  | bl b => cases R; exact ⟨b, rfl, h r1 H1 S1.le S1 _ .bl⟩
  | _ => exact h.elim
end
section
variable {G : Gd} {X : Cx} {k : Nat} {kt : Kt} {tab : Nat → Option (List D → Ev D)}
theorem one_run (hK : G.K = X.K) (hr : Room (k + 1) X.A) (hgd : X.A.guards = some []) {W : WX} (tk : Takes X W) {op : CmpOp} (hop : op = .Eq ∨ op = .NotEq) {pins : List (Addr × Obj)} {σ : L2.St} {H : Hp} {s : Shared} {Q : VK} {x y : V} {d d' : D} {v : Value} {r : List Addr} {M : List D}
    {c : Nat} {a f : Addr} {g : List D → Ev D} {ox : Obj} {od : Option Obj} (I : Inv X pins σ H s) (S : StOk G r M H) (XI : G.K.In s.heap) (J : PySem.W.InstAt s.heap a ox (G.cls c) od) (hne : PySem.W.findIn G.K (.ref (G.cls c)) "__ne__" = some (some (.builtin "object.__ne__"))) (hm : PySem.W.mroIn G.K (G.cls c) (.type "object") = some true)
    (hs : PySem.W.findIn G.K (.ref (G.cls c)) "__eq__" = some (some (.ref f))) (hf : PySem.W.isFn G.K (.ref f) = true) (F : FnA G X.prog X.w X.mg X.base k f okP g) (Rx : Rep G r H x d) (Ry : Rep G r H y d') (ex : x = .ref a) (ry : RelV y v)
    (p : Post G W σ (JE G (fun w H' => ∃ b, w = .bl b ∧ Q (.bl (if op = .Eq then b else !b)) H')) r H (g [d, d'] M)) : wpAny (model X.prog X.w) X.A (tryCompare (.ref a) (cmpInfo op).2.1 v) (fun r s' => ∃ w, r = some w ∧ EP X pins σ Q w s') X.xe s := by
  subst ex
  have un : X.A.units + 1 < cLine := by have := hr.un; omega
  rcases hop with rfl | rfl
  · have z := F.callA (A := X.A) rfl (hr.mono (Nat.le_succ _)) hgd hK tk I rfl (show Vals [V.ref a, y] [Value.ref a, v] from .cons rfl (.cons ry .nil)) S (.cons Rx (.cons Ry .nil)) p
    refine tryOwn XI J hs hf (wpAny_mono z (fun w s' h => ?_) fun _ _ e => e)
    obtain ⟨z, H', I', rz, b, ez, q⟩ := h
    subst ez
    cases rz
    exact ⟨b, rfl, .bl b, H', I', rfl, q⟩
  · have z := F.callA (A := X.A.in1) rfl hr.in1 hgd hK tk I rfl (show Vals [V.ref a, y] [Value.ref a, v] from .cons rfl (.cons ry .nil)) S (.cons Rx (.cons Ry .nil)) p
    refine tryNe un XI J hne hm hs hf (wpAny_mono z (fun w s' h => ?_) fun _ _ e => e)
    obtain ⟨z, H', I', rz, b, ez, q⟩ := h
    subst ez
    cases rz
    exact ⟨b, rfl, .bl (!b), H', I', rfl, q⟩
/-- the call that answers -/
theorem pick_run (T : EqOk G X k tab) (kk : KtOk G kt) (hK : G.K = X.K) (hr : Room (k + 1) X.A) (hgd : X.A.guards = some []) {W : WX} (tk : Takes X W) {op : CmpOp} (hop : op = .Eq ∨ op = .NotEq) {pins : List (Addr × Obj)} {σ : L2.St} {H : Hp} {s : Shared} {Q : VK} {x y : V} {d d' : D} {u v : Value} {r : List Addr} {M : List D}
    {c : Nat} {ns : List Str} {vs : List D} {t : Ty} (I : Inv X pins σ H s) (S : StOk G r M H) (Rx : Rep G r H x d) (Ry : Rep G r H y d') (rx : RelV x u) (ry : RelV y v) (ed : valD M d = .ins c ns vs) (et : tyD kt (valD M d') = some t)
    (p : Post G W σ (JE G (fun w H' => ∃ b, w = .bl b ∧ Q (.bl (if op = .Eq then b else !b)) H')) r H (pickEq kt tab c t d d' M)) : wpAny (model X.prog X.w) X.A (richCompare op u v) (EP X pins σ Q) X.xe s := by
  have un : X.A.units + 1 < cLine := by have := hr.un; omega
  unfold pickEq at p
  cases eg : tab c with
  | none => rw [eg] at p; exact p.elim
  | some g =>
    rw [eg] at p
    dsimp only at p
    obtain ⟨hc, hne, hm, f, hs, hf, F⟩ := T.at_ c g eg
    obtain ⟨a, dx, fs, rfl, ea, rfl, Rs⟩ := val_ins S Rx ed hc
    cases rx
    obtain ⟨mA, O, _, _, _, _⟩ := ins_get I.hok ea
    obtain ⟨od, J, _⟩ := O.look
    have XI := I.kIn
    rw [← hK] at XI
    obtain ⟨P, Z, hP, _⟩ := kitY I ry (tyY_of kk hK S Ry et)
    have lb := Z.ty (model X.prog X.w) s.heap I.kIn hP
    have left : Post G W σ (JE G (fun w H' => ∃ b, w = .bl b ∧ Q (.bl (if op = .Eq then b else !b)) H')) r H (g [d, d'] M) → wpAny (model X.prog X.w) X.A (tryCompare (.ref a) (cmpInfo op).2.1 v) (fun r s' => ∃ w, r = some w ∧ EP X pins σ Q w s') X.xe s := fun p => one_run hK hr hgd tk hop I S XI J hne hm hs hf F Rx Ry rfl ry p
    by_cases e1 : t = .o c
    · rw [if_pos e1] at p
      exact cmpL (Nat.lt_of_succ_lt un) XI J lb (.inl (by rw [e1]; rfl)) (left p)
    · rw [if_neg e1] at p
      cases es : kt.sub t (.o c) with
      | none => rw [es] at p; exact p.elim
      | some b =>
        rw [es] at p
        have ko := kk.sub _ _ _ es
        unfold PySem.W.kitOne at ko
        by_cases e2 : (tyVal G t == tyVal G (.o c)) = true
        · rw [if_pos e2] at ko
          cases ko
          dsimp only at p
          cases t with
          | b n => exact p.elim
          | o c' =>
            dsimp only at p
            cases eg' : tab c' with
            | none => rw [eg'] at p; exact p.elim
            | some g' =>
              have e3 : c' ≠ c := fun z => e1 (by rw [z])
              have e4 : G.cls c' = G.cls c := by
                have := beq_iff_eq.mp e2
                exact Value.ref.inj this
              exact absurd e4.symm (T.ne c c' g g' eg eg' e3)
        · rw [if_neg e2] at ko
          have ls := (PySem.W.kit_cls (M := model X.prog X.w) (hK ▸ I.kIn : G.K.In s.heap) ko).2.2
          cases b with
          | false => exact cmpL (Nat.lt_of_succ_lt un) XI J lb (.inr ls) (left p)
          | true =>
            dsimp only at p
            cases t with
            | b n => exact p.elim
            | o c' =>
              dsimp only at p
              cases eg' : tab c' with
              | none => rw [eg'] at p; exact p.elim
              | some g' =>
                rw [eg'] at p
                dsimp only at p
                have e3 : c' ≠ c := fun z => e1 (by rw [z])
                obtain ⟨hc', hne', hm', f', hs', hf', F'⟩ := T.at_ c' g' eg'
                cases ed' : valD M d' with
                | ins c2 ns' vs' =>
                  rw [ed'] at et
                  have et' : (if kt.ok c2 then some (Ty.o c2) else none) = some (Ty.o c') := et
                  by_cases o2 : kt.ok c2 = true
                  · rw [if_pos o2] at et'
                    cases et'
                    obtain ⟨a', dx', fs', rfl, ea', rfl, Rs'⟩ := val_ins S Ry ed' hc'
                    cases ry
                    obtain ⟨mA', O', _, _, _, _⟩ := ins_get I.hok ea'
                    obtain ⟨od', J', _⟩ := O'.look
                    have z := one_run (v := .ref a) hK hr hgd tk hop I S XI J' hne' hm' hs' hf' F' Ry Rx rfl rfl p
                    refine cmpR (Nat.lt_of_succ_lt un) XI J J' (T.ne c c' g g' eg eg' e3) ls ?_
                    rcases hop with rfl | rfl
                    · exact z
                    · exact z
                  · rw [if_neg o2] at et'; cases et'
                | _ => rw [ed'] at et; cases et
theorem OpS.eqI (T : EqOk G X k tab) (kk : KtOk G kt) (hK : G.K = X.K) (hr : Room (k + 1) X.A) (hgd : X.A.guards = some []) (ho : OpP G X (compareOp .Eq) eqO) : OpS G X (compareOp .Eq) (eqI kt tab) := by
  intro W tk σ r M H x y d d' Q S h1 h2 p
  unfold Iv.eqI at p
  cases ed : valD M d with
  | ins c ns vs =>
    rw [ed] at p
    dsimp only at p
    cases et : tyD kt (valD M d') with
    | none => rw [et] at p; exact p.elim
    | some t =>
      rw [et] at p
      exact fun pins s v u I rx ry => pick_run T kk hK hr hgd tk (.inl rfl) I S h1 h2 rx ry ed et (Post.bl p)
  | _ => rw [ed] at p; exact ho.s W tk σ r M H x y d d' Q S h1 h2 p
theorem OpS.neI (T : EqOk G X k tab) (kk : KtOk G kt) (hK : G.K = X.K) (hr : Room (k + 1) X.A) (hgd : X.A.guards = some []) (ho : OpP G X (compareOp .NotEq) neO) : OpS G X (compareOp .NotEq) (neI kt tab) := by
  intro W tk σ r M H x y d d' Q S h1 h2 p
  unfold Iv.neI at p
  cases ed : valD M d with
  | ins c ns vs =>
    rw [ed] at p
    dsimp only at p
    cases et : tyD kt (valD M d') with
    | none => rw [et] at p; exact p.elim
    | some t =>
      rw [et] at p
      exact fun pins s v u I rx ry => pick_run T kk hK hr hgd tk (.inr rfl) I S h1 h2 rx ry ed et (Post.nt p)
  | _ => rw [ed] at p; exact ho.s W tk σ r M H x y d d' Q S h1 h2 p
end
end Iv
/-! Truth by an own __bool__. -/
namespace Iv
open PySem PySem.Spec PyProof.Rows L2 NdefX ClX

def truI (tab : Nat → Option (List D → Ev D)) (d : D) : Ev Bool := fun M => match valD M d with
  | .ins c _ _ => match tab c with
    | some g => bnd (g [d]) (fun r => match r with
      | .bl b => ret b
      | _ => stuck) M
    | none => .stk
  | _ => truO d M
structure BoOk (G : Gd) (X : Cx) (k : Nat) (tab : Nat → Option (List D → Ev D)) : Prop where
  at_ : ∀ c g, tab c = some g → isEx c = false ∧ ∃ f : Addr, PySem.W.findIn G.K (.ref (G.cls c)) "__bool__" = some (some (.ref f)) ∧ PySem.W.isFn G.K (.ref f) = true ∧ FnA G X.prog X.w X.mg X.base k f okP g
section
variable {G : Gd} {X : Cx} {k : Nat} {tab : Nat → Option (List D → Ev D)}
theorem tru_run (T : BoOk G X k tab) (hK : G.K = X.K) {A : Around} (hfr : A.frames = X.A.frames) (hr : Room k A) (hgd : A.guards = some []) {W : WX} (tk : Takes X W) {pins : List (Addr × Obj)} {σ : L2.St} {H : Hp} {s : Shared} {Q : Bool → Hp → Prop} {x : V} {d : D} {v : Value} {r : List Addr} {M : List D}
    {c : Nat} {ns : List Str} {vs : List D} {g : List D → Ev D} (I : Inv X pins σ H s) (S : StOk G r M H) (Rx : Rep G r H x d) (rx : RelV x v) (ed : valD M d = .ins c ns vs) (eg : tab c = some g)
    (p : Post G W σ (JT Q) r H (bnd (g [d]) (fun r => match r with
      | .bl b => ret b
      | _ => stuck) M)) : wpAny (model X.prog X.w) A (truthy v) (TP X pins σ Q) X.xe s := by
  obtain ⟨hc, f, hs, hf, F⟩ := T.at_ c g eg
  obtain ⟨a, dx, fs, rfl, ea, rfl, Rs⟩ := val_ins S Rx ed hc
  cases rx
  obtain ⟨mA, O, _, _, _, _⟩ := ins_get I.hok ea
  obtain ⟨od, J, _⟩ := O.look
  obtain ⟨m, hF⟩ := I.fr
  have p2 : Post G W σ (JE G (fun w H' => ∃ b, w = .bl b ∧ Q b H')) r H (g [d] M) := by
    refine (Post.bnd p).imp ?_
    intro z M1 r1 H1 L1 S1 h w R
    cases z with
    | bl b => cases R; exact ⟨b, rfl, h r1 H1 S1.le S1⟩
    | _ => exact h.elim
  have z := F.callA (A := A) hfr hr hgd hK tk I rfl (show Vals [V.ref a] [Value.ref a] from .cons rfl .nil) S (.cons Rx .nil) p2
  refine PySem.W.truthy_K hF I.ok.mod.kin J (hK ▸ hs) (hK ▸ hf) (wpAny_mono z (fun w s' h => ?_) fun _ _ e => e)
  obtain ⟨y, H', I', ry, b, ey, q⟩ := h
  subst ey
  cases ry
  exact ⟨H', I', q⟩
theorem TruS.truI (T : BoOk G X k tab) (hK : G.K = X.K) (hr : Room k X.A) (hgd : X.A.guards = some []) : TruS G X (truI tab) := by
  intro W tk σ r M H x d Q S h p
  unfold Iv.truI at p
  cases ed : valD M d with
  | ins c ns vs =>
    rw [ed] at p
    dsimp only at p
    cases eg : tab c with
    | none => rw [eg] at p; exact p.elim
    | some g =>
      rw [eg] at p
      exact fun pins s v I rx => tru_run T hK rfl hr hgd tk I S h rx ed eg p
  | _ => rw [ed] at p; exact TruS.pure hK W tk σ r M H x d Q S h p
end
end Iv
/-! bool(x), whatever its truth is told by. -/
namespace Iv
open PySem PySem.Spec PyProof.Rows L2 NdefX ClX

section
variable {prog : Program} {w : World} {A : Around} {E : Value → Shared → Prop} {s : Shared}
theorem bool_new {x : Value} {Q : Value → Shared → Prop} (h : wpAny (model prog w) A (truthy x) (fun b s' => Q (.bool b) s') E s) :
    wpAny (model prog w) A (Builtin.«bool.__new__» ⟨[.type "bool", x], []⟩) (fun fin s' => ∃ b, fin = .done (.ret (.bool b)) ∧ Q (.bool b) s') E s := by
  obtain ⟨hp, g, d, tk, os⟩ := s
  have f1 := F.conv_sub_bool
  unfold Builtin.«bool.__new__»
  repeat (any_goals (first | assumption | (refine wpAny_bind (m := truthy x) (wpAny_mono h (fun b s' q => ?_) fun _ _ e => e)) | wp_step))
  all_goals first | exact wpAny_pure ⟨_, rfl, q⟩ | exact ⟨_, rfl, q⟩ | skip
theorem call_boolT {x : Value} {Q : Value → Shared → Prop} (h : wpAny (model prog w) A.in1.in1 (truthy x) (fun b s' => Q (.bool b) s') E s) : wpAny (model prog w) A (call (.type "bool") [x]) Q E s := by
  have ft := F.called_bool
  have hct := F.typeCall_bool_1 x
  have hcn := F.newCall_bool_1 x
  obtain ⟨c, tl, hmro⟩ := ft.mro
  have hmade := ft.made
  have hsub := ft.sub
  refine wpAny_call (codeAny_of_tree ?_)
  show wpAny _ _ (callAny (.type "bool") _) _ _ _
  refine wpAny_pure ⟨Code.quiet_builtin _ (by decide +kernel), codeAny_builtin F.entry_type_call ?_⟩
  rw [Around.under_plain (weight_type_call_type "bool" [x] []) (units_type_call_type "bool" [x] [])]
  have h1 := ft.notType
  have h2 := ft.canCreate
  repeat (any_goals (first | assumption | wp_step))
  refine codeAny_mono (codeAny_call_builtin (R := wants (fun v s' => ∃ b, v = .bool b ∧ Q (.bool b) s') E) ft.plain F.entry_bool_new (wpAny_of_eq hcn (wpAny_mono (bool_new h) (fun fin s' q => ?_) fun _ _ e => e))) fun r s₁ hr => ?_
  · obtain ⟨b, rfl, q⟩ := q
    exact ⟨b, rfl, q⟩
  cases r with
  | error e => exact hr
  | ok fl =>
    cases fl with
    | ret obj =>
      obtain ⟨b, rfl, q⟩ := hr
      have hli := ft.init.lookup
      have hbi := ft.init.bind (.bool b)
      have hT : s₁.TypeIs (.bool b) "bool" := rfl
      repeat (any_goals (first | assumption | wp_step))
      have gi := object_init_meets (T := "bool") (newId := "bool.__new__") (self := .bool b) (rest := [x]) ft.init.lookup ft.made F.newNe_bool prog w A.in1 (wants (fun r s₂ => r = .none ∧ Q (.bool b) s₂) E) s₁ ⟨hT, rfl, q⟩
      refine codeAny_mono (codeAny_call_builtin ft.init.plain F.entry_object_init (ft.init.check _ _ _ _ _ _ _ _ hT (F.args_object_init_2 _ x) gi)) fun r₂ s₂ hr₂ => ?_
      cases r₂ with
      | error e => exact hr₂
      | ok fl₂ =>
        cases fl₂ with
        | ret r =>
          obtain ⟨rfl, hq⟩ := hr₂
          repeat (any_goals (first | assumption | wp_step))
        | _ => exact hr₂.elim
    | _ => exact hr.elim
end
end Iv
/-! bool(x) of data. -/
namespace Iv
open PySem PySem.Spec PyProof.Rows L2 NdefX ClX

def boolI (tab : Nat → Option (List D → Ev D)) : List D → Ev D := fun ds M => match ds with
  | [d] => match valD M d with
    | .ins _ _ _ => match truI tab d M with
      | .ok b M' => .ok (.bl b) M'
      | _ => .stk
    | .bl b => .ok (.bl b) M
    | .int i => .ok (.bl (i != 0)) M
    | _ => .stk
  | _ => .stk
theorem CaS.boolI {G : Gd} {X : Cx} {k : Nat} {tab : Nat → Option (List D → Ev D)} (T : BoOk G X k tab) (hK : G.K = X.K) (hr : Room (k + 2) X.A) (hgd : X.A.guards = some []) : CaS G X (.type "bool") (boolI tab) := by
  intro W tk σ r M H xs ds Q S hs p
  cases hs with
  | nil => exact p.elim
  | cons h1 hs =>
    cases hs with
    | cons _ _ => exact p.elim
    | nil =>
      rename_i v d
      unfold Iv.boolI at p
      dsimp only at p
      cases ed : valD M d with
      | ins c ns vs =>
        rw [ed] at p
        dsimp only at p
        cases e : truI tab d M with
        | stk => rw [e] at p; exact p.elim
        | exc _ _ => rw [e] at p; exact p.elim
        | ok b M' =>
          rw [e] at p
          intro pins s σ' us I rx
          obtain ⟨u, rfl, rv⟩ : ∃ u, us = [u] ∧ RelV v u := by
            cases rx with
            | cons rv rs => cases rs; exact ⟨_, rfl, rv⟩
          unfold truI at e
          rw [ed] at e
          dsimp only at e
          cases eg : tab c with
          | none => rw [eg] at e; cases e
          | some g =>
            rw [eg] at e
            have p2 : Post G W σ' (JT (fun b H' => Q (.bl b) H')) r H (bnd (g [d]) (fun r => match r with
              | .bl b => ret b
              | _ => stuck) M) := by rw [show bnd (g [d]) (fun r => match r with
              | .bl b => ret b
              | _ => stuck) M = .ok b M' from e]; exact fun r' H' L S => p r' H' L S _ .bl
            have z := tru_run (Q := fun b H' => Q (.bl b) H') T hK (A := X.A.in1.in1) rfl hr.in1.in1 hgd tk I S h1 rv ed eg p2
            exact call_boolT (wpAny_mono z (fun b s' ⟨H', I', q⟩ => ⟨.bl b, H', I', rfl, q⟩) fun _ _ e => e)
      | bl b =>
        rw [ed] at p
        have z := val_leaf S h1 (by rw [ed]; rfl)
        rw [ed] at z
        subst z
        cases h1
        exact fun pins s σ us I rx => call_bool1 pins s σ H [.bl b] us Q I rx (.inr ⟨b, rfl, p r H S.le S _ .bl⟩)
      | int i =>
        rw [ed] at p
        have z := val_leaf S h1 (by rw [ed]; rfl)
        rw [ed] at z
        subst z
        cases h1
        exact fun pins s σ us I rx => call_bool1 pins s σ H [.int i] us Q I rx (.inl ⟨i, rfl, p r H S.le S _ .bl⟩)
      | _ => rw [ed] at p; exact p.elim
end Iv
/-! Dicts: read, asked, changed. -/
namespace Iv
open PySem PySem.Spec PyProof.Rows L2 NdefX ClX

def keyD : D → Option Key
  | .int i => some (.inl i)
  | .str x => some (.inr x)
  | _ => none
theorem keyD_k (k : Key) : keyD (kD k) = some k := by cases k <;> rfl
def getK (k : Key) : List D → List D → Option D
  | d :: ks, v :: vs => if keyD d = some k then some v else getK k ks vs
  | _, _ => none
section
variable {G : Gd} {r : List Addr} {H : Hp}
theorem getK_ok (k : Key) : ∀ {kvs : List (Key × V)} {vs : List D}, Reps G r H (kvs.map (·.2)) vs → match getK k (kvs.map fun p => kD p.1) vs with
    | some d => ∃ v, valV kvs k = some v ∧ Rep G r H v d
    | none => valV kvs k = none
  | [], _, .nil => rfl
  | (j, v) :: kvs, _, .cons h hs => by
    show match getK k (kD j :: kvs.map fun p => kD p.1) _ with
      | some d => ∃ w, valV ((j, v) :: kvs) k = some w ∧ Rep G r H w d
      | none => valV ((j, v) :: kvs) k = none
    unfold getK
    rw [keyD_k]
    by_cases e : j = k
    · rw [if_pos (congrArg some e)]
      exact ⟨v, valV_pos e, h⟩
    · rw [if_neg (fun z => e (Option.some.inj z)), show valV ((j, v) :: kvs) k = valV kvs k from valV_neg e]
      exact getK_ok k hs
theorem rep_key {v : V} {d : D} {k : Key} (h : Rep G r H v d) (e : keyD d = some k) : v = kV k := by
  cases h with
  | int => cases e; rfl
  | str => cases e; rfl
  | _ => cases e
variable {M : List D}
/-- the keys and values of a dict, locked or not -/
def dctD (M : List D) (x : D) : Option (List D × List D) := match valD M x with
  | .dct ks vs => some (ks, vs)
  | .lck ks vs => some (ks, vs)
  | _ => none
/-- a dict, by value or a cell -/
theorem val_dct (S : StOk G r M H) {v : V} {x : D} {ks vs : List D} (h : Rep G r H v x) (e : dctD M x = some (ks, vs)) : ∃ a kvs, v = .ref a ∧ Rd H a (.dK kvs) ∧ ks = (kvs.map fun p => kD p.1) ∧ Reps G r H (kvs.map (·.2)) vs := by
  cases h with
  | dct h1 h2 => cases e; exact ⟨_, _, rfl, rd_off h1, rfl, h2⟩
  | cell h1 =>
    rename_i a n
    have e' : (match (match M[n]? with | some o => o | none => D.cell n) with
      | .dct ks vs => some (ks, vs)
      | .lck ks vs => some (ks, vs)
      | _ => none) = some (ks, vs) := e
    cases em : M[n]? with
    | none => rw [em] at e'; cases e'
    | some o =>
      rw [em] at e'
      cases o with
      | dct ks' vs' =>
        cases e'
        obtain ⟨kvs, q1, q2, q3⟩ := S.at_ n a _ h1 em
        exact ⟨a, kvs, rfl, .inl q1, q2, q3⟩
      | lck ks' vs' =>
        cases e'
        obtain ⟨ob, kvs, q1, q2, q3⟩ := S.at_ n a _ h1 em
        exact ⟨a, kvs, rfl, .inr ⟨ob, q1⟩, q2, q3⟩
      | _ => cases e'
  | _ => cases e
end
/-- x[y], dicts too -/
def idxK (M : List D) (x y : D) : Option D := match dctD M x with
  | some (ks, vs) => match keyD y with
    | some k => getK k ks vs
    | none => none
  | none => idxM M x y
/-- x in y, dicts too -/
def inKM (M : List D) (x y : D) : Option Bool := match dctD M y with
  | some (ks, vs) => match keyD x with
    | some k => some (getK k ks vs).isSome
    | none => none
  | none => inM M x y
def inKO (M : List D) (x y : D) : Option D := (inKM M x y).map .bl
def ninKO (M : List D) (x y : D) : Option D := (inKM M x y).map fun b => .bl (!b)
section
variable {X : Cx} {G : Gd}
theorem IxS.key (hK : G.K = X.K) (hu : X.A.units + 1 < cLine) {a b : Expr} (hs : PlainIx b) (hs2 : NoSl b) : IxS G X a b (pureO idxK) := by
  intro W tk σ r M H x y d d' Q S h h' p
  unfold pureO at p
  cases ed : dctD M d with
  | some q =>
    obtain ⟨ks, vs⟩ := q
    unfold idxK at p
    rw [ed] at p
    dsimp only at p
    cases ek : keyD d' with
    | none => rw [ek] at p; exact p.elim
    | some k =>
      rw [ek] at p
      dsimp only at p
      obtain ⟨q, kvs, rfl, hq, rfl, hv⟩ := val_dct S h ed
      have g := getK_ok k hv
      cases eg : getK k (kvs.map fun p => kD p.1) vs with
      | none => rw [eg] at p; exact p.elim
      | some z =>
        rw [eg] at p g
        obtain ⟨w, ew, rw'⟩ := g
        have ey := rep_key h' ek
        subst ey
        intro pins s v u I rx ry
        cases rx
        have DG : DGet H q (kV k) (some w) := .inl ⟨kvs, k, hq, rfl, ew.symm⟩
        unfold subscriptTail
        have hT := dict_typeIs I DG
        refine wpAny_bind ?_
        rw [getitemInPython_of_ne hT.not_modules]
        refine wpAny_bind (wpAny_specialOf hT PySem.F.slot_dict_getitem.lookup ?_)
        have fin : wpAny (model X.prog X.w) X.A (subscripted b false (.ref q) u) (fun r s₃ => wpAny (model X.prog X.w) X.A (letTemporaryGo a (.ref q) r >>= fun _ => pure r) (EP X pins σ Q) X.xe s₃) X.xe s := by
          rw [hs2 (.ref q) u]
          exact wpAny_operating (d_getItem hu I DG ry fun w' s3 I3 rw3 => wpAny_bind (wpAny_letTemporaryGo (wpAny_pure ⟨w, H, I3, rw3, p r H S.le S w rw'⟩)))
        first
          | exact wpAny_pure (wpAny_bind fin)
          | exact wpAny_bind (wpAny_pure (wpAny_bind fin))
          | exact wpAny_bind fin
  | none =>
    have p' : Post G W σ (JE G Q) r H (pureO idxM d d' M) := by
      unfold idxK at p
      rw [ed] at p
      exact p
    exact IxS.seq hK hs W tk σ r M H x y d d' Q S h h' p'
theorem OpP.inK (hK : G.K = X.K) (hu : X.A.units + 64 < cLine) : OpP G X (compareOp .In) inKO := by
  intro r M H x y d d' z Q S h h' e k
  cases ed : dctD M d' with
  | some q =>
    obtain ⟨ks, vs⟩ := q
    unfold inKO inKM at e
    rw [ed] at e
    dsimp only at e
    cases ek : keyD d with
    | none => rw [ek] at e; cases e
    | some j =>
      rw [ek] at e
      cases e
      obtain ⟨q, kvs, rfl, hq, rfl, hv⟩ := val_dct S h' ed
      have g := getK_ok j hv
      have ey := rep_key h ek
      subst ey
      have eb : (valV kvs j).isSome = (getK j (kvs.map fun p => kD p.1) vs).isSome := by
        cases eg : getK j (kvs.map fun p => kD p.1) vs with
        | none => rw [eg] at g; rw [g]; rfl
        | some z => rw [eg] at g; obtain ⟨w, ew, _⟩ := g; rw [ew]; rfl
      intro pins s σ v u I rx ry
      cases ry
      refine d_in (by omega) I (.inl ⟨kvs, j, hq, rfl, rfl⟩) rx fun s' I' => ?_
      rw [eb]
      exact ⟨.bl (getK j (kvs.map fun (p : Key × V) => kD p.1) vs).isSome, H, I', rfl, k H _ S.le S .bl⟩
  | none =>
    have e' : inO M d d' = some z := by
      unfold inKO inKM at e
      rw [ed] at e
      exact e
    exact OpP.in_ hK hu r M H x y d d' z Q S h h' e' k
theorem OpP.ninK (hK : G.K = X.K) (hu : X.A.units + 64 < cLine) : OpP G X (compareOp .NotIn) ninKO := by
  intro r M H x y d d' z Q S h h' e k
  cases ed : dctD M d' with
  | some q =>
    obtain ⟨ks, vs⟩ := q
    unfold ninKO inKM at e
    rw [ed] at e
    dsimp only at e
    cases ek : keyD d with
    | none => rw [ek] at e; cases e
    | some j =>
      rw [ek] at e
      cases e
      obtain ⟨q, kvs, rfl, hq, rfl, hv⟩ := val_dct S h' ed
      have g := getK_ok j hv
      have ey := rep_key h ek
      subst ey
      have eb : (valV kvs j).isSome = (getK j (kvs.map fun p => kD p.1) vs).isSome := by
        cases eg : getK j (kvs.map fun p => kD p.1) vs with
        | none => rw [eg] at g; rw [g]; rfl
        | some z => rw [eg] at g; obtain ⟨w, ew, _⟩ := g; rw [ew]; rfl
      intro pins s σ v u I rx ry
      cases ry
      refine d_notIn (by omega) I (.inl ⟨kvs, j, hq, rfl, rfl⟩) rx fun s' I' => ?_
      rw [eb]
      exact ⟨.bl (!(getK j (kvs.map fun (p : Key × V) => kD p.1) vs).isSome), H, I', rfl, k H _ S.le S .bl⟩
  | none =>
    have e' : ninO M d d' = some z := by
      unfold ninKO inKM at e
      rw [ed] at e
      exact e
    exact OpP.nin hK hu r M H x y d d' z Q S h h' e' k
end
end Iv
/-! Dicts made of pairs; items stored in a dict that is a cell. -/
namespace Iv
open PySem PySem.Spec PyProof.Rows L2 NdefX ClX

/-- in its place, or at the end -/
def putP (ps : List (Key × D)) (k : Key) (d : D) : List (Key × D) :=
  if (ps.any fun p => decide (p.1 = k)) = true then ps.map (fun p => if p.1 = k then (p.1, d) else p) else ps ++ [(k, d)]
def mergeP : List (Key × D) → List (Key × D) → List (Key × D)
  | ps, [] => ps
  | ps, (k, d) :: r => mergeP (putP ps k d) r
def dctP (ps : List (Key × D)) : D := .dct (ps.map fun p => kD p.1) (ps.map (·.2))
section
variable {G : Gd} {r : List Addr} {H : Hp}
inductive KR (G : Gd) (r : List Addr) (H : Hp) : List (Key × V) → List (Key × D) → Prop
  | nil : KR G r H [] []
  | cons {k v d kvs ps} : Rep G r H v d → KR G r H kvs ps → KR G r H ((k, v) :: kvs) ((k, d) :: ps)
theorem KR.reps : ∀ {kvs : List (Key × V)} {ps : List (Key × D)}, KR G r H kvs ps → Reps G r H (kvs.map (·.2)) (ps.map (·.2))
  | _, _, .nil => .nil
  | _, _, .cons h hs => .cons h hs.reps
theorem KR.keys : ∀ {kvs : List (Key × V)} {ps : List (Key × D)}, KR G r H kvs ps → (kvs.map fun p => kD p.1) = ps.map fun p => kD p.1
  | _, _, .nil => rfl
  | _, _, .cons h hs => by rw [List.map_cons, List.map_cons, hs.keys]
theorem KR.any (k : Key) : ∀ {kvs : List (Key × V)} {ps : List (Key × D)}, KR G r H kvs ps → (kvs.any fun p => decide (p.1 = k)) = ps.any fun p => decide (p.1 = k)
  | _, _, .nil => rfl
  | _, _, .cons h hs => by rw [List.any_cons, List.any_cons, hs.any k]
theorem KR.app {k : Key} {v : V} {d : D} (h : Rep G r H v d) : ∀ {kvs : List (Key × V)} {ps : List (Key × D)}, KR G r H kvs ps → KR G r H (kvs ++ [(k, v)]) (ps ++ [(k, d)])
  | _, _, .nil => .cons h .nil
  | _, _, .cons q qs => .cons q (qs.app h)
theorem KR.repl {k : Key} {v : V} {d : D} (h : Rep G r H v d) : ∀ {kvs : List (Key × V)} {ps : List (Key × D)}, KR G r H kvs ps → KR G r H (kvs.map fun p => if p.1 = k then (p.1, v) else p) (ps.map fun p => if p.1 = k then (p.1, d) else p)
  | _, _, .nil => .nil
  | _, _, .cons (k := j) q qs => by
    rw [List.map_cons, List.map_cons]
    by_cases e : j = k
    · rw [if_pos e, if_pos e]; exact .cons h (qs.repl h)
    · rw [if_neg e, if_neg e]; exact .cons q (qs.repl h)
theorem KR.put {k : Key} {v : V} {d : D} {kvs : List (Key × V)} {ps : List (Key × D)} (h : Rep G r H v d) (hs : KR G r H kvs ps) : KR G r H (putK kvs k v) (putP ps k d) := by
  unfold putK putP
  rw [hs.any k]
  split
  · exact hs.repl h
  · exact hs.app h
theorem KR.merge : ∀ {more : List (Key × V)} {ms : List (Key × D)} {kvs : List (Key × V)} {ps : List (Key × D)}, KR G r H more ms → KR G r H kvs ps → KR G r H (mergeK kvs more) (mergeP ps ms)
  | _, _, _, _, .nil, h => h
  | _, _, _, _, .cons (k := k) q qs, h => by
    have z := KR.merge qs (KR.put (k := k) q h)
    exact z
theorem KR.le {r1 : List Addr} {H1 : Hp} (l : Le r H r1 H1) : ∀ {kvs : List (Key × V)} {ps : List (Key × D)}, KR G r H kvs ps → KR G r1 H1 kvs ps
  | _, _, .nil => .nil
  | _, _, .cons h hs => .cons (h.le l) (hs.le l)
theorem KR.rep {kvs : List (Key × V)} {ps : List (Key × D)} {a : Addr} (h : KR G r H kvs ps) (e : Rd (off G r H) a (.dK kvs)) : Rep G r H (.ref a) (dctP ps) := by
  have q := Rep.dct e h.reps
  rw [h.keys] at q
  exact q
end
/-- pairs (key, value) of a list's items -/
def pairP : List D → Option (List (Key × D))
  | [] => some []
  | .tup [k, d] :: r => match keyD k, pairP r with
    | some j, some ps => some ((j, d) :: ps)
    | _, _ => none
  | _ :: _ => none
section
variable {G : Gd} {X : Cx}
theorem pairP_ok {K : PySem.W.Frag} (hK : G.K = K) {r : List Addr} {H : Hp} : ∀ {ds : List D} {vs : List V} {ps : List (Key × D)}, Reps G r H vs ds → pairP ds = some ps →
    ∃ (as : List Addr) (kvs : List (Key × V)), vs = as.map V.ref ∧ Paired (fun p kv => SqT K H p [kV kv.1, kv.2]) as kvs ∧ KR G r H kvs ps
  | [], _, _, .nil, e => by cases e; exact ⟨[], [], rfl, .nil, .nil⟩
  | d :: ds, _, ps, .cons h hs, e => by
    cases h with
    | tup h1 h2 =>
      cases h2 with
      | nil => simp [pairP] at e
      | cons hk h3 =>
        cases h3 with
        | nil => simp [pairP] at e
        | cons hx h4 =>
          cases h4 with
          | cons _ _ => simp [pairP] at e
          | nil =>
            rename_i a v1 k v2 x
            rw [pairP] at e
            cases ek : keyD k with
            | none => rw [ek] at e; simp at e
            | some j =>
              cases er : pairP ds with
              | none => rw [ek, er] at e; simp at e
              | some qs =>
                rw [ek, er] at e
                simp only [Option.some.injEq] at e
                subst e
                obtain ⟨as, kvs, rfl, hp, hr⟩ := pairP_ok hK hs er
                have ey := rep_key hk ek
                subst ey
                exact ⟨a :: as, (j, v2) :: kvs, rfl, .cons (hK ▸ sqT_off h1) hp, .cons hx hr⟩
    | _ => simp [pairP] at e
def dictO : List D → Ev D := fun ds M => match ds with
  | [d] => match valD M d with
    | .lst xs => match pairP xs with
      | some ps => .ok (dctP (mergeP [] ps)) M
      | none => .stk
    | _ => .stk
  | _ => .stk
theorem CaS.dict (hc : X.calm = true) (hK : G.K = X.K) : CaS G X (.type "dict") dictO := by
  intro W tk σ r M H xs ds Q S hs p
  cases hs with
  | nil => exact p.elim
  | cons h1 hs =>
    cases hs with
    | cons _ _ => exact p.elim
    | nil =>
      rename_i v d
      unfold dictO at p
      dsimp only at p
      cases ed : valD M d with
      | lst zs =>
        rw [ed] at p
        dsimp only at p
        cases ep : pairP zs with
        | none => rw [ep] at p; exact p.elim
        | some ps =>
          rw [ep] at p
          obtain ⟨a, vs, rfl, ha, hv⟩ := val_lst S h1 ed
          obtain ⟨as, kvs, rfl, hp, hr⟩ := pairP_ok hK hv ep
          refine (call_dictP hc).rw ⟨a, as, kvs, rfl, .of ha, hp, fun q hq => ?_⟩
          obtain ⟨L, S'⟩ := S.new (o := .dK (mergeK [] kvs)) hq
          exact p r _ L S' _ (KR.rep ((KR.merge hr .nil).le L) (.inl (off_new (S.fresh hq))))
      | _ => rw [ed] at p; exact p.elim
end
end Iv
/-! Items stored in a dict that is a cell. -/
namespace Iv
open PySem PySem.Spec PyProof.Rows L2 NdefX ClX

def keysD : List D → Option (List Key)
  | [] => some []
  | d :: ds => match keyD d, keysD ds with
    | some k, some ks => some (k :: ks)
    | _, _ => none
theorem keysD_k : ∀ kvs : List (Key × V), keysD (kvs.map fun p => kD p.1) = some (kvs.map (·.1))
  | [] => rfl
  | (k, v) :: r => by
    rw [List.map_cons, keysD, keyD_k, keysD_k r]
    rfl
theorem kr_of {G : Gd} {r : List Addr} {H : Hp} : ∀ {kvs : List (Key × V)} {vs : List D}, Reps G r H (kvs.map (·.2)) vs → KR G r H kvs ((kvs.map (·.1)).zip vs)
  | [], _, .nil => .nil
  | (k, v) :: kvs, _, .cons h hs => .cons h (kr_of hs)
theorem PSet.or {X : Cx} {t t' : TSet} (h : PSet X t) (h' : PSet X t') : PSet X (fun o i v H Q => t o i v H Q ∨ t' o i v H Q) := fun pins s σ H o i v ov iv u Q I ro ri rv q => q.elim (h pins s σ H o i v ov iv u Q I ro ri rv) (h' pins s σ H o i v ov iv u Q I ro ri rv)
def setKO (o i d : D) (M : List D) : Option (List D) := match o with
  | .cell n => match M[n]? with
    | some (.dct ks vs) => match keyD i, keysD ks with
      | some k, some js => if ks.length < sizeLine then some (M.set n (dctP (putP (js.zip vs) k d))) else none
      | _, _ => none
    | some (.lst _) => setLO o i d M
    | _ => none
  | _ => none
def gIxK (a b : DE) : DG := fun d δ => bnd (a δ) fun x => bnd (b δ) fun y M => match setKO x y d M with
  | some M' => .ok δ M'
  | none => .stk
section
variable {G : Gd} {X : Cx}
theorem SG.subK (hu : X.A.units + 1 < cLine) {o i : Expr} {pos : Pos} {ma mb : DE} (ho : SE G X o ma) (hi : SE G X i mb)
    (ha : ∀ v, assign (.Subscript o i pos) X.env v = (do
      let x ← holding [v] (eval o X.env)
      let y ← holding [v, x] (eval i X.env)
      standAt pos
      holding [v, x, y] (setItem x y v)
      release [v, x, y] [])) : SG G X (.Subscript o i pos) (gIxK ma mb) := by
  refine ⟨?_⟩
  intro W tk d v δ M σ r H Q S Rv E p
  refine (pg_sub (peW o) (peW i) (PSet.or set_list (set_dict hu)) ha).wg ?_
  refine ho.ru W tk δ M σ r H _ S E (p.bnd.imp ?_)
  intro d1 M1 r1 H1 L1 S1 h1 v1 R1
  refine hi.ru W tk δ M1 σ r1 H1 _ S1 (E.le L1) (h1.bnd.imp ?_)
  intro d2 M2 r2 H2 L2 S2 h2 v2 R2
  have R1' := R1.le L2
  cases e : setKO d1 d2 d M2 with
  | none => rw [e] at h2; exact h2.elim
  | some M' =>
    rw [e] at h2
    unfold setKO at e
    cases R1' with
    | cell hc =>
      rename_i a n
      dsimp only at e
      cases em : M2[n]? with
      | none => rw [em] at e; cases e
      | some u =>
        rw [em] at e
        cases u with
        | dct ks vs =>
          dsimp only at e
          obtain ⟨kvs, q1, rfl, q3⟩ := S2.at_ n a _ hc em
          rw [keysD_k] at e
          cases ek : keyD d2 with
          | none => rw [ek] at e; cases e
          | some k =>
            rw [ek] at e
            dsimp only at e
            by_cases c : (kvs.map fun p => kD p.1).length < sizeLine
            · rw [if_pos c] at e
              cases e
              have ey := rep_key R2 ek
              subst ey
              rw [List.length_map] at c
              refine .inr ⟨a, _, rfl, DPut.k q1 c, ?_⟩
              obtain ⟨L, S'⟩ := S2.write (o := .dK (putK kvs k v)) (d := dctP (putP ((kvs.map (·.1)).zip vs) k d)) hc q1 fun L => by
                have z := KR.put (k := k) (((Rv.le L1).le L2).le L) ((kr_of q3).le L)
                exact ⟨_, upd_same, z.keys.symm, z.reps⟩
              exact h2 r2 _ L S' σ (((E.le L1).le L2).le L)
            · rw [if_neg c] at e; cases e
        | lst xs =>
          dsimp only at e
          unfold setLO at e
          cases R2 with
          | int =>
            rename_i k
            dsimp only at e
            rw [em] at e
            dsimp only at e
            cases ex : ixN xs.length k with
            | none => rw [ex] at e; cases e
            | some j =>
              rw [ex] at e
              cases e
              obtain ⟨vs, q1, q2⟩ := S2.at_ n a _ hc em
              refine .inl ⟨a, vs, k, j, rfl, rfl, q1, by rw [q2.length]; exact ex, ?_⟩
              obtain ⟨L, S'⟩ := S2.write (o := .lst (vs.set j v)) (d := .lst (xs.set j d)) hc q1 fun L => ⟨_, upd_same, Reps.set (((Rv.le L1).le L2).le L) j (q2.le L)⟩
              exact h2 r2 _ L S' σ (((E.le L1).le L2).le L)
          | _ => cases e
        | _ => cases e
    | _ => cases e
end
end Iv
/-! Dict displays. -/
namespace Iv
open PySem PySem.Spec PyProof.Rows L2 NdefX ClX
/-- the pairs of a display -/
def dPrs : List (DE × DE) → DEnv → Ev (List (Key × D))
  | [], _ => ret []
  | (a, b) :: r, δ => bnd (a δ) fun x => bnd (b δ) fun y => bnd (dPrs r δ) fun ps => match keyD x with
    | some k => ret ((k, y) :: ps)
    | none => stuck
inductive SPs (G : Gd) (X : Cx) : List (Option Expr) → List Expr → List (DE × DE) → List (TE × TE) → Prop
  | nil : SPs G X [] [] [] []
  | cons {k v : Expr} {mk mv : DE} {ks : List (Option Expr)} {vs : List Expr} {ms : List (DE × DE)} {ts : List (TE × TE)} : (∀ q, SE (G.hide q) X k mk) → (∀ q, SE (G.hide q) X v mv) → SPs G X ks vs ms ts → SPs G X (some k :: ks) (v :: vs) ((mk, mv) :: ms) ((WE X k, WE X v) :: ts)
theorem SPs.pps {G : Gd} {X : Cx} {pos : Pos} {ks : List (Option Expr)} {vs : List Expr} {ms : List (DE × DE)} {ts : List (TE × TE)} (h : SPs G X ks vs ms ts) : PPs X pos ks vs ts := by
  induction h with
  | nil => exact pps_nil
  | cons _ _ _ ih => exact pps_cons (peW _) (peW _) ih
section
variable {G : Gd} {r r1 : List Addr} {H H1 : Hp} {M : List D} {q : Addr}
/-- the new dict's lock, if it has one, is taken off -/
theorem back_ok (L : Le r H r1 H1) (S : StOk (G.hide q) r1 M H1) (nq : q ∉ r) (hq : H q = some (.dK [])) : ∃ H2, Unl H H1 H2 ∧ Le r H r1 H2 ∧ StOk (G.hide q) r1 M H2 ∧ H2 q = some (.dK []) ∧ q ∉ r1 ∧ Kp (G.hide q) r1 H1 H2 := by
  have hm : q ∈ (G.hide q).hid := List.mem_cons_self
  have nr : q ∉ r1 := (S.hid q hm).2
  rcases L.keep q _ hq nq with e | ⟨kvs, ob, e1, e⟩
  · exact ⟨H1, .inl rfl, L, S, e, nr, ⟨fun _ _ h => h⟩⟩
  · cases e1
    refine ⟨upd H1 q (.dK []), .inr ⟨q, ob, [], (fun o u z => by rw [hq] at z; cases z), e, rfl⟩, ⟨L.pre, fun b o eb hb => ?_, fun b hb => ?_, fun b ob' u eb => ?_⟩, S.updH hm, upd_same, nr, ⟨off_updH hm⟩⟩
    · by_cases z : b = q
      · subst z; rw [hq] at eb; cases eb; exact .inl upd_same
      · rw [upd_ne z]; exact L.keep b o eb hb
    · rw [upd_ne (show b ≠ q from fun z => nq (by rw [← z]; exact hb))]; exact L.there b hb
    · rw [upd_ne (show b ≠ q from fun z => by subst z; rw [hq] at eb; cases eb)]; exact L.fz b ob' u eb
theorem KR.via {h2 : List Addr} {H2 : Hp} (ho : ∀ a o, off G r H a = some o → off (G.at h2) r H2 a = some o) : ∀ {kvs : List (Key × V)} {ps : List (Key × D)}, KR G r H kvs ps → KR (G.at h2) r H2 kvs ps
  | _, _, .nil => .nil
  | _, _, .cons h hs => .cons (h.via ho) (KR.via ho hs)
end
theorem prs_run {G : Gd} {X : Cx} {W : WX} (tk : Takes X W) {δ : DEnv} {σ : L2.St} {q : Addr} {Me : List D} : ∀ {ks : List (Option Expr)} {es : List Expr} {ms : List (DE × DE)} {ts : List (TE × TE)} (_ : SPs G X ks es ms ts) {r : List Addr} {H : Hp} {M : List D} {ps : List (Key × D)} {Q : List (V × V) → Hp → Prop},
    dPrs ms δ M = .ok ps Me → StOk (G.hide q) r M H → EnvOk (G.hide q) r H σ δ → q ∉ r → H q = some (.dK []) →
    (∀ r' H' kvs, Le r H r' H' → StOk (G.hide q) r' Me H' → H' q = some (.dK []) → q ∉ r' → KR (G.hide q) r' H' kvs ps → kvs.length = ts.length → Q (kvs.map fun kv => (kV kv.1, kv.2)) H') → tPairs ts σ H Q
  | _, _, _, _, .nil, r, H, M, ps, Q, e, S, E, nq, hq, k => by
    cases e
    exact k r H [] S.le S hq nq .nil rfl
  | _, _, _, _, .cons (ms := ms) hk hv hr, r, H, M, ps, Q, e, S, E, nq, hq, k => by
    unfold dPrs at e
    obtain ⟨x, M1, ea, e⟩ := bnd_ok e
    obtain ⟨y, M2, eb, e⟩ := bnd_ok e
    obtain ⟨ps', M3, ec, e⟩ := bnd_ok e
    show WE X _ σ H fun x H1 => WE X _ σ H1 fun y H2 => tPairs _ σ H2 fun ps H3 => Q ((x, y) :: ps) H3
    refine WE.unl ((hk q).ru W tk δ M σ r H _ S E ?_)
    rw [ea]
    intro r1 H1 L1 S1 vx Rx
    obtain ⟨H1', u1, L1, S1, hq1, nq1, k1⟩ := back_ok L1 S1 nq hq
    refine ⟨H1', u1, WE.unl ((hv q).ru W tk δ M1 σ r1 H1' _ S1 (E.le L1) ?_)⟩
    rw [eb]
    intro r2 H2 L2 S2 vy Ry
    obtain ⟨H2', u2, L2, S2, hq2, nq2, k2⟩ := back_ok L2 S2 nq1 hq1
    refine ⟨H2', u2, ?_⟩
    cases ek : keyD x with
    | none => rw [ek] at e; cases e
    | some kx =>
      rw [ek] at e
      cases e
      refine prs_run tk hr ec S2 ((E.le L1).le L2) nq2 hq2 fun r3 H3 kvs L3 S3 hq3 nq3 K3 hl => ?_
      have := rep_key Rx ek
      subst this
      exact k r3 H3 ((kx, vy) :: kvs) ((L1.trans L2).trans L3) S3 hq3 nq3 (.cons ((k2.rep Ry).le L3) K3) (by simp [hl])
def dDisp (ms : List (DE × DE)) : DE := fun δ => bnd (noX (dPrs ms δ)) fun ps => ret (dctP (mergeP [] ps))
/-- the same, to be changed -/
def dDispC (ms : List (DE × DE)) : DE := fun δ => bnd (noX (dPrs ms δ)) fun ps M => .ok (.cell M.length) (M ++ [dctP (mergeP [] ps)])
section
variable {G : Gd} {X : Cx} {ks : List (Option Expr)} {es : List Expr} {ms : List (DE × DE)} {ts : List (TE × TE)} {pos : Pos}
theorem prs_ok {δ : DEnv} {M : List D} {f : List (Key × D) → Ev D} {W : WX} {σ : L2.St} {J : D → List D → List Addr → Hp → Prop} {r : List Addr} {H : Hp} (p : Post G W σ J r H (bnd (noX (dPrs ms δ)) f M)) : ∃ ps Me, dPrs ms δ M = .ok ps Me ∧ Post G W σ J r H (f ps Me) := by
  unfold bnd noX at p
  cases e : dPrs ms δ M with
  | ok ps Me => rw [e] at p; exact ⟨ps, Me, rfl, p⟩
  | exc _ _ => rw [e] at p; exact p.elim
  | stk => rw [e] at p; exact p.elim
theorem SPs.len (h : SPs G X ks es ms ts) : ks.length = ts.length ∧ es.length = ts.length := by
  induction h with
  | nil => exact ⟨rfl, rfl⟩
  | cons _ _ _ ih => exact ⟨congrArg Nat.succ ih.1, congrArg Nat.succ ih.2⟩
theorem SPs.all (h : SPs G X ks es ms ts) : ks.all (·.isSome) = true := by
  induction h with
  | nil => rfl
  | cons _ _ _ ih => exact ih
theorem SE.disp (h : SPs G X ks es ms ts) (h0 : ks ≠ []) (h15 : ks.length ≤ 15) : SE G X (.Dict ks es pos) (dDisp ms) := by
  refine ⟨?_⟩
  intro W tk δ M σ r H Q S E p
  obtain ⟨ps, Me, em, k⟩ := prs_ok p
  refine (pe_disp h.pps h.all (h.len.1.trans h.len.2.symm) h0 h15).we fun q hq => ?_
  obtain ⟨Lh, Sh⟩ := S.hide (o := .dK []) hq
  have nq := S.fresh hq
  refine prs_run tk h em Sh (E.via (off_hide hq)) nq.2 upd_same fun r' H' kvs L S' hq' nq' K' hl => ?_
  have hm : q ∈ (G.hide q).hid := List.mem_cons_self
  refine ⟨hq', kvs, rfl, by rw [hl, ← h.len.1]; exact h15, ?_⟩
  have S2 : StOk G r' Me (upd H' q (.dK (mergeK [] kvs))) := (S'.updH (o := .dK (mergeK [] kvs)) hm).show_
  have K2 : KR G r' (upd H' q (.dK (mergeK [] kvs))) kvs ps := KR.via (G := G.hide q) (h2 := G.hid) off_show (KR.via (G := G.hide q) (h2 := (G.hide q).hid) (off_updH hm) K')
  exact k r' _ ((Lh.trans L).updN hq nq') S2 _ ((K2.merge .nil).rep (.inl (off_some.mpr ⟨⟨nq.1, nq'⟩, upd_same⟩)))
end
section
variable {G : Gd} {h1 h2 : List Addr} {r r2 : List Addr} {H H2 : Hp} {M : List D} {q : Addr}
mutual
theorem Rep.via2 (ho : ∀ a o, off (G.at h1) r H a = some o → off (G.at h2) r2 H2 a = some o) (hr : ∀ (n : Nat) (a : Addr), r[n]? = some a → r2[n]? = some a) : ∀ {v : V} {d : D}, Rep (G.at h1) r H v d → Rep (G.at h2) r2 H2 v d
  | _, _, .non => .non
  | _, _, .bl => .bl
  | _, _, .int => .int
  | _, _, .str => .str
  | _, _, .lst h hs => .lst (ho _ _ h) (Reps.via2 ho hr hs)
  | _, _, .scr h hs => .scr (by
      rcases h with (h | ⟨o, h⟩) | h
      · exact .inl (.inl (ho _ _ h))
      · exact .inl (.inr ⟨o, ho _ _ h⟩)
      · exact .inr h) (Reps.via2 ho hr hs)
  | _, _, .tup h hs => .tup (by
      rcases h with (h | ⟨o, h⟩) | h
      · exact .inl (.inl (ho _ _ h))
      · exact .inl (.inr ⟨o, ho _ _ h⟩)
      · exact .inr h) (Reps.via2 ho hr hs)
  | _, _, .dct h hs => .dct (by
      rcases h with h | ⟨o, h⟩
      · exact .inl (ho _ _ h)
      · exact .inr ⟨o, ho _ _ h⟩) (Reps.via2 ho hr hs)
  | _, _, .ins z h hs => .ins z (ho _ _ h) (Reps.via2 ho hr hs)
  | _, _, .exn z h h2 hs => .exn z (ho _ _ h) (ho _ _ h2) (Reps.via2 ho hr hs)
  | _, _, .exn0 z h => .exn0 z (ho _ _ h)
  | _, _, .cell h => .cell (hr _ _ h)
  | _, _, .fn => .fn
  | _, _, .cls => .cls
  | _, _, .ty => .ty
theorem Reps.via2 (ho : ∀ a o, off (G.at h1) r H a = some o → off (G.at h2) r2 H2 a = some o) (hr : ∀ (n : Nat) (a : Addr), r[n]? = some a → r2[n]? = some a) : ∀ {vs : List V} {ds : List D}, Reps (G.at h1) r H vs ds → Reps (G.at h2) r2 H2 vs ds
  | _, _, .nil => .nil
  | _, _, .cons h hs => .cons (Rep.via2 ho hr h) (Reps.via2 ho hr hs)
end
theorem off_reveal {o : HO} (a : Addr) (u : HO) (h : off (G.hide q) r H a = some u) : off G (r ++ [q]) (upd H q o) a = some u := by
  obtain ⟨⟨w1, w2⟩, w3⟩ := off_some.mp h
  have ne : a ≠ q := fun z => w1 (by rw [z]; exact List.mem_cons_self)
  refine off_some.mpr ⟨⟨fun z => w1 (List.mem_cons_of_mem _ z), fun z => ?_⟩, by rw [upd_ne ne]; exact w3⟩
  rcases List.mem_append.mp z with z | z
  · exact w2 z
  · exact ne (List.mem_singleton.mp z)
theorem CellAt.via2 (ho : ∀ a o, off (G.at h1) r H a = some o → off (G.at h2) r2 H2 a = some o) (hr : ∀ (n : Nat) (a : Addr), r[n]? = some a → r2[n]? = some a) {a : Addr} (e : H2 a = H a) {d : D} (h : CellAt (G.at h1) r H a d) : CellAt (G.at h2) r2 H2 a d := by
  cases d with
  | lst ds => obtain ⟨vs, e1, hs⟩ := h; exact ⟨vs, e.trans e1, hs.via2 ho hr⟩
  | dct ks ds => obtain ⟨kvs, e1, e2, hs⟩ := h; exact ⟨kvs, e.trans e1, e2, hs.via2 ho hr⟩
  | lck ks ds => obtain ⟨ob, kvs, e1, e2, hs⟩ := h; exact ⟨ob, kvs, e.trans e1, e2, hs.via2 ho hr⟩
  | ins c ns ds => obtain ⟨dx, fs, e1, e2, hs, hx⟩ := h; exact ⟨dx, fs, e.trans e1, e2, hs.via2 ho hr, hx⟩
  | _ => exact h.elim
/-- a hidden object becomes a cell -/
theorem StOk.reveal (S : StOk (G.hide q) r M H) {o : HO} {d : D} (nh : q ∉ G.hid) (hd : CellAt G (r ++ [q]) (upd H q o) q d) : StOk G (r ++ [q]) (M ++ [d]) (upd H q o) := by
  have hm : q ∈ (G.hide q).hid := List.mem_cons_self
  have nq := (S.hid q hm).2
  have ne : ∀ {a}, a ∈ r → a ≠ q := fun ha z => nq (by rw [← z]; exact ha)
  refine ⟨by simp [S.len], ?_, fun n a d' e1 e2 => ?_, fun a ha => ?_⟩
  · rw [List.nodup_append]
    exact ⟨S.nd, by simp, fun a ha b hb => by rw [List.mem_singleton.mp hb]; exact ne ha⟩
  · by_cases c : n < r.length
    · rw [List.getElem?_append_left c] at e1
      rw [List.getElem?_append_left (by rw [← S.len]; exact c)] at e2
      exact CellAt.via2 (G := G) (h1 := q :: G.hid) (h2 := G.hid) off_reveal (fun n a z => by rw [List.getElem?_append_left (List.getElem?_eq_some_iff.mp z).1]; exact z) (upd_ne (ne (List.mem_of_getElem? e1))) (S.at_ n a d' e1 e2)
    · rw [List.getElem?_append_right (Nat.le_of_not_lt c)] at e1
      rw [List.getElem?_append_right (by rw [← S.len]; exact Nat.le_of_not_lt c), ← S.len] at e2
      cases z : n - r.length with
      | zero =>
        rw [z] at e1 e2
        cases e1
        cases e2
        exact hd
      | succ m => rw [z] at e1; simp at e1
  · have h := S.hid a (List.mem_cons_of_mem _ ha)
    have nea : a ≠ q := fun z => nh (by rw [← z]; exact ha)
    refine ⟨by rw [upd_ne nea]; exact h.1, fun z => ?_⟩
    rcases List.mem_append.mp z with z | z
    · exact h.2 z
    · exact nea (List.mem_singleton.mp z)
theorem KR.via2 (ho : ∀ a o, off (G.at h1) r H a = some o → off (G.at h2) r2 H2 a = some o) (hr : ∀ (n : Nat) (a : Addr), r[n]? = some a → r2[n]? = some a) : ∀ {kvs : List (Key × V)} {ps : List (Key × D)}, KR (G.at h1) r H kvs ps → KR (G.at h2) r2 H2 kvs ps
  | _, _, .nil => .nil
  | _, _, .cons h hs => .cons (h.via2 ho hr) (KR.via2 ho hr hs)
end
section
variable {G : Gd} {X : Cx} {ks : List (Option Expr)} {es : List Expr} {ms : List (DE × DE)} {ts : List (TE × TE)} {pos : Pos}
theorem SE.dispC (h : SPs G X ks es ms ts) (h0 : ks ≠ []) (h15 : ks.length ≤ 15) : SE G X (.Dict ks es pos) (dDispC ms) := by
  refine ⟨?_⟩
  intro W tk δ M σ r H Q S E p
  obtain ⟨ps, Me, em, k⟩ := prs_ok p
  refine (pe_disp h.pps h.all (h.len.1.trans h.len.2.symm) h0 h15).we fun q hq => ?_
  obtain ⟨Lh, Sh⟩ := S.hide (o := .dK []) hq
  have nq := S.fresh hq
  refine prs_run tk h em Sh (E.via (off_hide hq)) nq.2 upd_same fun r' H' kvs L S' hq' nq' K' hl => ?_
  refine ⟨hq', kvs, rfl, by rw [hl, ← h.len.1]; exact h15, ?_⟩
  have ap : ∀ (n : Nat) (a : Addr), r'[n]? = some a → (r' ++ [q])[n]? = some a := fun n a z => by rw [List.getElem?_append_left (List.getElem?_eq_some_iff.mp z).1]; exact z
  have K2 : KR G (r' ++ [q]) (upd H' q (.dK (mergeK [] kvs))) kvs ps := KR.via2 (G := G) (h1 := q :: G.hid) (h2 := G.hid) off_reveal ap K'
  have K3 := K2.merge .nil
  have S2 : StOk G (r' ++ [q]) (Me ++ [dctP (mergeP [] ps)]) (upd H' q (.dK (mergeK [] kvs))) := S'.reveal nq.1 ⟨_, upd_same, K3.keys.symm, K3.reps⟩
  have L0 : Le r H r' (upd H' q (.dK (mergeK [] kvs))) := (Lh.trans L).updN hq nq'
  have L2 : Le r H (r' ++ [q]) (upd H' q (.dK (mergeK [] kvs))) := by
    refine ⟨?_, L0.keep, L0.there, L0.fz⟩
    obtain ⟨new, e, hn⟩ := L0.pre
    refine ⟨new ++ [q], by rw [e, List.append_assoc], fun b hb => ?_⟩
    rcases List.mem_append.mp hb with hb | hb
    · exact hn b hb
    · rw [List.mem_singleton.mp hb]; exact hq
  refine k (r' ++ [q]) _ L2 S2 _ (.cell ?_)
  rw [List.getElem?_append_right (by rw [S'.len]; exact Nat.le_refl _), S'.len, Nat.sub_self]
  rfl
end
end Iv
/-! sorted, min of lists. -/
namespace Iv
open PySem PySem.Spec PyProof.Rows L2 NdefX ClX
/-! ### sorting, in place -/
section
variable {α : Type} {le : α → α → Bool}
def insB (le : α → α → Bool) (x : α) : List α → List α
  | [] => [x]
  | y :: ys => if le x y then x :: y :: ys else y :: insB le x ys
def isort (le : α → α → Bool) : List α → List α
  | [] => []
  | x :: xs => insB le x (isort le xs)
theorem insB_perm (x : α) : ∀ l, (insB le x l).Perm (x :: l)
  | [] => List.Perm.refl _
  | y :: ys => by
    unfold insB
    by_cases h : le x y = true
    · rw [if_pos h]
    · rw [if_neg h]
      exact ((insB_perm x ys).cons y).trans (List.Perm.swap x y ys)
theorem isort_perm : ∀ l : List α, (isort le l).Perm l
  | [] => List.Perm.refl _
  | x :: xs => (insB_perm x _).trans ((isort_perm xs).cons x)
theorem insB_sorted (T : PySem.W.TotalLe le) (x : α) : ∀ {l : List α}, l.Pairwise (fun a b => le a b = true) → (insB le x l).Pairwise (fun a b => le a b = true)
  | [], _ => by simp [insB]
  | y :: ys, h => by
    unfold insB
    by_cases c : le x y = true
    · rw [if_pos c]
      refine List.pairwise_cons.mpr ⟨fun z hz => ?_, h⟩
      rcases List.mem_cons.mp hz with rfl | hz
      · exact c
      · exact T.trans _ _ _ c ((List.pairwise_cons.mp h).1 z hz)
    · rw [if_neg c]
      refine List.pairwise_cons.mpr ⟨fun z hz => ?_, insB_sorted T x (List.pairwise_cons.mp h).2⟩
      rcases List.mem_cons.mp ((insB_perm x ys).mem_iff.mp hz) with rfl | hz
      · exact (T.total _ _).resolve_left c
      · exact (List.pairwise_cons.mp h).1 z hz
theorem isort_sorted (T : PySem.W.TotalLe le) : ∀ l : List α, (isort le l).Pairwise (fun a b => le a b = true)
  | [] => List.Pairwise.nil
  | x :: xs => insB_sorted T x (isort_sorted T xs)
theorem insB_filter (T : PySem.W.TotalLe le) (x c : α) : ∀ l : List α, (insB le x l).filter (PySem.W.sameRank le c) = (x :: l).filter (PySem.W.sameRank le c)
  | [] => rfl
  | y :: ys => by
    unfold insB
    by_cases h : le x y = true
    · rw [if_pos h]
    · rw [if_neg h, List.filter_cons, insB_filter T x c ys]
      cases hy : PySem.W.sameRank le c y with
      | false => simp [List.filter_cons, hy]
      | true =>
        cases hx : PySem.W.sameRank le c x with
        | false => simp [List.filter_cons, hy, hx]
        | true =>
          unfold PySem.W.sameRank at hx hy
          rw [Bool.and_eq_true] at hx hy
          exact absurd (T.trans _ _ _ hx.2 hy.1) h
theorem isort_filter (T : PySem.W.TotalLe le) (c : α) : ∀ l : List α, (isort le l).filter (PySem.W.sameRank le c) = l.filter (PySem.W.sameRank le c)
  | [] => rfl
  | x :: xs => by
    show (insB le x (isort le xs)).filter _ = _
    rw [insB_filter T x c, List.filter_cons, isort_filter T c xs, List.filter_cons]
theorem isort_merge (T : PySem.W.TotalLe le) (l : List α) : l.mergeSort le = isort le l := (PySem.W.sort_unique T (isort_sorted T l) fun c => isort_filter T c l).symm
end
def encD (d : D) : PyData := (pyV d).getD .none
def leD (x y : D) : Bool := !PySem.W.dataLt (encD y) (encD x)
def tupB : PyData → Bool
  | .tuple (_ :: _) => true
  | _ => false
def othB : PyData → Bool
  | .tuple _ => false
  | .none => false
  | _ => true
/-- data that can be sorted -/
def sortOk (xs : List D) : Bool := xs.all (fun d => (pyV d).isSome && Nat.ble (encD d).depth 40) && (xs.all (fun x => xs.all fun y => PySem.W.alike (encD x) (encD y)) && (xs.all (fun d => tupB (encD d)) || xs.all fun d => othB (encD d)))
def sortM (M : List D) (d : D) : Option D := match valD M d with
  | .lst xs => if sortOk xs && Nat.ble xs.length sizeLine then some (.lst (isort leD xs)) else none
  | _ => none
def sortO : List D → Ev D := fun ds M => match ds with
  | [d] => optE (sortM M d) M
  | _ => .stk
section
variable {X : Cx} {G : Gd} {pins : List (Addr × Obj)} {σ : L2.St} {H : Hp} {s : Shared} {r : List Addr}
theorem each_of {vs : List V} {us : List Value} {ds : List D} (hs : Reps G r H vs ds) (rv : Vals vs us) : PySem.W.EachIs (fun v d => ∃ x, RelV x v ∧ Rep G r H x d) us ds := by
  induction rv generalizing ds with
  | nil => cases hs; exact .nil
  | cons h _ ih =>
    cases hs with
    | cons h1 h2 => exact .cons ⟨_, h, h1⟩ (ih h2)
theorem of_each : ∀ {us : List Value} {ds : List D}, PySem.W.EachIs (fun v d => ∃ x, RelV x v ∧ Rep G r H x d) us ds → ∃ vs, Vals vs us ∧ Reps G r H vs ds
  | _, _, .nil => ⟨[], .nil, .nil⟩
  | _, _, .cons ⟨x, h1, h2⟩ t => by
    obtain ⟨vs, a, b⟩ := of_each t
    exact ⟨x :: vs, .cons h1 a, .cons h2 b⟩
theorem sortOk_at {xs : List D} (h : sortOk xs = true) : (∀ d ∈ xs, (pyV d).isSome = true ∧ (encD d).depth ≤ 40) ∧ PySem.W.AllAlike (xs.map encD) ∧ PySem.W.Sortable (xs.map encD) := by
  unfold sortOk at h
  rw [Bool.and_eq_true, Bool.and_eq_true, Bool.or_eq_true] at h
  obtain ⟨h1, h2, h3⟩ := h
  refine ⟨fun d hd => ?_, fun a ha b hb => ?_, ?_⟩
  · have q := List.all_eq_true.mp h1 d hd
    rw [Bool.and_eq_true] at q
    exact ⟨q.1, Nat.le_of_ble_eq_true q.2⟩
  · obtain ⟨x, hx, rfl⟩ := List.mem_map.mp ha
    obtain ⟨y, hy, rfl⟩ := List.mem_map.mp hb
    exact List.all_eq_true.mp (List.all_eq_true.mp h2 x hx) y hy
  · rcases h3 with h3 | h3
    · refine .inl fun a ha => ?_
      obtain ⟨x, hx, rfl⟩ := List.mem_map.mp ha
      have q := List.all_eq_true.mp h3 x hx
      unfold tupB at q
      split at q
      · next e => exact ⟨_, _, e⟩
      · cases q
    · refine .inr fun a ha => ?_
      obtain ⟨x, hx, rfl⟩ := List.mem_map.mp ha
      have q := List.all_eq_true.mp h3 x hx
      exact ⟨(fun e => by rw [e] at q; cases q), (fun ys e => by rw [e] at q; cases q)⟩
theorem each_reads (hK : G.K = X.K) (I : Inv X pins σ H s) {us : List Value} {ds : List D} (e : PySem.W.EachIs (fun v d => ∃ x, RelV x v ∧ Rep G r H x d) us ds) (h : ∀ d ∈ ds, (pyV d).isSome = true) : PySem.W.EachIs (fun v b => ∃ as, Reads s.heap v (encD b) as) us ds := by
  induction e with
  | nil => exact .nil
  | cons q _ ih =>
    obtain ⟨x, h1, h2⟩ := q
    refine .cons ?_ (ih fun d hd => h d (List.mem_cons_of_mem _ hd))
    have z := h _ List.mem_cons_self
    obtain ⟨y, ey⟩ := Option.isSome_iff_exists.mp z
    obtain ⟨as, ra, _⟩ := reads_ofV hK I h2 h1 ey
    refine ⟨as, ?_⟩
    unfold encD
    rw [ey]
    exact ra
theorem CaS.sorted (hK : G.K = X.K) (hu : X.A.units + 64 < cLine) : CaS G X (.builtin "sorted") sortO := by
  intro W tk σ r M H vs ds Q S Rs p
  cases Rs with
  | nil => exact p.elim
  | cons h1 h2 =>
    cases h2 with
    | cons _ _ => exact p.elim
    | nil =>
      rename_i x d
      unfold sortO at p
      dsimp only at p
      unfold sortM at p
      cases ed : valD M d with
      | lst xs =>
        rw [ed] at p
        dsimp only at p
        by_cases c : (sortOk xs && Nat.ble xs.length sizeLine) = true
        · rw [if_pos c] at p
          rw [Bool.and_eq_true] at c
          obtain ⟨c1, c2⟩ := c
          have c2 := Nat.le_of_ble_eq_true c2
          obtain ⟨k1, k2, k3⟩ := sortOk_at c1
          obtain ⟨a, ws, rfl, ha, hs⟩ := val_lst S h1 ed
          intro pins s σ1 us I rx
          rw [Vals.ref1 rx]
          obtain ⟨its, rv, hl, hz⟩ := I.list (.inl (.inl ha))
          have e := each_of hs rv
          have hT : PySem.W.TotalLe (PySem.W.dataLe false encD) := PySem.W.sortLe_total _ _ _
          refine PySem.W.sorted_data (enc := encD) hl.isList e (each_reads hK I e fun d hd => (k1 d hd).1) k2 k3 c2 (fun b hb => by have := (k1 b hb).2; omega) fun out ho eo => ?_
          rw [isort_merge hT] at eo
          obtain ⟨ys, r1, r2⟩ := of_each eo
          obtain ⟨ep, he'⟩ := PyProof.Rows.sortedAll_at s.heap its out.toArray
          have hlen : ys.length ≤ sizeLine := by rw [r2.length, (isort_perm xs).length_eq]; exact c2
          have hn := I.hok.fresh (Nat.le_succ s.heap.objs.size)
          obtain ⟨L, S'⟩ := S.new (o := .lst ys) hn
          exact ⟨.ref _, upd H (s.heap.objs.size + 1) (.lst ys), I.laid (t' := s.toks) (fun _ _ => PyProof.Rows.sortedAll_old) (Nat.le_succ _) ⟨hlen, out, ep, r1, he'⟩, rfl, p r _ L S' _ (.lst (off_new (S.fresh hn)) (r2.le L))⟩
        · rw [if_neg c] at p; exact p.elim
      | _ => rw [ed] at p; exact p.elim
/-! ### min of ints, of texts -/
def intsB : D → Bool
  | .int _ => true
  | _ => false
def strsB : D → Bool
  | .str _ => true
  | _ => false
def minDs (x : D) (xs : List D) : D := xs.foldl (fun a y => if PySem.W.dataLt (encD y) (encD a) then y else a) x
def minM (M : List D) (d : D) : Option D := match valD M d with
  | .lst (x :: xs) => if ((x :: xs).all intsB || (x :: xs).all strsB) then some (minDs x xs) else none
  | _ => none
def minO : List D → Ev D := fun ds M => match ds with
  | [d] => optE (minM M d) M
  | _ => .stk
theorem minDs_enc (x : D) (xs : List D) : encD (minDs x xs) = PySem.W.minD (encD x) (xs.map encD) := by
  unfold minDs PySem.W.minD
  induction xs generalizing x with
  | nil => rfl
  | cons y ys ih =>
    rw [List.foldl_cons, List.map_cons, List.foldl_cons, ih]
    congr 1
    by_cases h : PySem.W.dataLt (encD y) (encD x) = true
    · rw [if_pos h, if_pos h]
    · rw [if_neg h, if_neg h]
theorem minDs_mem (x : D) (xs : List D) : minDs x xs ∈ x :: xs := by
  unfold minDs
  induction xs generalizing x with
  | nil => exact List.mem_cons_self
  | cons y ys ih =>
    rw [List.foldl_cons]
    have q := ih (if PySem.W.dataLt (encD y) (encD x) then y else x)
    rcases List.mem_cons.mp q with q | q
    · rw [q]
      by_cases h : PySem.W.dataLt (encD y) (encD x) = true
      · rw [if_pos h]; exact List.mem_cons_of_mem _ List.mem_cons_self
      · rw [if_neg h]; exact List.mem_cons_self
    · exact List.mem_cons_of_mem _ (List.mem_cons_of_mem _ q)
theorem each_get {us : List Value} {ds : List D} (e : PySem.W.EachIs (fun v d => ∃ x, RelV x v ∧ Rep G r H x d) us ds) : ∀ {i : Nat} {v : Value}, us[i]? = some v → ∃ d x, ds[i]? = some d ∧ RelV x v ∧ Rep G r H x d := by
  induction e with
  | nil => intro i v h; simp at h
  | cons q _ ih =>
    intro i v h
    cases i with
    | zero =>
      obtain ⟨x, h1, h2⟩ := q
      simp at h
      subst h
      exact ⟨_, x, rfl, h1, h2⟩
    | succ i => simpa using ih (i := i) (v := v) (by simpa using h)
theorem CaS.min (hK : G.K = X.K) (hc : X.calm = true) (hu : X.A.units + 64 < cLine) : CaS G X (.builtin "min") minO := by
  intro W tk σ r M H vs ds Q S Rs p
  cases Rs with
  | nil => exact p.elim
  | cons h1 h2 =>
    cases h2 with
    | cons _ _ => exact p.elim
    | nil =>
      rename_i x d
      unfold minO at p
      dsimp only at p
      unfold minM at p
      cases ed : valD M d with
      | lst ys =>
        rw [ed] at p
        cases ys with
        | nil => exact p.elim
        | cons y ys =>
          dsimp only at p
          by_cases c : ((y :: ys).all intsB || (y :: ys).all strsB) = true
          · rw [if_pos c] at p
            rw [Bool.or_eq_true] at c
            have al : ∀ a ∈ y :: ys, ∀ b ∈ y :: ys, PySem.W.alike (encD a) (encD b) = true ∧ encD a ≠ .none ∧ (encD a).depth = 0 ∧ (pyV a).isSome = true ∧ (encD a = encD b → a = b) := by
              intro a ha b hb
              rcases c with c | c
              · have q1 := List.all_eq_true.mp c a ha
                have q2 := List.all_eq_true.mp c b hb
                cases a with
                | int i =>
                  cases b with
                  | int j => exact ⟨rfl, (fun z => by cases z), rfl, rfl, (fun z => by cases z; rfl)⟩
                  | _ => cases q2
                | _ => cases q1
              · have q1 := List.all_eq_true.mp c a ha
                have q2 := List.all_eq_true.mp c b hb
                cases a with
                | str i =>
                  cases b with
                  | str j => exact ⟨rfl, (fun z => by cases z), rfl, rfl, (fun z => by cases z; rfl)⟩
                  | _ => cases q2
                | _ => cases q1
            obtain ⟨a, ws, rfl, ha, hs⟩ := val_lst S h1 ed
            intro pins s σ1 us I rx
            rw [Vals.ref1 rx]
            obtain ⟨its, rv, hl, hz⟩ := I.list (.inl (.inl ha))
            have e := each_of hs rv
            have er := each_reads hK I e fun d hd => (al d hd d hd).2.2.2.1
            obtain ⟨as, ra⟩ := PySem.W.each_readsAll encD er
            have dz : PyData.depthAll ((y :: ys).map encD) = 0 := by
              have gen : ∀ zs : List D, (∀ z ∈ zs, (encD z).depth = 0) → PyData.depthAll (zs.map encD) = 0 := by
                intro zs
                induction zs with
                | nil => intro _; rfl
                | cons z zs ih =>
                  intro h
                  rw [List.map_cons, PyData.depthAll, ih fun w hw => h w (List.mem_cons_of_mem _ hw), h z List.mem_cons_self]
                  rfl
              exact gen _ fun z hz => (al z hz z hz).2.2.1
            refine PySem.W.min_list_data (x := encD y) (xs := ys.map encD) (I.ok.hd hc) hl.isList (by simpa using ra) ⟨fun a' ha' b' hb' => ?_, fun a' ha' => ?_⟩ (by rw [← List.map_cons, dz]; omega) fun i v h' tk bs hv hr hk => ?_
            · rw [← List.map_cons] at ha' hb'
              obtain ⟨x1, m1, rfl⟩ := List.mem_map.mp ha'
              obtain ⟨x2, m2, rfl⟩ := List.mem_map.mp hb'
              exact (al x1 m1 x2 m2).1
            · rw [← List.map_cons] at ha'
              obtain ⟨x1, m1, rfl⟩ := List.mem_map.mp ha'
              exact (al x1 m1 x1 m1).2.1
            · obtain ⟨di, vi, e1, e2, e3⟩ := each_get e (by simpa using hv)
              have mi : di ∈ y :: ys := List.mem_of_getElem? e1
              obtain ⟨z, ez⟩ := Option.isSome_iff_exists.mp (al di mi di mi).2.2.2.1
              obtain ⟨as', ra', _⟩ := reads_ofV hK (I.kept (t' := tk) hk) e3 e2 ez
              have eq : encD di = encD (minDs y ys) := by
                rw [minDs_enc]
                have e4 : encD di = z := by unfold encD; rw [ez]; rfl
                rw [e4]
                exact (PySem.Reads.unique ra' _ _ hr).1
              have : di = minDs y ys := (al di mi _ (minDs_mem y ys)).2.2.2.2 eq
              subst this
              exact ⟨vi, H, I.kept hk, e2, p r H S.le S vi e3⟩
          · rw [if_neg c] at p; exact p.elim
      | _ => rw [ed] at p; exact p.elim
end
end Iv
/-! list(zip(xs, ys)) of two lists. -/
namespace Iv
open PySem PySem.Spec PyProof.Rows L2 NdefX ClX
theorem zipNoLen : typeLookup (.type "zip") "__len__" = pure none := by rw [typeLookup_type, builtinLookup_eq_fast] <;> kernel_rfl
theorem zipNoHint : typeLookup (.type "zip") "__length_hint__" = pure none := by rw [typeLookup_type, builtinLookup_eq_fast] <;> kernel_rfl
section
variable {prog : Program} {w : World} {A : Around} {E : Value → Shared → Prop} {z TI TO i1 i2 l1 l2 S : Addr} {xs ys : Array Value}
/-- a zip of which i pairs are out, the last one kept elsewhere -/
structure ZSt (z TI TO i1 i2 l1 l2 S : Addr) (xs ys : Array Value) (i : Nat) (h : Heap) : Prop where
  ti : IsPair h TI (.ref i1) (.ref i2)
  a1 : h.IsListIter i1 l1 i
  a2 : h.IsListIter i2 l2 i
  b1 : h.IsList l1 xs
  b2 : h.IsList l2 ys
  o : (IsZip h z TI TO .none ∧ ∃ a b, IsPair h TO a b) ∨ ∃ T f oT, IsZipHeld h z TI TO T f ∧ h.get? T = some oT ∧ T ≠ z ∧ T ≠ i1 ∧ T ≠ i2 ∧ T ≠ S
/-- S stands apart -/
structure ZOff (z TI TO i1 i2 l1 l2 S : Addr) : Prop where
  z : S ≠ z
  TI : S ≠ TI
  TO : S ≠ TO
  i1 : S ≠ i1
  i2 : S ≠ i2
  l1 : S ≠ l1
  l2 : S ≠ l2
theorem ZSt.at_ {i : Nat} {h h' : Heap} (D : ZOff z TI TO i1 i2 l1 l2 S) (k : ∀ b o, b ≠ S → h.get? b = some o → h'.get? b = some o) (st : ZSt z TI TO i1 i2 l1 l2 S xs ys i h) : ZSt z TI TO i1 i2 l1 l2 S xs ys i h' := by
  refine ⟨k _ _ D.TI.symm st.ti, st.a1.at fun o => k _ o D.i1.symm, st.a2.at fun o => k _ o D.i2.symm, st.b1.at fun o => k _ o D.l1.symm, st.b2.at fun o => k _ o D.l2.symm, ?_⟩
  rcases st.o with ⟨q, a, b, q2⟩ | ⟨T, f, oT, q, q2, r1, r2, r3, r4⟩
  · exact .inl ⟨k _ _ D.z.symm q, a, b, k _ _ D.TO.symm q2⟩
  · exact .inr ⟨T, f, oT, k _ _ D.z.symm q, k _ _ r4 q2, r1, r2, r3, r4⟩
/-- one pair more -/
theorem ZSt.next {s : Shared} {i : Nat} {Q : Option Value → Shared → Prop} (Z : ZipApart z TI TO i1 i2 l1 l2) (st : ZSt z TI TO i1 i2 l1 l2 S xs ys i s.heap) (lt : i < min xs.size ys.size) (hS : S < s.heap.objs.size)
    (q : ∀ h' x y, xs[i]? = some x → ys[i]? = some y → ZSt z TI TO i1 i2 l1 l2 S xs ys (i + 1) h' → IsPair h' s.heap.objs.size x y → (∀ c o, c ≠ z → c ≠ TO → c ≠ i1 → c ≠ i2 → s.heap.get? c = some o → h'.get? c = some o) → s.heap.objs.size ≤ h'.objs.size →
      Q (some (.ref s.heap.objs.size)) { s with heap := h' }) : wpAny (model prog w) A (pyNext (.ref z)) Q E s := by
  have ex := Array.getElem?_eq_getElem (Nat.lt_of_lt_of_le lt (Nat.min_le_left ..))
  have ey := Array.getElem?_eq_getElem (Nat.lt_of_lt_of_le lt (Nat.min_le_right ..))
  have new : ∀ {c : Addr} {o : Obj}, s.heap.get? c = some o → s.heap.objs.size ≠ c := fun e => Nat.ne_of_gt (Heap.lt_size e)
  have n1 : s.heap.objs.size ≠ i1 := by obtain ⟨_, e, _⟩ := st.a1; exact new e
  have n2 : s.heap.objs.size ≠ i2 := by obtain ⟨_, e, _⟩ := st.a2; exact new e
  rcases st.o with ⟨p, a, b, p2⟩ | ⟨T, f, oT, p, p2, r1, r2, r3, r4⟩
  · refine wpAny_pyNext_zip_item Z p st.ti p2 st.a1 st.a2 st.b1 st.b2 ex ey fun h' c1 c2 c3 c4 c5 c6 k => q h' _ _ ex ey ⟨?_, c3, c4, ?_, ?_, ?_⟩ c5 k (by omega)
    · exact k _ _ Z.TIz Z.TITO Z.TIi1 Z.TIi2 st.ti
    · exact st.b1.at fun o => k _ o Z.l1z Z.l1TO Z.l1i1 Z.l1i2
    · exact st.b2.at fun o => k _ o Z.l2z Z.l2TO Z.l2i1 Z.l2i2
    · exact .inr ⟨_, false, _, c1, c5, new p, n1, n2, Nat.ne_of_gt hS⟩
  · refine wpAny_pyNext_zip_item_held Z p p2 st.ti st.a1 st.a2 st.b1 st.b2 ex ey fun h' c1 c3 c4 c5 c6 k => q h' _ _ ex ey ⟨?_, c3, c4, ?_, ?_, ?_⟩ c5 (fun c o h1 _ h3 h4 e => k c o h1 h3 h4 e) (by omega)
    · exact k _ _ Z.TIz Z.TIi1 Z.TIi2 st.ti
    · exact st.b1.at fun o => k _ o Z.l1z Z.l1i1 Z.l1i2
    · exact st.b2.at fun o => k _ o Z.l2z Z.l2i1 Z.l2i2
    · exact .inr ⟨T, true, oT, c1, k _ _ r1 r2 r3 p2, r1, r2, r3, r4⟩
theorem ZSt.fin {s : Shared} {Q : Option Value → Shared → Prop} (hh : A.handled = none) (Z : ZipApart z TI TO i1 i2 l1 l2) (st : ZSt z TI TO i1 i2 l1 l2 S xs ys (min xs.size ys.size) s.heap)
    (q : ∀ h', (∀ c o, c ≠ z → c ≠ TO → c ≠ i1 → c ≠ i2 → s.heap.get? c = some o → h'.get? c = some o) → Q none { s with heap := h' }) : wpAny (model prog w) A (pyNext (.ref z)) Q E s := by
  have e : xs[min xs.size ys.size]? = none ∨ ys[min xs.size ys.size]? = none := by
    by_cases c : xs.size ≤ ys.size
    · exact .inl (Array.getElem?_eq_none (by omega))
    · exact .inr (Array.getElem?_eq_none (by omega))
  rcases st.o with ⟨p, a, b, p2⟩ | ⟨T, f, oT, p, p2, _⟩
  · exact wpAny_pyNext_zip_end hh Z p st.ti p2 st.a1 st.a2 st.b1 st.b2 e q
  · exact wpAny_pyNext_zip_end_held hh Z p p2 st.ti st.a1 st.a2 st.b1 st.b2 e fun h' k => q h' fun c o h1 _ h3 h4 e => k c o h1 h3 h4 e
/-- the pairs so far, each a tuple of its own -/
def ZAcc (xs ys : Array Value) (lo : Nat) (h : Heap) (as : List Addr) : Prop := as.Nodup ∧ ∀ (j : Nat) (T : Addr), as[j]? = some T → lo ≤ T ∧ ∃ x y, xs[j]? = some x ∧ ys[j]? = some y ∧ IsPair h T x y
theorem zipTurns {R : Result → Shared → Prop} (hh : A.handled = none) (Z : ZipApart z TI TO i1 i2 l1 l2) (D : ZOff z TI TO i1 i2 l1 l2 S) {lo : Nat} (hlo : z < lo ∧ TO < lo ∧ i1 < lo ∧ i2 < lo ∧ S < lo) (sz : min xs.size ys.size ≤ sizeLine) :
    ∀ (m i : Nat) (s : Shared) (as : List Addr) (c : Nat), i + m = min xs.size ys.size → ZSt z TI TO i1 i2 l1 l2 S xs ys i s.heap → s.heap.get? S = some { cls := .type "list", dict := none, data := .seq (as.map Value.ref).toArray c, slots := #[] } → as.length = i → ZAcc xs ys lo s.heap as → lo ≤ s.heap.objs.size →
      (∀ h' as' c', (∀ b o, b ≠ z → b ≠ TO → b ≠ i1 → b ≠ i2 → b ≠ S → s.heap.get? b = some o → h'.get? b = some o) → h'.get? S = some { cls := .type "list", dict := none, data := .seq (as'.map Value.ref).toArray c', slots := #[] } → as'.length = min xs.size ys.size → ZAcc xs ys lo h' as' → R (.ok (.ret .none)) { s with heap := h' }) →
      codeAny (model prog w) A (.builtin "list.extend.loop" ⟨[.ref S, .ref z, .none], []⟩) R s := by
  have keepA : ∀ {h h' : Heap} {as : List Addr}, (∀ b o, b ≠ z → b ≠ TO → b ≠ i1 → b ≠ i2 → b ≠ S → h.get? b = some o → h'.get? b = some o) → ZAcc xs ys lo h as → ZAcc xs ys lo h' as := fun k q => ⟨q.1, fun j T e => by
    obtain ⟨a1, x, y, e1, e2, e3⟩ := q.2 j T e
    obtain ⟨b1, b2, b3, b4, b5⟩ := hlo
    have nn : ∀ {c : Addr}, c < lo → T ≠ c := fun h z => absurd a1 (by rw [z]; exact Nat.not_le.mpr h)
    exact ⟨a1, x, y, e1, e2, k _ _ (nn b1) (nn b2) (nn b3) (nn b4) (nn b5) e3⟩⟩
  intro m
  induction m with
  | zero =>
    intro i s as c hi st hS hl ha hz out
    obtain rfl : i = min xs.size ys.size := hi
    refine codeAny_builtin F.entry_extend_loop ?_
    rw [Around.under_plainId (id := "list.extend.loop") F.plain_extend_loop ⟨_, _⟩]
    refine wpAny_bind (ZSt.fin (A := A.in1) (by simp [hh]) Z st fun h' k => ?_)
    exact wpAny_pure (out h' as c (fun b o h1 h2 h3 h4 _ e => k b o h1 h2 h3 h4 e) (k _ _ D.z D.TO D.i1 D.i2 hS) hl (keepA (fun b o h1 h2 h3 h4 _ e => k b o h1 h2 h3 h4 e) ha))
  | succ m ih =>
    intro i s as c hi st hS hl ha hz out
    have lt : i < min xs.size ys.size := by omega
    have hSl := Heap.lt_size hS
    refine codeAny_builtin F.entry_extend_loop ?_
    rw [Around.under_plainId (id := "list.extend.loop") F.plain_extend_loop ⟨_, _⟩]
    refine wpAny_bind (ZSt.next (A := A.in1) Z st lt hSl fun h' x y ex ey st' pr k sz' => ?_)
    have hS1 := k _ _ D.z D.TO D.i1 D.i2 hS
    have hS2 := Heap.get?_update_self (Obj.mapSeq fun q => q.push (.ref s.heap.objs.size)) hS1 rfl
    have oth : ∀ b o, b ≠ S → h'.get? b = some o → (h'.update S (Obj.mapSeq fun q => q.push (.ref s.heap.objs.size))).get? b = some o := fun b o hb e => (Heap.get?_update_other _ _ (Ne.symm hb)).trans e
    show wpAny _ A.in1 (updateSeq S (fun q => q.push (.ref s.heap.objs.size)) >>= _) _ _ { s with heap := h' }
    refine wpAny_bind (wpAny_updateSeq hS1 rfl (wpAny_pure ⟨plainId_quiet F.plain_extend_loop _, ih (i + 1) _ (as ++ [s.heap.objs.size]) _ (by omega) (st'.at_ D oth) (by simpa [Obj.mapSeq] using hS2) (by simp [hl]) ?_ ?_ fun h2 as' c' k2 => ?_⟩) ?_ ?_)
    · have q1 := keepA (fun b o h1 h2 h3 h4 h5 e => oth b o h5 (k b o h1 h2 h3 h4 e)) ha
      refine ⟨?_, fun j T e => ?_⟩
      · rw [List.nodup_append]
        refine ⟨q1.1, by simp, fun T hT b hb => ?_⟩
        rw [List.mem_singleton.mp hb]
        obtain ⟨j, hj, e⟩ := List.getElem_of_mem hT
        obtain ⟨_, x', y', _, _, e3⟩ := ha.2 j T (by rw [List.getElem?_eq_getElem hj, e])
        exact Nat.ne_of_lt (Heap.lt_size e3)
      by_cases c1 : j < as.length
      · exact q1.2 j T (by rw [List.getElem?_append_left c1] at e; exact e)
      · rw [List.getElem?_append_right (Nat.le_of_not_lt c1)] at e
        cases c2 : j - as.length with
        | succ n => rw [c2] at e; simp at e
        | zero =>
          rw [c2] at e
          cases e
          obtain rfl : j = i := by omega
          exact ⟨hz, x, y, ex, ey, oth _ _ (Nat.ne_of_gt hSl) pr⟩
    · show lo ≤ (h'.update S (Obj.mapSeq fun q => q.push (.ref s.heap.objs.size))).objs.size
      rw [Heap.size_update]
      omega
    · exact out h2 as' c' fun b o h1 h2 h3 h4 h5 e => k2 b o h1 h2 h3 h4 h5 (oth b o h5 (k b o h1 h2 h3 h4 e))
    all_goals first | (simp; omega) | (simp only [List.size_toArray, List.length_map, Array.size_push]; omega) | skip
/-- what comes of the new list -/
abbrev ZOut (xs ys : Array Value) (S lo : Nat) (s : Shared) (Q : Shared → Prop) : Prop := ∀ h' as c', (∀ b o, b < lo → s.heap.get? b = some o → h'.get? b = some o) → h'.get? S = some { cls := .type "list", dict := none, data := .seq (as.map Value.ref).toArray c', slots := #[] } → as.length = min xs.size ys.size → ZAcc xs ys lo h' as → Q { s with heap := h' }
theorem zipInit {R : Result → Shared → Prop} {s : Shared} {n0 : Nat} (hh : A.handled = none) (Z : ZipApart z TI TO i1 i2 l1 l2) (D : ZOff z TI TO i1 i2 l1 l2 S) {lo : Nat} (hlo : n0 ≤ z ∧ n0 ≤ TO ∧ n0 ≤ i1 ∧ n0 ≤ i2 ∧ n0 ≤ S ∧ z < lo ∧ TO < lo ∧ i1 < lo ∧ i2 < lo ∧ S < lo) (sz : min xs.size ys.size ≤ sizeLine)
    (st : ZSt z TI TO i1 i2 l1 l2 S xs ys 0 s.heap) (hp : IsZip s.heap z TI TO .none) (hS : s.heap.get? S = some { cls := .type "list", data := .seq #[] }) (hz : lo ≤ s.heap.objs.size)
    (out : ∀ h' as c', (∀ b o, b < n0 → s.heap.get? b = some o → h'.get? b = some o) → h'.get? S = some { cls := .type "list", dict := none, data := .seq (as.map Value.ref).toArray c', slots := #[] } → as.length = min xs.size ys.size → ZAcc xs ys lo h' as → R (.ok (.ret .none)) { s with heap := h' }) :
    wpAny (model prog w) A.in1 (Builtin.«list.__init__» ⟨[.ref S, .ref z], []⟩)
      (fun fin s' => match fin with
        | .done f => R (.ok f) s'
        | .again c' => c'.quiet = true ∧ codeAny (model prog w) A c' R s')
      (fun e s' => R (.error e) s') s := by
  have tz : ∀ {h : Heap} {i : Nat}, ZSt z TI TO i1 i2 l1 l2 S xs ys i h → ∃ o, h.get? z = some o ∧ o.cls = .type "zip" := fun st => by
    rcases st.o with ⟨p, _⟩ | ⟨_, _, _, p, _⟩ <;> exact ⟨_, p, rfl⟩
  have pz : ∀ {h : Heap} {i : Nat} {g d t os}, ZSt z TI TO i1 i2 l1 l2 S xs ys i h → Shared.TypeIs ⟨h, g, d, t, os⟩ (.ref z) "zip" := fun st => tz st
  show wpAny _ A.in1 (Builtin.List.listItems (.ref S) >>= _) _ _ s
  unfold Builtin.List.listItems
  refine wpAny_bind (wpAny_bind (wpAny_seqItems hS rfl ?_))
  refine wpAny_pure ?_
  have u1 := Heap.get?_update_self (Obj.mapSeq fun _ => (#[] : Array Value)) hS rfl
  have k1 : ∀ b o, b ≠ S → s.heap.get? b = some o → (s.heap.update S (Obj.mapSeq fun _ => (#[] : Array Value))).get? b = some o := fun b o hb e => (Heap.get?_update_other _ _ (Ne.symm hb)).trans e
  show wpAny _ A.in1 (updateSeq S (fun _ => #[]) >>= _) _ _ s
  refine wpAny_bind (wpAny_updateSeq hS rfl ?_)
  refine wpAny_bind (wpAny_letGo ?_)
  generalize hh1 : s.heap.update S (Obj.mapSeq fun _ => (#[] : Array Value)) = h1 at *
  have st1 := st.at_ D k1
  have z1 : h1.objs.size = s.heap.objs.size := by rw [← hh1, Heap.size_update]
  unfold Builtin.List.listExtendWith
  refine wpAny_bind (wpAny_typeOf (pz st1) ?_)
  have e1 : Builtin.List.listSameRef (.ref S) (.ref z) = false := by simp [Builtin.List.listSameRef, D.z]
  have e2 : (Value.type "zip" == Value.type "list") = false := by decide
  have e3 : (Value.type "zip" == Value.type "tuple") = false := by decide
  rw [e1, e2, e3]
  show wpAny _ A.in1 (pyIter (.ref z) >>= _) _ _ _
  refine wpAny_bind (wpAny_pyIter_zip (k1 _ _ D.z.symm hp) ?_)
  refine wpAny_bind (wpAny_holding ?_)
  unfold Builtin.List.listLengthHint
  refine wpAny_bind (wpAny_specialOf (pz st1) zipNoLen ?_)
  show wpAny _ A.in1 (specialOf (Value.ref z) (Str.ofString "__length_hint__") >>= _) _ _ _
  refine wpAny_bind (wpAny_specialOf (pz st1) zipNoHint ?_)
  refine wpAny_pure ?_
  rw [Bool.true_or]
  show wpAny _ A.in1 (rule "list.extend.makes-room" >>= _) _ _ _
  refine wpAny_bind (wpAny_rule (wpAny_bind ?_))
  have u1' : h1.get? S = some { cls := .type "list", dict := none, data := .seq #[], slots := #[] } := by simpa [Obj.mapSeq] using u1
  have u2 := Heap.get?_update_self (Obj.mapSeq fun q => q.push Value.none) u1' rfl
  have k2 : ∀ b o, b ≠ S → h1.get? b = some o → (h1.update S (Obj.mapSeq fun q => q.push Value.none)).get? b = some o := fun b o hb e => (Heap.get?_update_other _ _ (Ne.symm hb)).trans e
  have z2 : (h1.update S (Obj.mapSeq fun q => q.push Value.none)).objs.size = h1.objs.size := Heap.size_update ..
  show wpAny _ A.in1 (updateSeq S (fun q => q.push Value.none) >>= fun _ => updateSeq S fun q => q.pop) _ _ _
  refine wpAny_bind (wpAny_updateSeq u1' rfl ?_)
  generalize h1.update S (Obj.mapSeq fun q => q.push Value.none) = h2 at *
  have st2 := st1.at_ D k2
  have u3 := Heap.get?_update_self (Obj.mapSeq fun q => q.pop) u2 rfl
  have k3 : ∀ b o, b ≠ S → h2.get? b = some o → (h2.update S (Obj.mapSeq fun q => q.pop)).get? b = some o := fun b o hb e => (Heap.get?_update_other _ _ (Ne.symm hb)).trans e
  have z3 : (h2.update S (Obj.mapSeq fun q => q.pop)).objs.size = h2.objs.size := Heap.size_update ..
  refine wpAny_updateSeq (hz := by seq_fits) u2 rfl ?_
  generalize h2.update S (Obj.mapSeq fun q => q.pop) = h3 at *
  have st3 := st2.at_ D k3
  refine wpAny_pure ⟨plainId_quiet F.plain_extend_loop _, ?_⟩
  obtain ⟨y1, y2, y3, y4, y5, y6, y7, y8, y9, y10⟩ := hlo
  refine zipTurns (R := R) hh Z D (lo := lo) ⟨y6, y7, y8, y9, y10⟩ sz _ 0 _ [] _ (Nat.zero_add _) st3 (by simpa [Obj.mapSeq] using u3) rfl ⟨List.nodup_nil, fun j T e => by simp at e⟩ (by show lo ≤ h3.objs.size; rw [z3, z2, z1]; exact hz) fun h' as' c' k e1 e2 e3 => ?_
  have nn : ∀ {b c : Addr}, b < n0 → n0 ≤ c → b ≠ c := fun h1 h2 z => absurd h1 (by rw [z]; exact Nat.not_lt.mpr h2)
  refine out h' as' c' (fun b o hb e => ?_) e1 e2 e3
  exact k b o (nn hb y1) (nn hb y2) (nn hb y3) (nn hb y4) (nn hb y5) (k3 b o (nn hb y5) (k2 b o (nn hb y5) (k1 b o (nn hb y5) e)))
theorem listZip {s : Shared} {Q : Value → Shared → Prop} (hh : A.handled = none) (Z : ZipApart z TI TO i1 i2 l1 l2) {n0 : Nat} (lz : n0 ≤ z ∧ n0 ≤ TO ∧ n0 ≤ i1 ∧ n0 ≤ i2) (bz : z < s.heap.objs.size ∧ TI < s.heap.objs.size ∧ TO < s.heap.objs.size ∧ i1 < s.heap.objs.size ∧ i2 < s.heap.objs.size ∧ l1 < s.heap.objs.size ∧ l2 < s.heap.objs.size) (n0s : n0 ≤ s.heap.objs.size)
    (sz : min xs.size ys.size ≤ sizeLine) (hp : IsZip s.heap z TI TO .none) (hTO : ∃ a b, IsPair s.heap TO a b) (ti : IsPair s.heap TI (.ref i1) (.ref i2)) (a1 : s.heap.IsListIter i1 l1 0) (a2 : s.heap.IsListIter i2 l2 0) (b1 : s.heap.IsList l1 xs) (b2 : s.heap.IsList l2 ys)
    (out : ∀ h' as c', (∀ b o, b < n0 → s.heap.get? b = some o → h'.get? b = some o) → h'.get? s.heap.objs.size = some { cls := .type "list", dict := none, data := .seq (as.map Value.ref).toArray c', slots := #[] } → as.length = min xs.size ys.size → ZAcc xs ys (s.heap.objs.size + 1) h' as → Q (.ref s.heap.objs.size) { s with heap := h' }) :
    wpAny (model prog w) A (call (.type "list") [.ref z]) Q E s := by
  refine callType_codes (Q₁ := fun obj s1 => obj = .ref s.heap.objs.size ∧ s1 = { s with heap := s.heap.push { cls := .type "list", data := .seq #[] } }) F.called_list (F.typeCall_list_1 _) F.entry_list_init (code_list_new _ ⟨rfl, rfl⟩) fun obj s1 q1 => ?_
  obtain ⟨rfl, rfl⟩ := q1
  have hS : (s.heap.push { cls := .type "list", data := .seq #[] }).get? s.heap.objs.size = some { cls := .type "list", data := .seq #[] } := Heap.get?_push_size _ rfl
  have up : ∀ b o, s.heap.get? b = some o → (s.heap.push { cls := .type "list", data := .seq #[] }).get? b = some o := fun _ _ e => Heap.get?_push_of_some _ e
  have zz : (s.heap.push { cls := .type "list", data := .seq #[] }).objs.size = s.heap.objs.size + 1 := Heap.size_push ..
  obtain ⟨w1, w2, w3, w4, w5, w6, w7⟩ := bz
  obtain ⟨x1, x2, x3, x4⟩ := lz
  refine ⟨⟨_, hS, rfl⟩, F.args_list_init_2 _ _, ?_⟩
  refine zipInit (by simp [hh]) Z ⟨Nat.ne_of_gt w1, Nat.ne_of_gt w2, Nat.ne_of_gt w3, Nat.ne_of_gt w4, Nat.ne_of_gt w5, Nat.ne_of_gt w6, Nat.ne_of_gt w7⟩ (n0 := n0) (lo := s.heap.objs.size + 1) ⟨x1, x2, x3, x4, n0s, Nat.lt_succ_of_lt w1, Nat.lt_succ_of_lt w3, Nat.lt_succ_of_lt w4, Nat.lt_succ_of_lt w5, Nat.lt_succ_self _⟩ sz
    ⟨up _ _ ti, a1.at fun o => up _ o, a2.at fun o => up _ o, b1.at fun o => up _ o, b2.at fun o => up _ o, .inl ⟨up _ _ hp, hTO.imp fun _ ⟨b, q⟩ => ⟨b, up _ _ q⟩⟩⟩ (up _ _ hp) hS (by rw [zz]; exact Nat.le_refl _) fun h' as c' k e1 e2 e3 => ⟨rfl, out h' as c' (fun b o hb e => k b o hb (up b o e)) e1 e2 e3⟩
end
end Iv
/-! list(zip(xs, ys)) by data. -/
namespace Iv
open PySem PySem.Spec PyProof.Rows L2 NdefX ClX
/-- pairs of two lists' items -/
def zipD : List D → List D → List D
  | x :: xs, y :: ys => .tup [x, y] :: zipD xs ys
  | _, _ => []
section
variable {X : Cx} {G : Gd} {pins : List (Addr × Obj)} {σ : L2.St} {r : List Addr} {M : List D}
/-- many new pairs -/
theorem lay_pairs (g : Array GenState) (dr : Drawn) (os : OsState) (h' : Heap) : ∀ (as : List Addr) (ds es : List D) (Gp : Heap) (H : Hp) (tk : Nat), Inv X pins σ H ⟨Gp, g, dr, tk, os⟩ → StOk G r M H → (∀ b o, Gp.get? b = some o → h'.get? b = some o) → as.Nodup → (∀ a ∈ as, Gp.get? a = none ∧ H a = none) → as.length = min ds.length es.length →
    (∀ (j : Nat) (a : Addr), as[j]? = some a → ∃ (x y : D) (vx vy : V) (ux uy : Value), ds[j]? = some x ∧ es[j]? = some y ∧ Rep G r H vx x ∧ Rep G r H vy y ∧ RelV vx ux ∧ RelV vy uy ∧ IsPair h' a ux uy) →
    ∃ (G2 : Heap) (H2 : Hp), Inv X pins σ H2 ⟨G2, g, dr, tk, os⟩ ∧ Le r H r H2 ∧ StOk G r M H2 ∧ (∀ b o, G2.get? b = some o → h'.get? b = some o) ∧ Reps G r H2 (as.map V.ref) (zipD ds es) ∧ ∀ b, b ∉ as → (Gp.get? b = none → G2.get? b = none) ∧ (H b = none → H2 b = none)
  | [], ds, es, Gp, H, tk, I, S, k, nd, fr, hl, pr => by
    refine ⟨Gp, H, I, S.le, S, k, ?_, fun b _ => ⟨id, id⟩⟩
    have : zipD ds es = [] := by
      cases ds with
      | nil => rfl
      | cons d ds =>
        cases es with
        | nil => rfl
        | cons e es => simp only [List.length_cons, List.length_nil] at hl; omega
    rw [this]
    exact .nil
  | a :: as, ds, es, Gp, H, tk, I, S, k, nd, fr, hl, pr => by
    obtain ⟨x, y, vx, vy, ux, uy, e1, e2, Rx, Ry, rx, ry, pa⟩ := pr 0 a rfl
    cases ds with
    | nil => simp at e1
    | cons d ds =>
      cases es with
      | nil => simp at e2
      | cons e es =>
        simp only [List.getElem?_cons_zero, Option.some.injEq] at e1 e2
        subst e1
        subst e2
        obtain ⟨ga, ha⟩ := fr a List.mem_cons_self
        obtain ⟨G1, g1, g2⟩ := restrict h' fun b => decide (b = a) || (Gp.get? b).isSome
        have k1 : ∀ b o, Gp.get? b = some o → G1.get? b = some o := fun b o q => by rw [g1 b (by rw [q]; simp)]; exact k b o q
        have pa1 : IsPair G1 a ux uy := (g1 a (by simp)).trans pa
        obtain ⟨L, S'⟩ := S.new (o := .tup [vx, vy]) ha
        have new : ObjOk X.prog X.w (upd H a (.tup [vx, vy])) G1 a (.tup [vx, vy]) := ⟨by show 2 ≤ sizeLine; decide, [ux, uy], .cons rx (.cons ry .nil), ⟨_, pa1, rfl, _, rfl⟩⟩
        have I1 : Inv X pins σ (upd H a (.tup [vx, vy])) ⟨G1, g, dr, tk, os⟩ := I.laidN (t' := tk) k1 ga ha new
        have na := (List.nodup_cons.mp nd)
        have ne : ∀ {b}, b ∈ as → b ≠ a := fun hb z => na.1 (by rw [← z]; exact hb)
        obtain ⟨G2, H2, I2, L2, S2, k2, R2, fin⟩ := lay_pairs g dr os h' as ds es G1 (upd H a (.tup [vx, vy])) tk I1 S' (fun b o q => by
            cases z : (decide (b = a) || (Gp.get? b).isSome) with
            | true => rw [g1 b z] at q; exact q
            | false => rw [g2 b z] at q; cases q) na.2 (fun b hb => by
            obtain ⟨f1, f2⟩ := fr b (List.mem_cons_of_mem _ hb)
            exact ⟨g2 b (by simp [ne hb, f1]), by rw [upd_ne (ne hb)]; exact f2⟩) (by simp only [List.length_cons] at hl; omega) fun j a' ej => by
            obtain ⟨x', y', vx', vy', ux', uy', q1, q2, q3, q4, q5⟩ := pr (j + 1) a' (by simpa using ej)
            exact ⟨x', y', vx', vy', ux', uy', by simpa using q1, by simpa using q2, q3.le L, q4.le L, q5⟩
        refine ⟨G2, H2, I2, L.trans L2, S2, k2, .cons (.tup ((SqT.of (off_new (S.fresh ha)) : SqT G.K (off G r (upd H a (.tup [vx, vy]))) a [vx, vy]) |> L2.sqT) (.cons ((Rx.le L).le L2) (.cons ((Ry.le L).le L2) .nil))) R2, fun b hb => ?_⟩
        have nb : b ≠ a := fun z => hb (by rw [z]; exact List.mem_cons_self)
        obtain ⟨f1, f2⟩ := fin b fun z => hb (List.mem_cons_of_mem _ z)
        exact ⟨fun q => f1 (g2 b (by simp [nb, q])), fun q => f2 (by rw [upd_ne nb]; exact q)⟩
end
/-- list(zip(x, y)) -/
def lzipM (M : List D) (x y : D) : Option D := match valD M x, valD M y with
  | .lst xs, .lst ys => if Nat.ble xs.length sizeLine then some (.lst (zipD xs ys)) else none
  | _, _ => none
def dLzip (a : DA) : DE := fun δ => bnd (a δ) fun ds M => match ds with
  | [x, y] => optE (lzipM M x y) M
  | _ => .stk
theorem vals_get {vs : List V} {us : List Value} (h : Vals vs us) : ∀ {j : Nat} {u : Value}, us[j]? = some u → ∃ v, vs[j]? = some v ∧ RelV v u := by
  induction h with
  | nil => intro j u e; simp at e
  | cons h _ ih =>
    intro j u e
    cases j with
    | zero =>
      simp at e
      subst e
      exact ⟨_, rfl, h⟩
    | succ j => simpa using ih (j := j) (u := u) (by simpa using e)
theorem vals_refs : ∀ as : List Addr, Vals (as.map V.ref) (as.map Value.ref)
  | [] => .nil
  | _ :: as => .cons rfl (vals_refs as)
theorem SE.lzip {G : Gd} {X : Cx} (hK : G.K = X.K) (hc : X.calm = true) {a b : Expr} {p p2 q pos : Pos} {m : DA} (hg : Gl X "list") (hm : X.mg "list" = none) (hg2 : Gl X "zip") (hm2 : X.mg "zip" = none) (ha : SA G X [a, b] m)
    (hs : starEach [a, b] X.env = (false, eval a X.env) :: starEach [b] X.env) (hpl : (backTo q (starEach [b] X.env)).any (·.1) = false) : SE G X (.Call (.Name "list" p) [.Call (.Name "zip" p2) [a, b] [] q] [] pos) (dLzip m) := by
  refine ⟨?_⟩
  intro W tk δ M σ r H Q S E pq pins s I
  have hA : WA X [a, b] σ H fun vs H1 => ∃ r1 M1 x y z vx vy, vs = [vx, vy] ∧ StOk G r1 M1 H1 ∧ Rep G r1 H1 vx x ∧ Rep G r1 H1 vy y ∧ lzipM M1 x y = some z ∧ Post G W σ (JE G Q) r1 H1 (.ok z M1) := by
    refine ha.ru W tk δ M σ r H _ S E (pq.bnd.imp ?_)
    intro ds M1 r1 H1 L1 S1 h1 vs Rs
    cases Rs with
    | nil => exact h1.elim
    | cons R1 Rs =>
      cases Rs with
      | nil => exact h1.elim
      | cons R2 Rs =>
        cases Rs with
        | cons _ _ => exact h1.elim
        | nil =>
          rename_i vx x vy y
          dsimp only at h1
          cases ez : lzipM M1 x y with
          | none => rw [ez] at h1; exact h1.elim
          | some z => rw [ez] at h1; exact ⟨r1, M1, x, y, z, vx, vy, rfl, S1, R1, R2, ez, h1⟩
  refine Call_ (ld_blt I hg hm (u := .type "list") (by decide +kernel) (PyProof.Rows.callWith_type1 (PyProof.Rows.args_cons ?_ rfl)))
  refine Call_ (ld_blt I hg2 hm2 boot_zip (PyProof.Rows.callWith_type1 (thn (hA q pins s I) fun us s1 ⟨vs, H1, I1, rs, r1, M1, x, y, z, vx, vy, e, S1, Rx, Ry, ez, pz⟩ => ?_) hs hpl))
  subst e
  unfold lzipM at ez
  cases ex : valD M1 x with
  | lst xs =>
    cases ey : valD M1 y with
    | lst ys =>
      rw [ex, ey] at ez
      dsimp only at ez
      by_cases c : Nat.ble xs.length sizeLine = true
      case neg => rw [if_neg c] at ez; cases ez
      rw [if_pos c] at ez
      cases ez
      have c := Nat.le_of_ble_eq_true c
      obtain ⟨l1, ws1, rfl, h1, R1⟩ := val_lst S1 Rx ex
      obtain ⟨l2, ws2, rfl, h2, R2⟩ := val_lst S1 Ry ey
      cases rs with
      | cons ra rs =>
        cases rs with
        | cons rb rs =>
          cases rs
          cases ra
          cases rb
          obtain ⟨t1, v1, p1, _⟩ := I1.list (.inl (.inl h1))
          obtain ⟨t2, v2, p2', _⟩ := I1.list (.inl (.inl h2))
          have b1 := p1.lt
          have b2 := p2'.lt
          refine call_zip_2 p1.isList p2'.isList fun h' hz hTI hTO i1 i2 hsz hk => PyProof.Rows.args_nil ?_
          have k1 : xs.length = t1.length := by rw [← R1.length, v1.length]
          have k2 : ys.length = t2.length := by rw [← R2.length, v2.length]
          have lt : ∀ {n : Nat}, n < 5 → s1.heap.objs.size + n < h'.objs.size := fun h => by rw [hsz]; exact Nat.add_lt_add_left h _
          refine listZip (s := { s1 with heap := h' }) (xs := t1.toArray) (ys := t2.toArray) (I1.ok.hd hc) (PySem.W.ktu_apart s1.heap.objs.size l1 l2 b1 b2) (n0 := s1.heap.objs.size) ⟨Nat.le_add_right _ _, Nat.le_add_right _ _, Nat.le_refl _, Nat.le_add_right _ _⟩
            ⟨lt (by decide), lt (by decide), lt (by decide), lt (n := 0) (by decide), lt (by decide), Nat.lt_trans b1 (lt (n := 0) (by decide)), Nat.lt_trans b2 (lt (n := 0) (by decide))⟩ (by show _ ≤ h'.objs.size; rw [hsz]; exact Nat.le_add_right _ _)
            (by simp only [List.size_toArray]; omega) hz ⟨_, _, hTO⟩ hTI i1 i2 (p1.isList.at fun o => hk _ o) (p2'.isList.at fun o => hk _ o) fun h2' as c' kp eS hl ac => ?_
          have kk : ∀ b o, s1.heap.get? b = some o → h2'.get? b = some o := fun b o e => kp b o (Heap.lt_size e) (hk b o e)
          have ge : ∀ a ∈ as, s1.heap.objs.size ≤ a := fun a hm => by
            obtain ⟨j, hj, e⟩ := List.getElem_of_mem hm
            have := (ac.2 j a (by rw [List.getElem?_eq_getElem hj, e])).1
            have h5 : h'.objs.size = s1.heap.objs.size + 5 := hsz
            exact Nat.le_trans (by rw [h5]; exact Nat.le_trans (Nat.le_add_right _ 5) (Nat.le_succ _)) this
          have none_of : ∀ {b : Addr}, s1.heap.objs.size ≤ b → s1.heap.get? b = none := fun h => by
            cases e : s1.heap.get? _ with
            | none => rfl
            | some o => exact absurd (Heap.lt_size e) (Nat.not_lt.mpr h)
          obtain ⟨G2, H2, I2, L2, S2, kg, R2', fin⟩ := lay_pairs s1.gens s1.drawn s1.os h2' as xs ys s1.heap H1 s1.toks I1 S1 kk ac.1 (fun a hm => ⟨none_of (ge a hm), I1.hok.fresh (ge a hm)⟩) (by rw [hl]; simp [k1, k2]) fun j a ej => by
            obtain ⟨_, ux, uy, q1, q2, q3⟩ := ac.2 j a ej
            obtain ⟨vx, w1, w2⟩ := vals_get v1 (j := j) (u := ux) (by simpa using q1)
            obtain ⟨vy, w3, w4⟩ := vals_get v2 (j := j) (u := uy) (by simpa using q2)
            obtain ⟨dx, w5, w6⟩ := R1.get' w1
            obtain ⟨dy, w7, w8⟩ := R2.get' w3
            exact ⟨dx, dy, vx, vy, ux, uy, w5, w7, w6, w8, w2, w4, q3⟩
          have np : h'.objs.size ∉ as := fun hm => by
            obtain ⟨j, hj, e⟩ := List.getElem_of_mem hm
            have := (ac.2 j _ (by rw [List.getElem?_eq_getElem hj, e])).1
            exact absurd this (Nat.not_succ_le_self _)
          have pz5 : s1.heap.objs.size ≤ h'.objs.size := by rw [hsz]; exact Nat.le_add_right _ _
          obtain ⟨f1, f2⟩ := fin h'.objs.size np
          have g2 := f1 (none_of pz5)
          have hh2 := f2 (I1.hok.fresh pz5)
          obtain ⟨L3, S3⟩ := S2.new (o := .lst (as.map V.ref)) hh2
          have vv := vals_refs as
          have zl : (as.map V.ref).length ≤ sizeLine := by rw [List.length_map, hl]; simp only [List.size_toArray]; omega
          refine ⟨.ref _, _, I2.laidN (t' := s1.toks) (o := .lst (as.map V.ref)) kg g2 hh2 ⟨zl, as.map Value.ref, c', vv, eS⟩, rfl, ?_⟩
          exact pz r1 _ (L2.trans L3) S3 _ (.lst (off_new (S2.fresh hh2)) (R2'.le L3))
    | _ => rw [ex, ey] at ez; cases ez
  | _ => rw [ex] at ez; cases ez
end Iv
/-! What a head's Bool tells of own classes. -/
namespace Iv
open PySem PySem.Spec PyProof.Rows L2 NdefX ClX
/-- the def at f -/
def FdAt (K : PySem.W.Frag) (f : Addr) (fd : FuncData) : Prop := ∃ (oc : Value) (od : Option Addr) (osl : Array (Option Value)), K.lookup f = some ⟨oc, od, .func fd, osl⟩
theorem FdAt.one {K : PySem.W.Frag} {f : Addr} {fd fd' : FuncData} (h : FdAt K f fd) (h' : FdAt K f fd') : fd = fd' := by
  obtain ⟨a, b, c, e⟩ := h
  obtain ⟨a', b', c', e'⟩ := h'
  rw [e] at e'
  cases e'
  rfl
theorem _root_.L2.FunD.fdAt {K : PySem.W.Frag} {x qual : Str} {params : Arguments} {body : List Stmt} {scope : Scope} {dvs : List V} {kws : List (Str × V)} {f : Addr} {fd : FuncData} (F : FunD K x qual params body scope dvs kws f fd) : FdAt K f fd := by
  obtain ⟨oc, od, _, _, _, _, _, _, _, osl, _, h, _⟩ := F.ex
  exact ⟨oc, od, osl, h⟩
theorem FunX.fdAt {K : PySem.W.Frag} {F : NF} {f : Addr} {fd : FuncData} (h : FunX K F f fd) : FdAt K f fd := by
  obtain ⟨oc, od, _, _, _, _, osl, _, e⟩ := h.ex
  exact ⟨oc, od, osl, e⟩
/-- an own class's facts -/
def clsB (K : PySem.W.Frag) (C : Addr) : Bool := PySem.W.plainGet K C Str.empty && (PySem.W.hasDictIn K C && (PySem.W.plainOver K C && He.eqO (PySem.W.findIn K (.ref C) "__setattr__") (some (some (.builtin "object.__setattr__")))))
theorem clsB_ok {K : PySem.W.Frag} {C : Addr} (h : clsB K C = true) : Cls K C := by
  obtain ⟨a, h⟩ := He.ba h
  obtain ⟨b, h⟩ := He.ba h
  obtain ⟨c, d⟩ := He.ba h
  exact ⟨a, b, c, He.eqO_ok d⟩
def insyB (K : PySem.W.Frag) (C : Addr) : Bool := clsB K C && (He.eqO (PySem.W.findIn K (.ref C) "__class__") (some (some (.builtin "object.__class__"))) && (He.eqO (PySem.W.specialIn K (.builtin "object.__class__") "__get__") (some (some (.builtin "getset_descriptor.__get__"))) && (deB (PySem.W.takesIn K (.builtin "object.__class__")) (some true) && deB (PySem.W.mroIn K C (.type "object")) (some true))))
theorem insyB_ok {K : PySem.W.Frag} {C : Addr} (h : insyB K C = true) : InsTy K C := by
  obtain ⟨a, h⟩ := He.ba h
  obtain ⟨b, h⟩ := He.ba h
  obtain ⟨c, h⟩ := He.ba h
  obtain ⟨d, e⟩ := He.ba h
  exact ⟨clsB_ok a, He.eqO_ok b, He.eqO_ok c, of_decide_eq_true d, of_decide_eq_true e⟩
def mkrB (K : PySem.W.Frag) (p : Str × Str) : Bool := PySem.W.makesIn K (He.ga K p.1) && (He.eqO (PySem.W.findIn K (.ref (He.ga K p.1)) "__init__") (some (some (.ref (He.fAd K (p.2, some "__init__"))))) && (PySem.W.isFn K (.ref (He.fAd K (p.2, some "__init__"))) && PySem.W.keepIn K (.ref (He.ga K p.1))))
theorem mkrB_ok {K : PySem.W.Frag} {x y : Str} (h : mkrB K (x, y) = true) : L2.Mk K (He.ga K x) (He.fAd K (y, some "__init__")) := by
  obtain ⟨a, h⟩ := He.ba h
  obtain ⟨b, h⟩ := He.ba h
  obtain ⟨c, d⟩ := He.ba h
  exact ⟨a, He.eqO_ok b, c, d⟩
/-- x's method m is the one of the class y -/
def mthB (K : PySem.W.Frag) (p : Str × Str × Str) : Bool := He.eqO (PySem.W.findIn K (.ref (He.ga K p.1)) p.2.1) (some (some (.ref (He.fAd K (p.2.2, some p.2.1))))) && (PySem.W.isFn K (.ref (He.fAd K (p.2.2, some p.2.1))) && PySem.W.keepIn K (.ref (He.fAd K (p.2.2, some p.2.1))))
theorem mthB_ok {K : PySem.W.Frag} {x m y : Str} (h : mthB K (x, m, y) = true) : L2.Meth K (He.ga K x) m (He.fAd K (y, some m)) := by
  obtain ⟨a, h⟩ := He.ba h
  obtain ⟨b, c⟩ := He.ba h
  exact ⟨He.eqO_ok a, b, c⟩
/-- .. and no other tells != -/
def neqB (K : PySem.W.Frag) (x : Str) : Bool := He.eqO (PySem.W.findIn K (.ref (He.ga K x)) "__ne__") (some (some (.builtin "object.__ne__"))) && deB (PySem.W.mroIn K (He.ga K x) (.type "object")) (some true)
/-- behind D, x's __init__ is that of z -/
def supcB (K : PySem.W.Frag) (p : Str × Str × Str) : Bool := deB (PySem.W.mroIn K (He.ga K p.1) (.ref (He.ga K p.2.1))) (some true) && (He.eqO (PySem.W.ks_superIn K (He.ga K p.1) (He.ga K p.2.1) "__init__") (some (some (.ref (He.fAd K (p.2.2, some "__init__"))))) && (decide (PySem.W.typeIn K (.ref (He.fAd K (p.2.2, some "__init__"))) = some (.type "function")) && PySem.W.fnIn K (He.fAd K (p.2.2, some "__init__"))))
theorem supcB_ok {K : PySem.W.Frag} {x D z : Str} (h : supcB K (x, D, z) = true) : (PySem.W.mroIn K (He.ga K x) (.ref (He.ga K D)) = some true ∧ PySem.W.ks_superIn K (He.ga K x) (He.ga K D) "__init__" = some (some (.ref (He.fAd K (z, some "__init__"))))) ∧ PySem.W.typeIn K (.ref (He.fAd K (z, some "__init__"))) = some (.type "function") ∧ PySem.W.fnIn K (He.fAd K (z, some "__init__")) = true := by
  obtain ⟨a, h⟩ := He.ba h
  obtain ⟨b, h⟩ := He.ba h
  obtain ⟨c, d⟩ := He.ba h
  exact ⟨⟨of_decide_eq_true a, He.eqO_ok b⟩, of_decide_eq_true c, d⟩
/-! ### the text's classes: own ones from 0 on, exceptions from 1000 on -/
def clsW (on en : List Str) (K : PySem.W.Frag) (c : Nat) : Addr := He.ga K (cond (Nat.ble 1000 c) (en.getD (c - 1000) "") (on.getD c ""))
abbrev GW (on en : List Str) (K : PySem.W.Frag) : Gd := ⟨K, clsW on en K, fun _ => 0, []⟩
def okW (m n : Nat) (c : Nat) : Bool := decide (c < m) || decide (1000 ≤ c ∧ c < 1000 + n)
def ktW (m n : Nat) (sb : Nat → Ty → Bool) (ts : List Ty) : Kt := ⟨okW m n, fun a b => match a, b with
  | .b x, .b y => subB x y
  | .b x, .o _ => if ["NoneType", "bool", "int", "str", "list", "tuple", "dict"].contains x && ts.contains b then some false else none
  | .o c, t => if okW m n c && ts.contains t then some (sb c t) else none⟩
def subsB (on en : List Str) (sb : Nat → Ty → Bool) (ts : List Ty) (K : PySem.W.Frag) (c : Nat) : Bool := ts.all fun t => deB (PySem.W.kitOne K (.ref (clsW on en K c)) (tyVal (GW on en K) t)) (some (sb c t))
def bltB (on en : List Str) (ts : List Ty) (K : PySem.W.Frag) : Bool := ["NoneType", "bool", "int", "str", "list", "tuple", "dict"].all fun x => ts.all fun t => match t with
  | .o _ => deB (PySem.W.kitOne K (.type x) (tyVal (GW on en K) t)) (some false)
  | .b _ => true
def ktwB (on en : List Str) (sb : Nat → Ty → Bool) (ts : List Ty) (K : PySem.W.Frag) : Bool := (List.range on.length).all (fun i => insyB K (clsW on en K i) && subsB on en sb ts K i) && ((List.range en.length).all (fun i => etB K (clsW on en K (1000 + i)) && subsB on en sb ts K (1000 + i)) && (bltB on en ts K && Nat.blt on.length 1000))
theorem ktwB_at {on en : List Str} {sb : Nat → Ty → Bool} {ts : List Ty} {K : PySem.W.Frag} (h : ktwB on en sb ts K = true) : (∀ c, c < on.length → insyB K (clsW on en K c) = true ∧ subsB on en sb ts K c = true) ∧ (∀ c, 1000 ≤ c → c < 1000 + en.length → etB K (clsW on en K c) = true ∧ subsB on en sb ts K c = true) ∧ bltB on en ts K = true ∧ on.length < 1000 := by
  obtain ⟨a, h⟩ := He.ba h
  obtain ⟨b, h⟩ := He.ba h
  obtain ⟨c, d⟩ := He.ba h
  refine ⟨fun i hi => He.ba (List.all_eq_true.mp a i (List.mem_range.mpr hi)), fun i h1 h2 => ?_, c, Nat.blt_eq.mp d⟩
  have q := He.ba (List.all_eq_true.mp b (i - 1000) (List.mem_range.mpr (by omega)))
  rw [show 1000 + (i - 1000) = i by omega] at q
  exact q
theorem ktW_ok {on en : List Str} {sb : Nat → Ty → Bool} {ts : List Ty} {K : PySem.W.Frag} (h : ktwB on en sb ts K = true) (hid : List Addr) : KtOk ((GW on en K).at hid) (ktW on.length en.length sb ts) := by
  obtain ⟨h1, h2, h3, h4⟩ := ktwB_at h
  have sub : ∀ c, okW on.length en.length c = true → subsB on en sb ts K c = true := fun c hc => by
    unfold okW at hc
    rw [Bool.or_eq_true, decide_eq_true_iff, decide_eq_true_iff] at hc
    rcases hc with hc | hc
    · exact (h1 c hc).2
    · exact (h2 c hc.1 hc.2).2
  refine ⟨fun c hc hx => ?_, fun c hc hx => ?_, fun a b v e => ?_⟩
  · have hc' : okW on.length en.length c = true := hc
    unfold okW at hc'
    rw [Bool.or_eq_true, decide_eq_true_iff, decide_eq_true_iff] at hc'
    rcases hc' with hc' | hc'
    · exact insyB_ok (h1 c hc').1
    · exact absurd (Nat.ble_eq.mpr hc'.1) (by unfold isEx at hx; rw [hx]; exact Bool.false_ne_true)
  · have hc' : okW on.length en.length c = true := hc
    unfold okW at hc'
    rw [Bool.or_eq_true, decide_eq_true_iff, decide_eq_true_iff] at hc'
    rcases hc' with hc' | hc'
    · exact absurd (Nat.le_of_ble_eq_true hx) (by omega)
    · exact (etB_ok (h2 c hc'.1 hc'.2).1).1
  · cases a with
    | b x =>
      cases b with
      | b y => exact subB_kit e
      | o d =>
        have e' : (if ["NoneType", "bool", "int", "str", "list", "tuple", "dict"].contains x && ts.contains (.o d) then some false else none) = some v := e
        by_cases q : (["NoneType", "bool", "int", "str", "list", "tuple", "dict"].contains x && ts.contains (.o d)) = true
        · rw [if_pos q] at e'
          cases e'
          obtain ⟨q1, q2⟩ := He.ba q
          have z := List.all_eq_true.mp (List.all_eq_true.mp h3 x (List.contains_iff_mem.mp q1)) (.o d) (List.contains_iff_mem.mp q2)
          exact of_decide_eq_true z
        · rw [if_neg q] at e'; cases e'
    | o c =>
      have e' : (if okW on.length en.length c && ts.contains b then some (sb c b) else none) = some v := e
      by_cases q : (okW on.length en.length c && ts.contains b) = true
      · rw [if_pos q] at e'
        cases e'
        obtain ⟨q1, q2⟩ := He.ba q
        exact of_decide_eq_true (List.all_eq_true.mp (sub c q1) b (List.contains_iff_mem.mp q2))
      · rw [if_neg q] at e'; cases e'
/-- attributes, by a list of what may be read and stored -/
def kfW (m n : Nat) (fs : List (Nat × Str)) : Nat → Str → Bool := fun c f => okW m n c && fs.contains (c, f)
def kfwB (on en : List Str) (fs : List (Nat × Str)) (K : PySem.W.Frag) : Bool := fs.all fun p => He.eqO (PySem.W.findIn K (.ref (clsW on en K p.1)) p.2) (some none)
theorem kfW_ok {on en : List Str} {sb : Nat → Ty → Bool} {ts : List Ty} {fs : List (Nat × Str)} {K : PySem.W.Frag} (h0 : ktwB on en sb ts K = true) (h : kfwB on en fs K = true) (hid : List Addr) : KfOk ((GW on en K).at hid) (kfW on.length en.length fs) := by
  obtain ⟨h1, h2, h3, h4⟩ := ktwB_at h0
  refine ⟨fun c f hc hx => ?_, fun c f hc hx => ?_⟩
  all_goals
    obtain ⟨q1, q2⟩ := He.ba hc
    have no := He.eqO_ok (List.all_eq_true.mp h (c, f) (List.contains_iff_mem.mp q2))
    unfold okW at q1
    rw [Bool.or_eq_true, decide_eq_true_iff, decide_eq_true_iff] at q1
    rcases q1 with q1 | q1
  · exact ⟨(insyB_ok (h1 c q1).1).cl, no⟩
  · exact absurd (Nat.ble_eq.mpr q1.1) (by unfold isEx at hx; rw [hx]; exact Bool.false_ne_true)
  · exact absurd (Nat.le_of_ble_eq_true hx) (by omega)
  · exact ⟨(etB_ok (h2 c q1.1 q1.2).1).2, no⟩
/-- a def's meaning with its last arguments left out -/
def pG (n : Nat) (dd : List D) (g : List D → Ev D) : List D → Ev D := fun ds => if ds.length + dd.length = n then g (ds ++ dd) else stuck
/-- one meaning for the classes of a list -/
def tabL (cs : List Nat) (g : List D → Ev D) : Nat → Option (List D → Ev D) := fun c => if cs.contains c then some g else none
theorem tabL_at {cs : List Nat} {g g' : List D → Ev D} {c : Nat} (h : tabL cs g c = some g') : c ∈ cs ∧ g' = g := by
  unfold tabL at h
  by_cases q : cs.contains c = true
  · rw [if_pos q] at h
    cases h
    exact ⟨List.contains_iff_mem.mp q, rfl⟩
  · rw [if_neg q] at h; cases h
/-- several lists, in turn -/
def tabs : List (List Nat × (List D → Ev D)) → Nat → Option (List D → Ev D)
  | [], _ => none
  | (cs, g) :: r, c => if cs.contains c then some g else tabs r c
theorem tabs_at {P : Nat → (List D → Ev D) → Prop} : ∀ {l : List (List Nat × (List D → Ev D))}, (∀ p ∈ l, ∀ c ∈ p.1, P c p.2) → ∀ {c : Nat} {g : List D → Ev D}, tabs l c = some g → P c g
  | [], _, c, g, e => by cases e
  | (cs, g0) :: r, h, c, g, e => by
    have e' : (if cs.contains c then some g0 else tabs r c) = some g := e
    by_cases q : cs.contains c = true
    · rw [if_pos q] at e'
      cases e'
      exact h _ List.mem_cons_self c (List.contains_iff_mem.mp q)
    · rw [if_neg q] at e'
      exact tabs_at (fun p hp => h p (List.mem_cons_of_mem _ hp)) e'
/-! ### short words for a derivation -/
section
variable {G : Gd} {X : Cx} (c : Cf G X) {e a b : Expr} {es : List Expr} {pos : Pos} {m ma mb : DE} {ms : DA}
theorem Cf.hid (c : Cf G X) {q : Addr} : Cf (G.hide q) X := ⟨c.hK, c.calm, c.nd, c.gd, c.un⟩
theorem Cf.un1 (c : Cf G X) : X.A.units + 1 < cLine := by have := c.un; omega
include c
theorem oInK : OpP G X (compareOp .In) inKO := OpP.inK c.hK c.un
theorem oNinK : OpP G X (compareOp .NotIn) ninKO := OpP.ninK c.hK c.un
theorem sIxK (ha : SE G X a ma) (hb : SE G X b mb) (hs : PlainIx b := by intro _ _; rfl) (hs2 : NoSl b := by intro _ _; rfl) : SE G X (.Subscript a b pos) (dOp (pureO idxK) ma mb) := .sub (.key c.hK c.un1 hs hs2) ha hb
end
theorem FnA.up {G : Gd} {P : Program} {w : World} {mg : Str → Option Value} {base : Heap} {k k' : Nat} {f : Addr} {ok : Shared → Args → List Value → Prop} {g : List D → Ev D} (F : FnA G P w mg base k f ok g) (h : k ≤ k') : FnA G P w mg base k' f ok g := fun A outer s H args us vs ds r M Q E hr => F A outer s H args us vs ds r M Q E (hr.mono h)
theorem FnS.pg {G : Gd} {P : Program} {w : World} {mg : Str → Option Value} {base : Heap} {k : Nat} {f : Addr} {fd : FuncData} {ps : List Str} {g : List D → Ev D} (F : FnS G P w mg base k f fd ps g) {dvs : List V} {dv : List Value} {dd : List D}
    (hb : Binds G.K fd ps dv) (hd : Vals dvs dv) (hdd : ∀ r H, Reps G r H dvs dd) : FnA G P w mg base k f okP (pG ps.length dd g) := F.p hb hd hdd
theorem FnA.zero {G : Gd} {P : Program} {w : World} {mg : Str → Option Value} {base : Heap} {k : Nat} {f : Addr} {ok : Shared → Args → List Value → Prop} : FnA G P w mg base k f ok (fun _ => stuck) := fun _ _ _ _ _ _ _ _ _ _ _ _ _ _ _ _ _ _ _ p => p.elim
end Iv
/-! Tables of own methods. -/
namespace Iv
open PySem PySem.Spec PyProof.Rows L2 NdefX ClX
theorem ents_nil {P : Nat → (List D → Ev D) → Prop} : ∀ p ∈ ([] : List (List Nat × (List D → Ev D))), ∀ c ∈ p.1, P c p.2 := fun _ h => nomatch h
theorem ents_cons {P : Nat → (List D → Ev D) → Prop} {cs : List Nat} {g : List D → Ev D} {l : List (List Nat × (List D → Ev D))} (h : ∀ c ∈ cs, P c g) (hs : ∀ p ∈ l, ∀ c ∈ p.1, P c p.2) : ∀ p ∈ (cs, g) :: l, ∀ c ∈ p.1, P c p.2 := fun p hp c hc => by
  rcases List.mem_cons.mp hp with rfl | hp
  · exact h c hc
  · exact hs p hp c hc
section
variable {on en : List Str} {K : PySem.W.Frag} {hid : List Addr} {X : Cx} {k : Nat} {y : Str} {g : List D → Ev D} {cs : List Nat} {l : List (List Nat × (List D → Ev D))}
theorem clsW_own {c : Nat} (h : c < 1000) : clsW on en K c = He.ga K (on.getD c "") := by
  unfold clsW
  rw [show Nat.ble 1000 c = false by cases q : Nat.ble 1000 c with | false => rfl | true => exact absurd (Nat.le_of_ble_eq_true q) (by omega)]
  rfl
theorem isEx_own {c : Nat} (h : c < 1000) : isEx c = false := by
  unfold isEx
  cases q : Nat.ble 1000 c with
  | false => rfl
  | true => exact absurd (Nat.le_of_ble_eq_true q) (by omega)
/-! ### __eq__ -/
def eqsB (on : List Str) (p : List Nat × Str) (K : PySem.W.Frag) : Bool := p.1.all fun c => Nat.blt c on.length && (Nat.blt c 1000 && (mthB K (on.getD c "", "__eq__", p.2) && neqB K (on.getD c "")))
def neB (on : List Str) (K : PySem.W.Frag) : Bool := (List.range on.length).all fun i => (List.range on.length).all fun j => decide (i = j) || decide (He.ga K (on.getD i "") ≠ He.ga K (on.getD j ""))
def EqP (on : List Str) (G : Gd) (X : Cx) (k c : Nat) (g : List D → Ev D) : Prop := (c < on.length ∧ c < 1000) ∧ isEx c = false ∧ PySem.W.findIn G.K (.ref (G.cls c)) "__ne__" = some (some (.builtin "object.__ne__")) ∧ PySem.W.mroIn G.K (G.cls c) (.type "object") = some true ∧
  ∃ f : Addr, PySem.W.findIn G.K (.ref (G.cls c)) "__eq__" = some (some (.ref f)) ∧ PySem.W.isFn G.K (.ref f) = true ∧ FnA G X.prog X.w X.mg X.base k f okP g
theorem eqEntry (hb : eqsB on (cs, y) K = true) (F : FnA ((GW on en K).at hid) X.prog X.w X.mg X.base k (He.fAd K (y, some "__eq__")) okP g) : ∀ c ∈ cs, EqP on ((GW on en K).at hid) X k c g := fun c hc => by
  obtain ⟨h1, h⟩ := He.ba (List.all_eq_true.mp hb c hc)
  obtain ⟨h2, h⟩ := He.ba h
  obtain ⟨h3, h4⟩ := He.ba h
  have l1 := Nat.blt_eq.mp h1
  have l2 := Nat.blt_eq.mp h2
  have M := mthB_ok h3
  obtain ⟨n1, n2⟩ := He.ba h4
  have e : ((GW on en K).at hid).cls c = He.ga K (on.getD c "") := clsW_own l2
  refine ⟨⟨l1, l2⟩, isEx_own l2, ?_, ?_, He.fAd K (y, some "__eq__"), ?_, M.fn, F⟩
  · rw [e]; exact He.eqO_ok n1
  · rw [e]; exact of_decide_eq_true n2
  · rw [e]; exact M.at_
theorem eqOk_of (hn : neB on K = true) (h : ∀ p ∈ l, ∀ c ∈ p.1, EqP on ((GW on en K).at hid) X k c p.2) : EqOk ((GW on en K).at hid) X k (tabs l) := by
  refine ⟨fun c g e => (tabs_at (P := fun c g => EqP on ((GW on en K).at hid) X k c g) h e).2, fun c c' g g' e e' ne z => ?_⟩
  obtain ⟨⟨a1, a2⟩, _⟩ := tabs_at (P := fun c g => EqP on ((GW on en K).at hid) X k c g) h e
  obtain ⟨⟨b1, b2⟩, _⟩ := tabs_at (P := fun c g => EqP on ((GW on en K).at hid) X k c g) h e'
  have z' : clsW on en K c = clsW on en K c' := z
  rw [clsW_own a2, clsW_own b2] at z'
  have q := List.all_eq_true.mp (List.all_eq_true.mp hn c (List.mem_range.mpr a1)) c' (List.mem_range.mpr b1)
  rw [Bool.or_eq_true, decide_eq_true_iff, decide_eq_true_iff] at q
  exact q.elim (fun q => ne q.symm) fun q => q z'
/-! ### __bool__ -/
def bosB (on : List Str) (p : List Nat × Str) (K : PySem.W.Frag) : Bool := p.1.all fun c => Nat.blt c 1000 && mthB K (on.getD c "", "__bool__", p.2)
def BoP (G : Gd) (X : Cx) (k c : Nat) (g : List D → Ev D) : Prop := isEx c = false ∧ ∃ f : Addr, PySem.W.findIn G.K (.ref (G.cls c)) "__bool__" = some (some (.ref f)) ∧ PySem.W.isFn G.K (.ref f) = true ∧ FnA G X.prog X.w X.mg X.base k f okP g
theorem boEntry (hb : bosB on (cs, y) K = true) (F : FnA ((GW on en K).at hid) X.prog X.w X.mg X.base k (He.fAd K (y, some "__bool__")) okP g) : ∀ c ∈ cs, BoP ((GW on en K).at hid) X k c g := fun c hc => by
  obtain ⟨h2, h3⟩ := He.ba (List.all_eq_true.mp hb c hc)
  have l2 := Nat.blt_eq.mp h2
  have M := mthB_ok h3
  have e : ((GW on en K).at hid).cls c = He.ga K (on.getD c "") := clsW_own l2
  exact ⟨isEx_own l2, He.fAd K (y, some "__bool__"), by rw [e]; exact M.at_, M.fn, F⟩
theorem boOk_of (h : ∀ p ∈ l, ∀ c ∈ p.1, BoP ((GW on en K).at hid) X k c p.2) : BoOk ((GW on en K).at hid) X k (tabs l) := ⟨fun c g e => tabs_at (P := fun c g => BoP ((GW on en K).at hid) X k c g) h e⟩
/-! ### other methods -/
def mtsB (on : List Str) (p : List Nat × Str × Str) (K : PySem.W.Frag) : Bool := p.1.all fun c => Nat.blt c 1000 && (clsB K (He.ga K (on.getD c "")) && mthB K (on.getD c "", p.2.1, p.2.2))
def MtP (G : Gd) (X : Cx) (k : Nat) (m : Str) (c : Nat) (g : List D → Ev D) : Prop := isEx c = false ∧ Cls G.K (G.cls c) ∧ ∃ f, L2.Meth G.K (G.cls c) m f ∧ FnA G X.prog X.w X.mg X.base k f okP g
theorem mtEntry {m : Str} (hb : mtsB on (cs, m, y) K = true) (F : FnA ((GW on en K).at hid) X.prog X.w X.mg X.base k (He.fAd K (y, some m)) okP g) : ∀ c ∈ cs, MtP ((GW on en K).at hid) X k m c g := fun c hc => by
  obtain ⟨h2, h3⟩ := He.ba (List.all_eq_true.mp hb c hc)
  obtain ⟨h3, h4⟩ := He.ba h3
  have l2 := Nat.blt_eq.mp h2
  have e : ((GW on en K).at hid).cls c = He.ga K (on.getD c "") := clsW_own l2
  exact ⟨isEx_own l2, by rw [e]; exact clsB_ok h3, He.fAd K (y, some m), by rw [e]; exact mthB_ok h4, F⟩
theorem mtOk_of {m : Str} (h : ∀ p ∈ l, ∀ c ∈ p.1, MtP ((GW on en K).at hid) X k m c p.2) : MtOk ((GW on en K).at hid) X k m (tabs l) := ⟨fun c g e => tabs_at (P := fun c g => MtP ((GW on en K).at hid) X k m c g) h e⟩
/-! ### super().__init__ -/
def spsB (on : List Str) (p : List Nat × Str × Str) (K : PySem.W.Frag) : Bool := !p.1.isEmpty && p.1.all fun c => Nat.blt c 1000 && supcB K (on.getD c "", p.2.1, p.2.2)
theorem supC_of {D z : Str} (hb : spsB on (cs, D, z) K = true) : SupC ((GW on en K).at hid) (He.ga K D) (He.fAd K (z, some "__init__")) (fun c => cs.contains c) := by
  obtain ⟨h0, h⟩ := He.ba hb
  have one : ∀ c ∈ cs, c < 1000 ∧ supcB K (on.getD c "", D, z) = true := fun c hc => by
    obtain ⟨a, b⟩ := He.ba (List.all_eq_true.mp h c hc)
    exact ⟨Nat.blt_eq.mp a, b⟩
  have some_ : ∃ c, c ∈ cs := by
    cases cs with
    | nil => cases h0
    | cons c _ => exact ⟨c, List.mem_cons_self⟩
  obtain ⟨c0, hc0⟩ := some_
  obtain ⟨_, q2, q3⟩ := supcB_ok (one c0 hc0).2
  refine ⟨fun c hc => ?_, q2, q3⟩
  obtain ⟨l, hs⟩ := one c (List.contains_iff_mem.mp hc)
  have e : ((GW on en K).at hid).cls c = He.ga K (on.getD c "") := clsW_own l
  rw [e]
  exact (supcB_ok hs).1
end
end Iv
namespace Lw
open PySem PySem.Spec PyProof.Rows L2 Iv NdefX ClX
def top (i : Nat) : Stmt := PySem.Challenge.pw_saidenough_k03_papers_keep_what_they_tel.main.body.getD i (.Pass ⟨0, 0, 0, 0⟩)
abbrev s0 : Stmt := top 1
abbrev d0 : He.DefD := ⟨("keys_of", none), "keys_of", "keys_of", defArgs s0, defBody s0, defScope s0, [], []⟩
abbrev s1 : Stmt := top 2
abbrev d1 : He.DefD := ⟨("fixed", none), "fixed", "fixed", defArgs s1, defBody s1, defScope s1, [], []⟩
abbrev s2 : Stmt := top 13
abbrev d2 : He.DefD := ⟨("_law_pen", none), "_law_pen", "_law_pen", defArgs s2, defBody s2, defScope s2, [], []⟩
abbrev s3 : Stmt := top 14
abbrev d3 : He.DefD := ⟨("_law_draw", none), "_law_draw", "_law_draw", defArgs s3, defBody s3, defScope s3, [], []⟩
abbrev s4 : Stmt := top 15
abbrev d4 : He.DefD := ⟨("_law_pick", none), "_law_pick", "_law_pick", defArgs s4, defBody s4, defScope s4, [], []⟩
abbrev s5 : Stmt := top 16
abbrev d5 : He.DefD := ⟨("_law_value", none), "_law_value", "_law_value", defArgs s5, defBody s5, defScope s5, [], []⟩
abbrev s6 : Stmt := top 17
abbrev d6 : He.DefD := ⟨("_law_fixed", none), "_law_fixed", "_law_fixed", defArgs s6, defBody s6, defScope s6, [], []⟩
abbrev s7 : Stmt := top 18
abbrev d7 : He.DefD := ⟨("_law_kept_right", none), "_law_kept_right", "_law_kept_right", defArgs s7, defBody s7, defScope s7, [], []⟩
abbrev s8 : Stmt := top 19
abbrev d8 : He.DefD := ⟨("_law_classes_right", none), "_law_classes_right", "_law_classes_right", defArgs s8, defBody s8, defScope s8, [], []⟩
abbrev s9 : Stmt := top 20
abbrev d9 : He.DefD := ⟨("law", none), "law", "law", defArgs s9, defBody s9, defScope s9, [], []⟩
abbrev s10 : Stmt := inClass (top 3) 0
abbrev d10 : He.DefD := ⟨("Paper", some "__init__"), "__init__", "Paper.__init__", defArgs s10, defBody s10, defScope s10, [], []⟩
abbrev s11 : Stmt := inClass (top 3) 1
abbrev d11 : He.DefD := ⟨("Paper", some "__bool__"), "__bool__", "Paper.__bool__", defArgs s11, defBody s11, defScope s11, [], []⟩
abbrev s12 : Stmt := inClass (top 3) 2
abbrev d12 : He.DefD := ⟨("Paper", some "__eq__"), "__eq__", "Paper.__eq__", defArgs s12, defBody s12, defScope s12, [], []⟩
abbrev s13 : Stmt := inClass (top 4) 0
abbrev d13 : He.DefD := ⟨("Denial", some "__bool__"), "__bool__", "Denial.__bool__", defArgs s13, defBody s13, defScope s13, [], []⟩
abbrev s14 : Stmt := inClass (top 6) 0
abbrev u14 : DefY := ⟨("Truth", "__init__"), "__init__", "Truth.__init__", defArgs s14, defBody s14, defScope s14⟩
abbrev s15 : Stmt := inClass (top 8) 0
abbrev u15 : DefY := ⟨("Known", "__init__"), "__init__", "Known.__init__", defArgs s15, defBody s15, defScope s15⟩
abbrev s16 : Stmt := inClass (top 9) 0
abbrev u16 : DefY := ⟨("Doubted", "__init__"), "__init__", "Doubted.__init__", defArgs s16, defBody s16, defScope s16⟩
abbrev s17 : Stmt := inClass (top 10) 0
abbrev u17 : DefY := ⟨("Shut", "__init__"), "__init__", "Shut.__init__", defArgs s17, defBody s17, defScope s17⟩
abbrev s18 : Stmt := inClass (top 11) 0
abbrev u18 : DefY := ⟨("Chain", "__init__"), "__init__", "Chain.__init__", defArgs s18, defBody s18, defScope s18⟩
def fn0 : List He.DefD := [d0, d1, d2, d3, d4, d5, d6, d7, d8, d9, d10, d11, d12, d13]
def fn : List He.DefD := fn0
def fa0 : List He.Fa := [.glo "keys_of", .glo "fixed", .glo "_law_pen", .glo "_law_draw", .glo "_law_pick", .glo "_law_value", .glo "_law_fixed", .glo "_law_kept_right", .glo "_law_classes_right", .glo "law", .glo "Paper", .glo "Denial", .glo "Truth", .glo "Known", .glo "Doubted", .glo "Shut", .glo "Chain", .free "abs", .free "all", .free "bool", .free "dict", .free "int", .free "isinstance", .free "len", .free "list", .free "min", .free "range", .free "repr", .free "sorted", .free "str"]
def fa1 : List He.Fa := [.free "tuple", .free "zip"]
def fa : List He.Fa := fa0 ++ fa1
def fy0 : List DefY := [u14, u15, u16, u17, u18]
def fy : List DefY := fy0
def en0 : List PySem.Str := []
def en : List PySem.Str := en0
def on0 : List PySem.Str := ["Paper", "Denial", "Truth", "Known", "Doubted", "Shut", "Chain"]
def on : List PySem.Str := on0
/-- which class is under which -/
def sbN : Nat → List Nat
  | 0 => [0]
  | 1 => [1, 0]
  | 2 => [2, 0]
  | 3 => [3, 0]
  | 4 => [4, 1, 0]
  | 5 => [5, 0]
  | 6 => [6, 1, 0]
  | _ => []
def sb (c : Nat) : Ty → Bool
  | .o d => (sbN c).contains d
  | .b n => Nat.ble 1000 c && n == "ValueError"
def ts : List Ty := [.o 0, .o 1, .o 2, .o 3, .o 4, .o 5, .o 6]
def kt : Kt := ktW 7 0 sb ts
def afs : List (Nat × PySem.Str) := [(0, "word"), (0, "parts"), (1, "word"), (1, "parts"), (2, "sets"), (2, "ranks"), (2, "word"), (2, "parts"), (3, "worlds"), (3, "word"), (3, "parts"), (4, "world"), (4, "word"), (4, "parts"), (5, "worlds"), (5, "word"), (5, "parts"), (6, "hops"), (6, "word"), (6, "parts")]
def kf : Nat → PySem.Str → Bool := kfW 7 0 afs
def ecs0 : List (PySem.Str × PySem.Str × List PySem.Str) := []
def ecs : List (PySem.Str × PySem.Str × List PySem.Str) := ecs0
def mks0 : List (PySem.Str × PySem.Str) := [("Paper", "Paper"), ("Denial", "Paper"), ("Truth", "Truth"), ("Known", "Known"), ("Doubted", "Doubted"), ("Shut", "Shut"), ("Chain", "Chain")]
def mks : List (PySem.Str × PySem.Str) := mks0
def ex (K : PySem.W.Frag) : Bool := (true) && ((ktwB on en sb ts K) && ((kfwB on en afs K) && ((ecs.all fun e => ecB K e.1 e.2.1 e.2.2) && ((mks.all fun p => mkrB K p) && ((eqsB on ([0, 1, 2, 3, 4, 5, 6], "Paper") K) && ((neB on K) && ((bosB on ([0, 2, 3, 5], "Paper") K && bosB on ([1, 4, 6], "Denial") K) && (spsB on ([2], "Truth", "Paper") K && spsB on ([3], "Known", "Paper") K && spsB on ([4], "Doubted", "Paper") K && spsB on ([5], "Shut", "Paper") K && spsB on ([6], "Chain", "Paper") K))))))))
def tbE (F : Nat → List D → Ev D) : Nat → Option (List D → Ev D) := tabs [([0, 1, 2, 3, 4, 5, 6], pG 2 [] (F 12))]
def tbB (F : Nat → List D → Ev D) : Nat → Option (List D → Ev D) := tabs [([0, 2, 3, 5], pG 1 [] (F 11)), ([1, 4, 6], pG 1 [] (F 13))]
def b0 (F : Nat → List D → Ev D) : DS :=
  dSeq (dIf (dTru truO (dBlt allO (dCons (dLc (dIt (dVar 0)) (gVar 1) (dYes) (dIsi kt [.b "str"] (dVar 1)) [1]) (dNil)))) (dRet (dBlt sortO (dCons (dLc (dIt (dVar 0)) (gVar 1) (dYes) (dBlt (oneO strD) (dCons (dVar 1) (dNil))) [1]) (dNil)))) (dNext)) (dRet (dBlt sortO (dCons (dLc (dIt (dVar 0)) (gVar 1) (dYes) (dBlt (oneO intD) (dCons (dVar 1) (dNil))) [1]) (dNil))))
def b1 (F : Nat → List D → Ev D) : DS :=
  dSeq (dIf (dTru truO (dIsi kt [.b "dict"] (dVar 0))) (dRet (dBlt tupleO (dCons (dLc (dIt (dCall 1 [] (F 0) (dCons (dVar 0) (dNil)))) (gVar 1) (dYes) (dTup (dCons (dVar 1) (dCons (dCall 1 [] (F 1) (dCons (dOp (pureO idxK) (dVar 0) (dVar 1)) (dNil))) (dNil)))) [1]) (dNil)))) (dNext)) (dSeq (dIf (dTru truO (dIsi kt [.b "list", .b "tuple"] (dVar 0))) (dRet (dBlt tupleO (dCons (dLc (dIt (dVar 0)) (gVar 2) (dYes) (dCall 1 [] (F 1) (dCons (dVar 2) (dNil))) [2]) (dNil)))) (dNext)) (dRet (dVar 0)))
def b2 (F : Nat → List D → Ev D) : DS :=
  dRet (dCel (dCons (dLc (dIt (dSli (dVar 0) (dNoP) (dPart (dLit (.int 60))))) (gVar 1) (dYes) (dBlt (oneO intD) (dCons (dVar 1) (dNil))) [1]) (dCons (dLit (.int 0)) (dCons (dLit (.int 0)) (dNil)))))
def b3 (F : Nat → List D → Ev D) : DS :=
  dSeq (dIf (dTru truO (dOp (pureO gtO) (dOp (pureO idxK) (dVar 0) (dLit (.int 2))) (dLit (.int 0)))) (dSeq (dAsg (dOp (pureO modO) (dBlt (oneO intD) (dCons (dOp (pureO idxK) (dVar 0) (dLit (.int 2))) (dNil))) (dVar 1)) (gVar 2)) (dSeq (dAsg (dOp (pureO fdivO) (dBlt (oneO intD) (dCons (dOp (pureO idxK) (dVar 0) (dLit (.int 2))) (dNil))) (dVar 1)) (gIxK (dVar 0) (dLit (.int 2)))) (dRet (dVar 2)))) (dNext)) (dSeq (dAsg (dOp (pureO idxK) (dVar 0) (dLit (.int 1))) (gVar 3)) (dSeq (dAsg (dOp (pureO addO) (dVar 3) (dLit (.int 1))) (gIxK (dVar 0) (dLit (.int 1)))) (dSeq (dAsg (dOp (pureO addO) (dOp (pureO mulO) (dLit (.int 59083)) (dVar 3)) (dLit (.int 1453))) (gVar 4)) (dSeq (dIf (dTru truO (dOp (pureO neO) (dOp (pureO idxK) (dVar 0) (dLit (.int 0))) (dLst (dNil)))) (dAsg (dOp (pureO idxK) (dOp (pureO idxK) (dVar 0) (dLit (.int 0))) (dOp (pureO modO) (dBlt (oneO intD) (dCons (dVar 3) (dNil))) (dBlt lenO (dCons (dOp (pureO idxK) (dVar 0) (dLit (.int 0))) (dNil))))) (gVar 4)) (dNext)) (dSeq (dIf (dAndT (dTru truO (dOp (pureO ltO) (dVar 3) (dBlt lenO (dCons (dOp (pureO idxK) (dVar 0) (dLit (.int 0))) (dNil))))) (dTru truO (dOp (pureO geO) (dBlt (oneO absD) (dCons (dVar 4) (dNil))) (dOp (pureO powO) (dLit (.int 10)) (dLit (.int 18)))))) (dSeq (dAsg (dOp (pureO addO) (dOp (pureO mulO) (dLit (.int 2)) (dOp (pureO subO) (dBlt (oneO absD) (dCons (dVar 4) (dNil))) (dOp (pureO powO) (dLit (.int 10)) (dLit (.int 18))))) (dBlt (oneO intD) (dCons (dOp (pureO ltO) (dVar 4) (dLit (.int 0))) (dNil)))) (gVar 5)) (dSeq (dAsg (dOp (pureO fdivO) (dBlt (oneO intD) (dCons (dVar 5) (dNil))) (dVar 1)) (gIxK (dVar 0) (dLit (.int 2)))) (dRet (dOp (pureO modO) (dBlt (oneO intD) (dCons (dVar 5) (dNil))) (dVar 1))))) (dNext)) (dSeq (dAsg (dOp (pureO modO) (dBlt (oneO intD) (dCons (dOp (pureO powO) (dOp (pureO addO) (dOp (pureO addO) (dOp (pureO modO) (dBlt (oneO intD) (dCons (dVar 4) (dNil))) (dLit (.int 2147483587))) (dOp (pureO mulO) (dLit (.int 71293)) (dVar 3))) (dLit (.int 1453))) (dLit (.int 5))) (dNil))) (dLit (.int 2147483629))) (gVar 6)) (dSeq (dAsg (dOp (pureO modO) (dBlt (oneO intD) (dCons (dOp (pureO powO) (dOp (pureO addO) (dOp (pureO addO) (dOp (pureO mulO) (dVar 6) (dOp (pureO addO) (dOp (pureO mulO) (dLit (.int 2)) (dVar 3)) (dLit (.int 1877)))) (dOp (pureO mulO) (dOp (pureO mulO) (dLit (.int 59083)) (dVar 3)) (dVar 3))) (dLit (.int 71293))) (dLit (.int 3))) (dNil))) (dLit (.int 2147483563))) (gVar 6)) (dRet (dOp (pureO modO) (dBlt (oneO intD) (dCons (dOp (pureO fdivO) (dVar 6) (dLit (.int 64))) (dNil))) (dVar 1))))))))))
def b4 (F : Nat → List D → Ev D) : DS :=
  dRet (dOp (pureO idxK) (dVar 1) (dCall 2 [] (F 3) (dCons (dVar 0) (dCons (dBlt lenO (dCons (dVar 1) (dNil))) (dNil)))))
def b5 (F : Nat → List D → Ev D) : DS :=
  dSeq (dAsg (dIte (dTru truO (dOp (pureO gtO) (dVar 1) (dLit (.int 0)))) (dCall 2 [] (F 3) (dCons (dVar 0) (dCons (dLit (.int 7)) (dNil)))) (dLit (.int 0))) (gVar 2)) (dSeq (dIf (dTru truO (dOp (pureO ltO) (dVar 2) (dLit (.int 3)))) (dRet (dCall 2 [] (F 4) (dCons (dVar 0) (dCons (dLst (dCons (dLit (.int 0)) (dCons (dLit (.int 1)) (dCons (dNeg (dLit (.int 7))) (dCons (dOp (pureO powO) (dLit (.int 10)) (dLit (.int 40))) (dCons (dLit (.str "")) (dCons (dLit (.str "u")) (dCons (dLit (.str "u.said")) (dCons (dLit (.str "b")) (dCons (dLit .non) (dCons (dLit (.bl true)) (dCons (dLit (.bl false)) (dCons (dLit (.str "10")) (dCons (dLit (.str "9")) (dNil))))))))))))))) (dNil))))) (dNext)) (dSeq (dAsg (dLc (dRng1 (dCall 2 [] (F 3) (dCons (dVar 0) (dCons (dLit (.int 4)) (dNil))))) (gVar 6) (dYes) (dCall 2 [] (F 5) (dCons (dVar 0) (dCons (dOp (pureO subO) (dVar 1) (dLit (.int 1))) (dNil)))) [6]) (gVar 3)) (dSeq (dIf (dTru truO (dOp (pureO eqO) (dVar 2) (dLit (.int 3)))) (dRet (dVar 3)) (dNext)) (dSeq (dIf (dTru truO (dOp (pureO eqO) (dVar 2) (dLit (.int 4)))) (dRet (dBlt tupleO (dCons (dVar 3) (dNil)))) (dNext)) (dSeq (dAsg (dIte (dTru truO (dOp (pureO eqO) (dVar 2) (dLit (.int 5)))) (dLst (dCons (dLit (.str "u")) (dCons (dLit (.str "a")) (dCons (dLit (.str "u.said")) (dCons (dLit (.str "b10")) (dCons (dLit (.str "b9")) (dNil))))))) (dLst (dCons (dLit (.int 10)) (dCons (dNeg (dLit (.int 2))) (dCons (dLit (.int 9)) (dCons (dLit (.int 0)) (dCons (dLit (.int 100)) (dNil)))))))) (gVar 4)) (dSeq (dAsg (dCall 2 [] (F 3) (dCons (dVar 0) (dCons (dLit (.int 5)) (dNil)))) (gVar 5)) (dRet (dBlt dictO (dCons (dLzip (dCons (dOp (pureO addO) (dSli (dVar 4) (dPart (dVar 5)) (dNoP)) (dSli (dVar 4) (dNoP) (dPart (dVar 5)))) (dCons (dVar 3) (dNil)))) (dNil))))))))))
def b6 (F : Nat → List D → Ev D) : DS :=
  dSeq (dIf (dTru truO (dIsi kt [.b "dict"] (dVar 0))) (dSeq (dAsg (dLc (dIt (dVar 0)) (gVar 5) (dYes) (dVar 5) [5]) (gVar 1)) (dSeq (dAsg (dCel (dNil)) (gVar 2)) (dSeq (dFor (dRng1 (dBlt lenO (dCons (dVar 1) (dNil)))) (gVar 3) (dSeq (dAsg (dBlt minO (dCons (dLc (dIt (dVar 1)) (gVar 5) (dTru truO (dOp (pureO ninKO) (dVar 5) (dLc (dIt (dVar 2)) (gVar 7) (dYes) (dOp (pureO idxK) (dVar 7) (dLit (.int 0))) [7]))) (dVar 5) [5]) (dNil))) (gVar 4)) (dDrop (dMth isListD appendO (dVar 2) (dCons (dTup (dCons (dVar 4) (dCons (dCall 1 [] (F 6) (dCons (dOp (pureO idxK) (dVar 0) (dVar 4)) (dNil))) (dNil)))) (dNil)))))) (dRet (dBlt tupleO (dCons (dVar 2) (dNil))))))) (dNext)) (dSeq (dIf (dOrT (dTru truO (dIsi kt [.b "list"] (dVar 0))) (dTru truO (dIsi kt [.b "tuple"] (dVar 0)))) (dRet (dBlt tupleO (dCons (dLc (dIt (dVar 0)) (gVar 6) (dYes) (dCall 1 [] (F 6) (dCons (dVar 6) (dNil))) [6]) (dNil)))) (dNext)) (dRet (dVar 0)))
def b7 (F : Nat → List D → Ev D) : DS :=
  dSeq (dPar [1, 2] (dCons (dCall 2 [] (F 5) (dCons (dVar 0) (dCons (dLit (.int 3)) (dNil)))) (dCons (dCall 2 [] (F 4) (dCons (dVar 0) (dCons (dLst (dCons (dLit (.str "known")) (dCons (dLit (.str "")) (dCons (dLit (.str "wall")) (dCons (dLit (.str "paper")) (dNil)))))) (dNil)))) (dNil)))) (dSeq (dPar [3, 4] (dCons (dCel (dCons (dVar 1) (dCons (dLst (dCons (dLit (.int 1)) (dNil))) (dNil)))) (dCons (dDispC [(dLit (.str "u"), dLst (dCons (dVar 1) (dNil))), (dLit (.str "a"), dLit (.int 2))]) (dNil)))) (dSeq (dAsg (dTup (dCons (dCall 1 [] (F 6) (dCons (dVar 1) (dNil))) (dCons (dTup (dCons (dCall 1 [] (F 6) (dCons (dVar 1) (dNil))) (dCons (dTup (dCons (dLit (.int 1)) (dNil))) (dNil)))) (dCons (dTup (dCons (dTup (dCons (dLit (.str "a")) (dCons (dLit (.int 2)) (dNil)))) (dCons (dTup (dCons (dLit (.str "u")) (dCons (dTup (dCons (dCall 1 [] (F 6) (dCons (dVar 1) (dNil))) (dNil))) (dNil)))) (dNil)))) (dNil))))) (gVar 5)) (dSeq (dIf (dOrT (dTru truO (dOp (pureO neO) (dBlt (oneO (reprV 16)) (dCons (dCall 1 [] (F 1) (dCons (dVar 1) (dNil))) (dNil))) (dBlt (oneO (reprV 16)) (dCons (dOp (pureO idxK) (dVar 5) (dLit (.int 0))) (dNil))))) (dTru truO (dOp (pureO neO) (dBlt (oneO (reprV 16)) (dCons (dCall 1 [] (F 1) (dCons (dCall 1 [] (F 1) (dCons (dVar 1) (dNil))) (dNil))) (dNil))) (dBlt (oneO (reprV 16)) (dCons (dOp (pureO idxK) (dVar 5) (dLit (.int 0))) (dNil)))))) (dRet (dLit (.bl false))) (dNext)) (dSeq (dPar [6, 7] (dCons (dMk 0 (fun _ => true) [] (F 10) (dCons (dVar 2) (dCons (dVar 1) (dCons (dVar 3) (dCons (dVar 4) (dNil)))))) (dCons (dMk 1 (fun _ => true) [] (F 10) (dCons (dVar 2) (dCons (dVar 1) (dCons (dVar 3) (dCons (dVar 4) (dNil)))))) (dNil)))) (dSeq (dDrop (dMth isListD appendO (dVar 3) (dCons (dLit (.int 3)) (dNil)))) (dSeq (dAsg (dLit (.int 4)) (gIxK (dVar 4) (dLit (.str "b")))) (dSeq (dFor (dIt (dTup (dCons (dVar 6) (dCons (dVar 7) (dNil))))) (gVar 8) (dIf (dOrT (dTru truO (dOp (pureO neO) (dBlt (oneO (reprV 16)) (dCons (dFld kf "parts" (dVar 8)) (dNil))) (dBlt (oneO (reprV 16)) (dCons (dVar 5) (dNil))))) (dTru truO (dOp (pureO neO) (dFld kf "word" (dVar 8)) (dVar 2)))) (dRet (dLit (.bl false))) (dNext))) (dSeq (dIf (dOrT (dNotT (dTru truO (dOp (eqI kt (tbE F)) (dVar 6) (dVar 7)))) (dOrT (dNotT (dTru truO (dOp (eqI kt (tbE F)) (dVar 7) (dMk 0 (fun _ => true) [] (F 10) (dCons (dVar 2) (dCons (dOp (pureO idxK) (dVar 5) (dLit (.int 0))) (dCons (dOp (pureO idxK) (dVar 5) (dLit (.int 1))) (dCons (dOp (pureO idxK) (dVar 5) (dLit (.int 2))) (dNil))))))))) (dOrT (dTru truO (dOp (eqI kt (tbE F)) (dVar 6) (dVar 5))) (dTru truO (dOp (eqI kt (tbE F)) (dVar 7) (dVar 2)))))) (dRet (dLit (.bl false))) (dNext)) (dSeq (dAsg (dCall 2 [] (F 5) (dCons (dVar 0) (dCons (dLit (.int 2)) (dNil)))) (gVar 9)) (dSeq (dAsg (dOp (pureO eqO) (dCall 1 [] (F 6) (dCons (dVar 9) (dNil))) (dOp (pureO idxK) (dVar 5) (dLit (.int 0)))) (gVar 10)) (dSeq (dIf (dOrT (dTru truO (dOp (pureO neO) (dOp (eqI kt (tbE F)) (dMk 0 (fun _ => true) [] (F 10) (dCons (dVar 2) (dCons (dVar 9) (dCons (dSli (dVar 3) (dNoP) (dPart (dLit (.int 2)))) (dCons (dDisp [(dLit (.str "a"), dLit (.int 2)), (dLit (.str "u"), dLst (dCons (dVar 1) (dNil)))]) (dNil)))))) (dVar 6)) (dVar 10))) (dTru truO (dOp (eqI kt (tbE F)) (dMk 0 (fun _ => true) [] (F 10) (dCons (dVar 2) (dCons (dVar 1) (dCons (dVar 3) (dCons (dVar 4) (dNil)))))) (dVar 6)))) (dRet (dLit (.bl false))) (dNext)) (dRet (dAnd truO (dOp (neI kt (tbE F)) (dVar 6) (dMk 0 (fun _ => true) [] (F 10) (dCons (dOp (pureO addO) (dVar 2) (dLit (.str "s"))) (dCons (dVar 1) (dCons (dOp (pureO idxK) (dVar 5) (dLit (.int 1))) (dCons (dDisp [(dLit (.str "a"), dLit (.int 2)), (dLit (.str "u"), dLst (dCons (dVar 1) (dNil)))]) (dNil))))))) (dAnd truO (dBlt (boolI (tbB F)) (dCons (dVar 6) (dNil))) (dNot (truI (tbB F)) (dVar 7))))))))))))))))
def b8 (F : Nat → List D → Ev D) : DS :=
  dSeq (dAsg (dLc (dRng1 (dCall 2 [] (F 3) (dCons (dVar 0) (dCons (dLit (.int 4)) (dNil))))) (gVar 5) (dYes) (dCall 2 [] (F 4) (dCons (dVar 0) (dCons (dLst (dCons (dLit (.str "u")) (dCons (dLit (.str "v")) (dCons (dLit (.str "w")) (dNil))))) (dNil)))) [5]) (gVar 1)) (dSeq (dPar [2, 3] (dCons (dMk 3 (fun _ => true) [] (pG 2 [] (F 15)) (dCons (dVar 1) (dNil))) (dCons (dMkK 4 [0] [] (F 16) (dCons (dVar 1) (dNil))) (dNil)))) (dSeq (dIf (dOrT (dTru truO (dOp (pureO neO) (dFld kf "word" (dVar 2)) (dLit (.str "known")))) (dOrT (dTru truO (dOp (pureO neO) (dFld kf "parts" (dVar 2)) (dTup (dCons (dBlt tupleO (dCons (dVar 1) (dNil))) (dNil))))) (dOrT (dTru truO (dOp (pureO neO) (dFld kf "worlds" (dVar 2)) (dBlt tupleO (dCons (dVar 1) (dNil))))) (dNotT (dTru (truI (tbB F)) (dVar 2)))))) (dRet (dLit (.bl false))) (dNext)) (dSeq (dIf (dOrT (dTru truO (dOp (pureO neO) (dFld kf "word" (dVar 3)) (dLit (.str "doubted")))) (dOrT (dTru truO (dOp (pureO neO) (dFld kf "world" (dVar 3)) (dBlt tupleO (dCons (dVar 1) (dNil))))) (dOrT (dTru (truI (tbB F)) (dVar 3)) (dNotT (dTru truO (dIsi kt [.o 1] (dVar 3))))))) (dRet (dLit (.bl false))) (dNext)) (dSeq (dIf (dOrT (dTru truO (dOp (eqI kt (tbE F)) (dVar 2) (dVar 3))) (dOrT (dNotT (dTru truO (dOp (eqI kt (tbE F)) (dVar 2) (dMk 0 (fun _ => true) [] (F 10) (dCons (dLit (.str "known")) (dCons (dVar 1) (dNil))))))) (dTru truO (dIsi kt [.o 3] (dMk 0 (fun _ => true) [] (F 10) (dCons (dLit (.str "known")) (dCons (dVar 1) (dNil)))))))) (dRet (dLit (.bl false))) (dNext)) (dSeq (dAsg (dMkK 2 [1, 0] [] (F 14) (dCons (dDisp [(dLit (.int 2), dDisp [(dLit (.str "v"), dLit (.int 1)), (dLit (.str "u"), dLit (.int 0))])]) (dCons (dLst (dCons (dVar 1) (dCons (dLst (dNil)) (dNil)))) (dNil)))) (gVar 4)) (dSeq (dIf (dOrT (dTru truO (dOp (pureO neO) (dFld kf "sets" (dVar 4)) (dTup (dCons (dBlt tupleO (dCons (dVar 1) (dNil))) (dCons (dTup (dNil)) (dNil)))))) (dOrT (dTru truO (dOp (pureO neO) (dFld kf "ranks" (dVar 4)) (dTup (dCons (dTup (dCons (dLit (.int 2)) (dCons (dTup (dCons (dTup (dCons (dLit (.str "u")) (dCons (dLit (.int 0)) (dNil)))) (dCons (dTup (dCons (dLit (.str "v")) (dCons (dLit (.int 1)) (dNil)))) (dNil)))) (dNil)))) (dNil))))) (dTru truO (dOp (pureO neO) (dFld kf "parts" (dVar 4)) (dTup (dCons (dFld kf "sets" (dVar 4)) (dCons (dFld kf "ranks" (dVar 4)) (dNil)))))))) (dRet (dLit (.bl false))) (dNext)) (dRet (dAnd truO (dOp (pureO eqO) (dFld kf "hops" (dMkK 6 [0] [] (F 18) (dCons (dLst (dCons (dLst (dCons (dLit (.str "a")) (dCons (dLit (.str "u")) (dNil)))) (dNil))) (dNil)))) (dTup (dCons (dTup (dCons (dLit (.str "a")) (dCons (dLit (.str "u")) (dNil)))) (dNil)))) (dAnd truO (dNot (truI (tbB F)) (dMk 6 (fun _ => true) [] (pG 2 [] (F 18)) (dCons (dLst (dNil)) (dNil)))) (dAnd truO (dBlt (boolI (tbB F)) (dCons (dMk 5 (fun _ => true) [] (pG 2 [] (F 17)) (dCons (dLst (dNil)) (dNil))) (dNil))) (dOp (pureO eqO) (dFld kf "word" (dMkK 5 [0] [] (F 17) (dCons (dTup (dNil)) (dNil)))) (dLit (.str "shut")))))))))))))
def b9 (F : Nat → List D → Ev D) : DS :=
  dSeq (dAsg (dCall 1 [] (F 2) (dCons (dVar 0) (dNil))) (gVar 1)) (dSeq (dFor (dRng1 (dLit (.int 4))) (gVar 2) (dIf (dOrT (dNotT (dTru truO (dCall 1 [] (F 7) (dCons (dVar 1) (dNil))))) (dNotT (dTru truO (dCall 1 [] (F 8) (dCons (dVar 1) (dNil)))))) (dRet (dLit (.bl false))) (dNext))) (dRet (dLit (.bl true))))
def b10 (F : Nat → List D → Ev D) : DS :=
  dSeq (dSetF kf "word" (dVar 0) (dVar 1)) (dSetF kf "parts" (dVar 0) (dCall 1 [] (F 1) (dCons (dVar 2) (dNil))))
def b11 (F : Nat → List D → Ev D) : DS :=
  dRet (dLit (.bl true))
def b12 (F : Nat → List D → Ev D) : DS :=
  dRet (dAnd truO (dIsi kt [.o 0] (dVar 1)) (dAnd truO (dOp (pureO eqO) (dFld kf "word" (dVar 0)) (dFld kf "word" (dVar 1))) (dOp (pureO eqO) (dFld kf "parts" (dVar 0)) (dFld kf "parts" (dVar 1)))))
def b13 (F : Nat → List D → Ev D) : DS :=
  dRet (dLit (.bl false))
def b14 (F : Nat → List D → Ev D) : DS :=
  dSeq (dSup (fun c => ([2] : List Nat).contains c) (F 10) (dCons (dLit (.str "truth")) (dCons (dVar 1) (dCons (dVar 2) (dNil))))) (dSeq (dSetF kf "sets" (dVar 0) (dOp (pureO idxK) (dFld kf "parts" (dVar 0)) (dLit (.int 0)))) (dSetF kf "ranks" (dVar 0) (dOp (pureO idxK) (dFld kf "parts" (dVar 0)) (dLit (.int 1)))))
def b15 (F : Nat → List D → Ev D) : DS :=
  dSeq (dSup (fun c => ([3] : List Nat).contains c) (F 10) (dCons (dLit (.str "known")) (dCons (dVar 1) (dNil)))) (dSetF kf "worlds" (dVar 0) (dOp (pureO idxK) (dFld kf "parts" (dVar 0)) (dLit (.int 0))))
def b16 (F : Nat → List D → Ev D) : DS :=
  dSeq (dSup (fun c => ([4] : List Nat).contains c) (F 10) (dCons (dLit (.str "doubted")) (dCons (dVar 1) (dNil)))) (dSetF kf "world" (dVar 0) (dOp (pureO idxK) (dFld kf "parts" (dVar 0)) (dLit (.int 0))))
def b17 (F : Nat → List D → Ev D) : DS :=
  dSeq (dSup (fun c => ([5] : List Nat).contains c) (F 10) (dCons (dLit (.str "shut")) (dCons (dVar 1) (dNil)))) (dSetF kf "worlds" (dVar 0) (dOp (pureO idxK) (dFld kf "parts" (dVar 0)) (dLit (.int 0))))
def b18 (F : Nat → List D → Ev D) : DS :=
  dSeq (dSup (fun c => ([6] : List Nat).contains c) (F 10) (dCons (dLit (.str "chain")) (dCons (dVar 1) (dNil)))) (dSetF kf "hops" (dVar 0) (dOp (pureO idxK) (dFld kf "parts" (dVar 0)) (dLit (.int 0))))
def Fs : Nat → Nat → List D → Ev D
  | 0, _ => fun _ => stuck
  | k + 1, i => match i with
    | 0 => runF false 2 (b0 (Fs k))
    | 1 => runF false 3 (b1 (Fs k))
    | 2 => runF true 2 (b2 (Fs k))
    | 3 => runF false 7 (b3 (Fs k))
    | 4 => runF false 2 (b4 (Fs k))
    | 5 => runF false 7 (b5 (Fs k))
    | 6 => runF false 8 (b6 (Fs k))
    | 7 => runF false 11 (b7 (Fs k))
    | 8 => runF false 6 (b8 (Fs k))
    | 9 => runF false 3 (b9 (Fs k))
    | 10 => starG 2 (runF false 3 (b10 (Fs k)))
    | 11 => runF false 1 (b11 (Fs k))
    | 12 => runF false 2 (b12 (Fs k))
    | 13 => runF false 1 (b13 (Fs k))
    | 14 => runF false 4 (b14 (Fs k))
    | 15 => runF false 3 (b15 (Fs k))
    | 16 => runF false 3 (b16 (Fs k))
    | 17 => runF false 3 (b17 (Fs k))
    | 18 => runF false 3 (b18 (Fs k))
    | _ => fun _ => stuck
def ps : Nat → List Str
  | 0 => ["table"]
  | 1 => ["value"]
  | 2 => ["_law_script"]
  | 3 => ["_law_pen_here", "_law_many"]
  | 4 => ["_law_pen_here", "_law_some"]
  | 5 => ["_law_pen_here", "_law_deep"]
  | 6 => ["_law_value_here"]
  | 7 => ["_law_pen_here"]
  | 8 => ["_law_pen_here"]
  | 9 => ["_law_script"]
  | 10 => ["self", "word"]
  | 11 => ["self"]
  | 12 => ["self", "other"]
  | 13 => ["self"]
  | 14 => ["self", "sets", "ranks"]
  | 15 => ["self", "worlds"]
  | 16 => ["self", "world"]
  | 17 => ["self", "worlds"]
  | 18 => ["self", "hops"]
  | _ => []
def star : Nat → Bool
  | 10 => true
  | _ => false
def atT : Nat → PySem.Str × Option PySem.Str
  | 0 => ("keys_of", none)
  | 1 => ("fixed", none)
  | 2 => ("_law_pen", none)
  | 3 => ("_law_draw", none)
  | 4 => ("_law_pick", none)
  | 5 => ("_law_value", none)
  | 6 => ("_law_fixed", none)
  | 7 => ("_law_kept_right", none)
  | 8 => ("_law_classes_right", none)
  | 9 => ("law", none)
  | 10 => ("Paper", some "__init__")
  | 11 => ("Paper", some "__bool__")
  | 12 => ("Paper", some "__eq__")
  | 13 => ("Denial", some "__bool__")
  | 14 => ("Truth", some "__init__")
  | 15 => ("Known", some "__init__")
  | 16 => ("Doubted", some "__init__")
  | 17 => ("Shut", some "__init__")
  | 18 => ("Chain", some "__init__")
  | _ => ("", none)
abbrev G0 (K : PySem.W.Frag) : Gd := GW on en K
section
variable {P : Program} {w : World} {K : PySem.W.Frag} {mg : Str → Option Value} {base : Heap}
def Ih (P : Program) (w : World) (K : PySem.W.Frag) (mg : Str → Option Value) (base : Heap) (k : Nat) (i : Nat) : Prop := ∀ (hid : List Addr) (fd : FuncData), FdAt K (He.fAd K (atT i)) fd →
  match star i with
  | true => FnA ((G0 K).at hid) P w mg base (3 * k + 3) (He.fAd K (atT i)) okP (Fs k i)
  | false => FnS ((G0 K).at hid) P w mg base (3 * k + 3) (He.fAd K (atT i)) fd (ps i) (Fs k i)
theorem sc0 : FnScope ["table", "key"] ["table"] (defScope s0) := ⟨rfl, rfl, rfl, by decide +kernel, rfl, by decide +kernel, by decide +kernel⟩
theorem ok0 (X : K.In base) (Nm : base.Ns mainGlobals mg) (c : SaysX P fa fn fy ex K) {k : Nat} (ih : ∀ i, Ih P w K mg base k i) : Ih P w K mg base (k + 1) 0 := by
  intro hid fd hfd
  obtain ⟨fd0, F0⟩ := c.d.def_ 0 (d := d0) rfl
  obtain rfl := hfd.one F0.fdAt
  have n_all := He.free_ok (x := "all") X Nm (c.d.fact 18 rfl)
  have n_int := He.free_ok (x := "int") X Nm (c.d.fact 21 rfl)
  have n_isinstance := He.free_ok (x := "isinstance") X Nm (c.d.fact 22 rfl)
  have n_sorted := He.free_ok (x := "sorted") X Nm (c.d.fact 28 rfl)
  have n_str := He.free_ok (x := "str") X Nm (c.d.fact 29 rfl)
  have kto : ∀ hid, KtOk ((G0 K).at hid) kt := fun hid => ktW_ok (He.ba (He.ba c.more).2).1 hid
  have F1 : FunD K "keys_of" "keys_of" (defArgs s0) (defBody s0) (defScope s0) [] [] (He.ga K "keys_of") fd := F0
  show FnS ((G0 K).at hid) P w mg base (3 * k + 5 + 1) (He.ga K "keys_of") fd ["table"] (runF false 2 (b0 (Fs k)))
  refine FnS.of (G := (G0 K).at hid) (N := ["table", "key"]) (ps := ["table"]) (keep := false) (m := b0 (Fs k)) F1 sc0 fun cd A outer s H E hr hgd => ?_
  have cf : Cf ((G0 K).at hid) (bodyCx ((G0 K).at hid) P w mg base ["table", "key"] "keys_of" (defScope s0) (He.ga K "keys_of") cd A outer s H E) := ⟨rfl, rfl, sc0.nd, hgd, hr.units⟩
  have hr0 := hr.mono (show 3 * k + 3 ≤ 3 * k + 5 by omega)
  have hr1 := hr.mono (show 3 * k + 4 ≤ 3 * k + 5 by omega)
  have hr2 := hr
  exact SSs.cons (SS.if_ (tVal cf (sBF (.all cf.calm) (by rfl) n_all (by decide +kernel) (aCons (SE.lc cf.calm cf.nd (own := [("key", 1)]) (SI.of cf.hK (sVar (i := 0) (by rfl) (Or.inl (by rfl)))) (fun D1 _ _ _ _ _ => SGv.name (cf.blk (D := D1)).nd (i := 1) (by rfl) (Or.inl (by rfl)) (Or.inr (by rfl)) (by decide)) (fun D1 _ _ _ _ _ => STs.nil) (fun D1 _ _ _ _ _ => SE.isi1 (kto _) (cf.blk (D := D1)).hK (t := .b "str") (by rfl) n_isinstance (sVar (i := 1) (by rfl) (Or.inl (by rfl))) (pe_bltn (u := .type "str") (by rfl) n_str (by decide +kernel) (by rfl)) (by rfl) (by rfl) (by rfl)) (blkOk_by (by kernel_rfl)) (by intro _; rfl)) (SA.nil)))) (SSs.one (SS.ret (sBF (.sorted cf.hK cf.un) (by rfl) n_sorted (by decide +kernel) (aCons (SE.lc cf.calm cf.nd (own := [("key", 1)]) (SI.of cf.hK (sVar (i := 0) (by rfl) (Or.inl (by rfl)))) (fun D1 _ _ _ _ _ => SGv.name (cf.blk (D := D1)).nd (i := 1) (by rfl) (Or.inl (by rfl)) (Or.inr (by rfl)) (by decide)) (fun D1 _ _ _ _ _ => STs.nil) (fun D1 _ _ _ _ _ => sBT .str (by rfl) n_str (by decide +kernel) (aCons (sVar (i := 1) (by rfl) (Or.inl (by rfl))) (SA.nil))) (blkOk_by (by kernel_rfl)) (by intro _; rfl)) (SA.nil))))) (SSs.nil)) (SSs.one (SS.ret (sBF (.sorted cf.hK cf.un) (by rfl) n_sorted (by decide +kernel) (aCons (SE.lc cf.calm cf.nd (own := [("key", 1)]) (SI.of cf.hK (sVar (i := 0) (by rfl) (Or.inl (by rfl)))) (fun D1 _ _ _ _ _ => SGv.name (cf.blk (D := D1)).nd (i := 1) (by rfl) (Or.inl (by rfl)) (Or.inr (by rfl)) (by decide)) (fun D1 _ _ _ _ _ => STs.nil) (fun D1 _ _ _ _ _ => sBT .int (by rfl) n_int (by decide +kernel) (aCons (sVar (i := 1) (by rfl) (Or.inl (by rfl))) (SA.nil))) (blkOk_by (by kernel_rfl)) (by intro _; rfl)) (SA.nil)))))
theorem sc1 : FnScope ["value", "key", "item"] ["value"] (defScope s1) := ⟨rfl, rfl, rfl, by decide +kernel, rfl, by decide +kernel, by decide +kernel⟩
theorem ok1 (X : K.In base) (Nm : base.Ns mainGlobals mg) (c : SaysX P fa fn fy ex K) {k : Nat} (ih : ∀ i, Ih P w K mg base k i) : Ih P w K mg base (k + 1) 1 := by
  intro hid fd hfd
  obtain ⟨fd0, F0⟩ := c.d.def_ 1 (d := d1) rfl
  obtain rfl := hfd.one F0.fdAt
  have n_dict := He.free_ok (x := "dict") X Nm (c.d.fact 20 rfl)
  have n_isinstance := He.free_ok (x := "isinstance") X Nm (c.d.fact 22 rfl)
  have n_list := He.free_ok (x := "list") X Nm (c.d.fact 24 rfl)
  have n_tuple := He.free_ok (x := "tuple") X Nm (c.d.fact 30 rfl)
  have kto : ∀ hid, KtOk ((G0 K).at hid) kt := fun hid => ktW_ok (He.ba (He.ba c.more).2).1 hid
  obtain ⟨fe0, Fe0⟩ := c.d.def_ 0 (d := d0) rfl
  have f0 : ∀ hid, FnS ((G0 K).at hid) P w mg base (3 * k + 3) (He.ga K "keys_of") fe0 ["table"] (Fs k 0) := fun hid => ih 0 hid fe0 Fe0.fdAt
  have g0 := He.glo_ok (x := "keys_of") X Nm (c.d.fact 0 rfl)
  obtain ⟨fe1, Fe1⟩ := c.d.def_ 1 (d := d1) rfl
  have f1 : ∀ hid, FnS ((G0 K).at hid) P w mg base (3 * k + 3) (He.ga K "fixed") fe1 ["value"] (Fs k 1) := fun hid => ih 1 hid fe1 Fe1.fdAt
  have g1 := He.glo_ok (x := "fixed") X Nm (c.d.fact 1 rfl)
  have b0_1 : Binds K fe0 ["table"] [] := Fe0.bindsN fun _ _ _ _ _ _ us hl => match us, hl with | [_], _ => rfl
  have b1_1 : Binds K fe1 ["value"] [] := Fe1.bindsN fun _ _ _ _ _ _ us hl => match us, hl with | [_], _ => rfl
  have F1 : FunD K "fixed" "fixed" (defArgs s1) (defBody s1) (defScope s1) [] [] (He.ga K "fixed") fd := F0
  show FnS ((G0 K).at hid) P w mg base (3 * k + 5 + 1) (He.ga K "fixed") fd ["value"] (runF false 3 (b1 (Fs k)))
  refine FnS.of (G := (G0 K).at hid) (N := ["value", "key", "item"]) (ps := ["value"]) (keep := false) (m := b1 (Fs k)) F1 sc1 fun cd A outer s H E hr hgd => ?_
  have cf : Cf ((G0 K).at hid) (bodyCx ((G0 K).at hid) P w mg base ["value", "key", "item"] "fixed" (defScope s1) (He.ga K "fixed") cd A outer s H E) := ⟨rfl, rfl, sc1.nd, hgd, hr.units⟩
  have hr0 := hr.mono (show 3 * k + 3 ≤ 3 * k + 5 by omega)
  have hr1 := hr.mono (show 3 * k + 4 ≤ 3 * k + 5 by omega)
  have hr2 := hr
  exact SSs.cons (SS.if_ (tVal cf (SE.isi1 (kto _) cf.hK (t := .b "dict") (by rfl) n_isinstance (sVar (i := 0) (by rfl) (Or.inr (Or.inl (by rfl)))) (pe_bltn (u := .type "dict") (by rfl) n_dict (by decide +kernel) (by rfl)) (by rfl) (by rfl) (by rfl))) (SSs.one (SS.ret (sBT (.tuple cf.hK) (by rfl) n_tuple (by decide +kernel) (aCons (SE.lc cf.calm cf.nd (own := [("key", 1)]) (SI.of cf.hK (sCall cf (f0 _) hr0 (by rfl) g0 Fe0.kp b0_1 .nil (fun _ _ => .nil) (aCons (sVar (i := 0) (by rfl) (Or.inr (Or.inl (by rfl)))) (SA.nil)))) (fun D1 _ _ _ _ _ => SGv.name (cf.blk (D := D1)).nd (i := 1) (by rfl) (Or.inl (by rfl)) (Or.inr (by rfl)) (by decide)) (fun D1 _ _ _ _ _ => STs.nil) (fun D1 _ _ _ _ _ => SE.tup (aCons (sVar (i := 1) (by rfl) (Or.inl (by rfl))) (aCons (sCall (cf.blk (D := D1)) (f1 _) hr0 (by rfl) g1 Fe1.kp b1_1 .nil (fun _ _ => .nil) (aCons (sIxK (cf.blk (D := D1)) (sVar (i := 0) (by rfl) (Or.inr (Or.inl (by rfl)))) (sVar (i := 1) (by rfl) (Or.inl (by rfl)))) (SA.nil))) (SA.nil)))) (blkOk_by (by kernel_rfl)) (by intro _; rfl)) (SA.nil))))) (SSs.nil)) (SSs.cons (SS.if_ (tVal cf (SE.isiT (kto _) cf.hK (Ts := [.b "list", .b "tuple"]) (by rfl) n_isinstance (sVar (i := 0) (by rfl) (Or.inr (Or.inl (by rfl)))) (pa_cons (pe_bltn (v := .ty "list") (u := .type "list") (by rfl) n_list (by decide +kernel) (by rfl)) (pa_cons (pe_bltn (v := .ty "tuple") (u := .type "tuple") (by rfl) n_tuple (by decide +kernel) (by rfl)) (pa_nil))) (by decide) (by rfl) (by rfl) (by rfl))) (SSs.one (SS.ret (sBT (.tuple cf.hK) (by rfl) n_tuple (by decide +kernel) (aCons (SE.lc cf.calm cf.nd (own := [("item", 2)]) (SI.of cf.hK (sVar (i := 0) (by rfl) (Or.inr (Or.inl (by rfl))))) (fun D1 _ _ _ _ _ => SGv.name (cf.blk (D := D1)).nd (i := 2) (by rfl) (Or.inl (by rfl)) (Or.inr (by rfl)) (by decide)) (fun D1 _ _ _ _ _ => STs.nil) (fun D1 _ _ _ _ _ => sCall (cf.blk (D := D1)) (f1 _) hr0 (by rfl) g1 Fe1.kp b1_1 .nil (fun _ _ => .nil) (aCons (sVar (i := 2) (by rfl) (Or.inl (by rfl))) (SA.nil))) (blkOk_by (by kernel_rfl)) (by intro _; rfl)) (SA.nil))))) (SSs.nil)) (SSs.one (SS.ret (sVar (i := 0) (by rfl) (Or.inr (Or.inl (by rfl)))))))
theorem sc2 : FnScope ["_law_script", "_law_cell"] ["_law_script"] (defScope s2) := ⟨rfl, rfl, rfl, by decide +kernel, rfl, by decide +kernel, by decide +kernel⟩
theorem ok2 (X : K.In base) (Nm : base.Ns mainGlobals mg) (c : SaysX P fa fn fy ex K) {k : Nat} (ih : ∀ i, Ih P w K mg base k i) : Ih P w K mg base (k + 1) 2 := by
  intro hid fd hfd
  obtain ⟨fd0, F0⟩ := c.d.def_ 2 (d := d2) rfl
  obtain rfl := hfd.one F0.fdAt
  have n_int := He.free_ok (x := "int") X Nm (c.d.fact 21 rfl)
  have F1 : FunD K "_law_pen" "_law_pen" (defArgs s2) (defBody s2) (defScope s2) [] [] (He.ga K "_law_pen") fd := F0
  show FnS ((G0 K).at hid) P w mg base (3 * k + 5 + 1) (He.ga K "_law_pen") fd ["_law_script"] (runF true 2 (b2 (Fs k)))
  refine FnS.of (G := (G0 K).at hid) (N := ["_law_script", "_law_cell"]) (ps := ["_law_script"]) (keep := true) (m := b2 (Fs k)) F1 sc2 fun cd A outer s H E hr hgd => ?_
  have cf : Cf ((G0 K).at hid) (bodyCx ((G0 K).at hid) P w mg base ["_law_script", "_law_cell"] "_law_pen" (defScope s2) (He.ga K "_law_pen") cd A outer s H E) := ⟨rfl, rfl, sc2.nd, hgd, hr.units⟩
  have hr0 := hr.mono (show 3 * k + 3 ≤ 3 * k + 5 by omega)
  have hr1 := hr.mono (show 3 * k + 4 ≤ 3 * k + 5 by omega)
  have hr2 := hr
  exact SSs.one (SS.ret (SE.cel (aCons (SE.lc cf.calm cf.nd (own := [("_law_cell", 1)]) (SI.of cf.hK (SE.sli cf.hK (sVar (i := 0) (by rfl) (Or.inl (by rfl))) (SO.none) (SO.some (sInt)))) (fun D1 _ _ _ _ _ => SGv.name (cf.blk (D := D1)).nd (i := 1) (by rfl) (Or.inl (by rfl)) (Or.inr (by rfl)) (by decide)) (fun D1 _ _ _ _ _ => STs.nil) (fun D1 _ _ _ _ _ => sBT .int (by rfl) n_int (by decide +kernel) (aCons (sVar (i := 1) (by rfl) (Or.inl (by rfl))) (SA.nil))) (blkOk_by (by kernel_rfl)) (by intro _; rfl)) (aCons (sInt) (aCons (sInt) (SA.nil))))))
theorem sc3 : FnScope ["_law_pen_here", "_law_many", "_law_digit", "_law_at", "_law_cell", "_law_great", "_law_mixed"] ["_law_pen_here", "_law_many"] (defScope s3) := ⟨rfl, rfl, rfl, by decide +kernel, rfl, by decide +kernel, by decide +kernel⟩
theorem ok3 (X : K.In base) (Nm : base.Ns mainGlobals mg) (c : SaysX P fa fn fy ex K) {k : Nat} (ih : ∀ i, Ih P w K mg base k i) : Ih P w K mg base (k + 1) 3 := by
  intro hid fd hfd
  obtain ⟨fd0, F0⟩ := c.d.def_ 3 (d := d3) rfl
  obtain rfl := hfd.one F0.fdAt
  have n_abs := He.free_ok (x := "abs") X Nm (c.d.fact 17 rfl)
  have n_int := He.free_ok (x := "int") X Nm (c.d.fact 21 rfl)
  have n_len := He.free_ok (x := "len") X Nm (c.d.fact 23 rfl)
  have F1 : FunD K "_law_draw" "_law_draw" (defArgs s3) (defBody s3) (defScope s3) [] [] (He.ga K "_law_draw") fd := F0
  show FnS ((G0 K).at hid) P w mg base (3 * k + 5 + 1) (He.ga K "_law_draw") fd ["_law_pen_here", "_law_many"] (runF false 7 (b3 (Fs k)))
  refine FnS.of (G := (G0 K).at hid) (N := ["_law_pen_here", "_law_many", "_law_digit", "_law_at", "_law_cell", "_law_great", "_law_mixed"]) (ps := ["_law_pen_here", "_law_many"]) (keep := false) (m := b3 (Fs k)) F1 sc3 fun cd A outer s H E hr hgd => ?_
  have cf : Cf ((G0 K).at hid) (bodyCx ((G0 K).at hid) P w mg base ["_law_pen_here", "_law_many", "_law_digit", "_law_at", "_law_cell", "_law_great", "_law_mixed"] "_law_draw" (defScope s3) (He.ga K "_law_draw") cd A outer s H E) := ⟨rfl, rfl, sc3.nd, hgd, hr.units⟩
  have hr0 := hr.mono (show 3 * k + 3 ≤ 3 * k + 5 by omega)
  have hr1 := hr.mono (show 3 * k + 4 ≤ 3 * k + 5 by omega)
  have hr2 := hr
  exact SSs.cons (SS.if_ (tCmp cf oGt (sIxK cf (sVar (i := 0) (by rfl) (Or.inl (by rfl))) (sInt)) (sInt)) (SSs.cons (SS.asg (sMod (sBT .int (by rfl) n_int (by decide +kernel) (aCons (sIxK cf (sVar (i := 0) (by rfl) (Or.inl (by rfl))) (sInt)) (SA.nil))) (sVar (i := 1) (by rfl) (Or.inl (by rfl)))) (SG.name cf.nd (i := 2) (by rfl) (Or.inl (by rfl)) (Or.inl (by rfl))) (by rfl) (by rfl) (by rfl)) (SSs.cons (SS.asg (sDiv (sBT .int (by rfl) n_int (by decide +kernel) (aCons (sIxK cf (sVar (i := 0) (by rfl) (Or.inl (by rfl))) (sInt)) (SA.nil))) (sVar (i := 1) (by rfl) (Or.inl (by rfl)))) (SG.subK cf.un1 (sVar (i := 0) (by rfl) (Or.inl (by rfl))) (sInt) (by intro _; rfl)) (by rfl) (by rfl) (by rfl)) (SSs.one (SS.ret (sVar (i := 2) (by rfl) (Or.inl (by rfl))))))) (SSs.nil)) (SSs.cons (SS.asg (sIxK cf (sVar (i := 0) (by rfl) (Or.inl (by rfl))) (sInt)) (SG.name cf.nd (i := 3) (by rfl) (Or.inl (by rfl)) (Or.inl (by rfl))) (by rfl) (by rfl) (by rfl)) (SSs.cons (SS.asg (sAdd cf (sVar (i := 3) (by rfl) (Or.inl (by rfl))) (sInt)) (SG.subK cf.un1 (sVar (i := 0) (by rfl) (Or.inl (by rfl))) (sInt) (by intro _; rfl)) (by rfl) (by rfl) (by rfl)) (SSs.cons (SS.asg (sAdd cf (sMul (sInt) (sVar (i := 3) (by rfl) (Or.inl (by rfl)))) (sInt)) (SG.name cf.nd (i := 4) (by rfl) (Or.inl (by rfl)) (Or.inl (by rfl))) (by rfl) (by rfl) (by rfl)) (SSs.cons (SS.if_ (tCmp cf (oNe cf) (sIxK cf (sVar (i := 0) (by rfl) (Or.inl (by rfl))) (sInt)) (SE.lst (SA.nil))) (SSs.one (SS.asg (sIxK cf (sIxK cf (sVar (i := 0) (by rfl) (Or.inl (by rfl))) (sInt)) (sMod (sBT .int (by rfl) n_int (by decide +kernel) (aCons (sVar (i := 3) (by rfl) (Or.inl (by rfl))) (SA.nil))) (sBF (.len cf.hK) (by rfl) n_len (by decide +kernel) (aCons (sIxK cf (sVar (i := 0) (by rfl) (Or.inl (by rfl))) (sInt)) (SA.nil))))) (SG.name cf.nd (i := 4) (by rfl) (Or.inl (by rfl)) (Or.inl (by rfl))) (by rfl) (by rfl) (by rfl))) (SSs.nil)) (SSs.cons (SS.if_ ((SW.and (tCmp cf oLt (sVar (i := 3) (by rfl) (Or.inl (by rfl))) (sBF (.len cf.hK) (by rfl) n_len (by decide +kernel) (aCons (sIxK cf (sVar (i := 0) (by rfl) (Or.inl (by rfl))) (sInt)) (SA.nil)))) (SW.and1 (tCmp cf oGe (sBF .abs (by rfl) n_abs (by decide +kernel) (aCons (sVar (i := 4) (by rfl) (Or.inl (by rfl))) (SA.nil))) (sPow (sInt) (sInt))))).st) (SSs.cons (SS.asg (sAdd cf (sMul (sInt) (sSub (sBF .abs (by rfl) n_abs (by decide +kernel) (aCons (sVar (i := 4) (by rfl) (Or.inl (by rfl))) (SA.nil))) (sPow (sInt) (sInt)))) (sBT .int (by rfl) n_int (by decide +kernel) (aCons (sCmp oLt (sVar (i := 4) (by rfl) (Or.inl (by rfl))) (sInt)) (SA.nil)))) (SG.name cf.nd (i := 5) (by rfl) (Or.inl (by rfl)) (Or.inl (by rfl))) (by rfl) (by rfl) (by rfl)) (SSs.cons (SS.asg (sDiv (sBT .int (by rfl) n_int (by decide +kernel) (aCons (sVar (i := 5) (by rfl) (Or.inl (by rfl))) (SA.nil))) (sVar (i := 1) (by rfl) (Or.inl (by rfl)))) (SG.subK cf.un1 (sVar (i := 0) (by rfl) (Or.inl (by rfl))) (sInt) (by intro _; rfl)) (by rfl) (by rfl) (by rfl)) (SSs.one (SS.ret (sMod (sBT .int (by rfl) n_int (by decide +kernel) (aCons (sVar (i := 5) (by rfl) (Or.inl (by rfl))) (SA.nil))) (sVar (i := 1) (by rfl) (Or.inl (by rfl)))))))) (SSs.nil)) (SSs.cons (SS.asg (sMod (sBT .int (by rfl) n_int (by decide +kernel) (aCons (sPow (sAdd cf (sAdd cf (sMod (sBT .int (by rfl) n_int (by decide +kernel) (aCons (sVar (i := 4) (by rfl) (Or.inl (by rfl))) (SA.nil))) (sInt)) (sMul (sInt) (sVar (i := 3) (by rfl) (Or.inl (by rfl))))) (sInt)) (sInt)) (SA.nil))) (sInt)) (SG.name cf.nd (i := 6) (by rfl) (Or.inl (by rfl)) (Or.inl (by rfl))) (by rfl) (by rfl) (by rfl)) (SSs.cons (SS.asg (sMod (sBT .int (by rfl) n_int (by decide +kernel) (aCons (sPow (sAdd cf (sAdd cf (sMul (sVar (i := 6) (by rfl) (Or.inl (by rfl))) (sAdd cf (sMul (sInt) (sVar (i := 3) (by rfl) (Or.inl (by rfl)))) (sInt))) (sMul (sMul (sInt) (sVar (i := 3) (by rfl) (Or.inl (by rfl)))) (sVar (i := 3) (by rfl) (Or.inl (by rfl))))) (sInt)) (sInt)) (SA.nil))) (sInt)) (SG.name cf.nd (i := 6) (by rfl) (Or.inl (by rfl)) (Or.inl (by rfl))) (by rfl) (by rfl) (by rfl)) (SSs.one (SS.ret (sMod (sBT .int (by rfl) n_int (by decide +kernel) (aCons (sDiv (sVar (i := 6) (by rfl) (Or.inl (by rfl))) (sInt)) (SA.nil))) (sVar (i := 1) (by rfl) (Or.inl (by rfl)))))))))))))
theorem sc4 : FnScope ["_law_pen_here", "_law_some"] ["_law_pen_here", "_law_some"] (defScope s4) := ⟨rfl, rfl, rfl, by decide +kernel, rfl, by decide +kernel, by decide +kernel⟩
theorem ok4 (X : K.In base) (Nm : base.Ns mainGlobals mg) (c : SaysX P fa fn fy ex K) {k : Nat} (ih : ∀ i, Ih P w K mg base k i) : Ih P w K mg base (k + 1) 4 := by
  intro hid fd hfd
  obtain ⟨fd0, F0⟩ := c.d.def_ 4 (d := d4) rfl
  obtain rfl := hfd.one F0.fdAt
  have n_len := He.free_ok (x := "len") X Nm (c.d.fact 23 rfl)
  obtain ⟨fe3, Fe3⟩ := c.d.def_ 3 (d := d3) rfl
  have f3 : ∀ hid, FnS ((G0 K).at hid) P w mg base (3 * k + 3) (He.ga K "_law_draw") fe3 ["_law_pen_here", "_law_many"] (Fs k 3) := fun hid => ih 3 hid fe3 Fe3.fdAt
  have g3 := He.glo_ok (x := "_law_draw") X Nm (c.d.fact 3 rfl)
  have b3_2 : Binds K fe3 ["_law_pen_here", "_law_many"] [] := Fe3.bindsN fun _ _ _ _ _ _ us hl => match us, hl with | [_, _], _ => rfl
  have F1 : FunD K "_law_pick" "_law_pick" (defArgs s4) (defBody s4) (defScope s4) [] [] (He.ga K "_law_pick") fd := F0
  show FnS ((G0 K).at hid) P w mg base (3 * k + 5 + 1) (He.ga K "_law_pick") fd ["_law_pen_here", "_law_some"] (runF false 2 (b4 (Fs k)))
  refine FnS.of (G := (G0 K).at hid) (N := ["_law_pen_here", "_law_some"]) (ps := ["_law_pen_here", "_law_some"]) (keep := false) (m := b4 (Fs k)) F1 sc4 fun cd A outer s H E hr hgd => ?_
  have cf : Cf ((G0 K).at hid) (bodyCx ((G0 K).at hid) P w mg base ["_law_pen_here", "_law_some"] "_law_pick" (defScope s4) (He.ga K "_law_pick") cd A outer s H E) := ⟨rfl, rfl, sc4.nd, hgd, hr.units⟩
  have hr0 := hr.mono (show 3 * k + 3 ≤ 3 * k + 5 by omega)
  have hr1 := hr.mono (show 3 * k + 4 ≤ 3 * k + 5 by omega)
  have hr2 := hr
  exact SSs.one (SS.ret (sIxK cf (sVar (i := 1) (by rfl) (Or.inl (by rfl))) (sCall cf (f3 _) hr0 (by rfl) g3 Fe3.kp b3_2 .nil (fun _ _ => .nil) (aCons (sVar (i := 0) (by rfl) (Or.inl (by rfl))) (aCons (sBF (.len cf.hK) (by rfl) n_len (by decide +kernel) (aCons (sVar (i := 1) (by rfl) (Or.inl (by rfl))) (SA.nil))) (SA.nil))))))
theorem sc5 : FnScope ["_law_pen_here", "_law_deep", "_law_way", "_law_some", "_law_keys", "_law_turned", "_law_turn"] ["_law_pen_here", "_law_deep"] (defScope s5) := ⟨rfl, rfl, rfl, by decide +kernel, rfl, by decide +kernel, by decide +kernel⟩
theorem ok5 (X : K.In base) (Nm : base.Ns mainGlobals mg) (c : SaysX P fa fn fy ex K) {k : Nat} (ih : ∀ i, Ih P w K mg base k i) : Ih P w K mg base (k + 1) 5 := by
  intro hid fd hfd
  obtain ⟨fd0, F0⟩ := c.d.def_ 5 (d := d5) rfl
  obtain rfl := hfd.one F0.fdAt
  have n_dict := He.free_ok (x := "dict") X Nm (c.d.fact 20 rfl)
  have n_list := He.free_ok (x := "list") X Nm (c.d.fact 24 rfl)
  have n_range := He.free_ok (x := "range") X Nm (c.d.fact 26 rfl)
  have n_tuple := He.free_ok (x := "tuple") X Nm (c.d.fact 30 rfl)
  have n_zip := He.free_ok (x := "zip") X Nm (c.d.fact 31 rfl)
  obtain ⟨fe3, Fe3⟩ := c.d.def_ 3 (d := d3) rfl
  have f3 : ∀ hid, FnS ((G0 K).at hid) P w mg base (3 * k + 3) (He.ga K "_law_draw") fe3 ["_law_pen_here", "_law_many"] (Fs k 3) := fun hid => ih 3 hid fe3 Fe3.fdAt
  have g3 := He.glo_ok (x := "_law_draw") X Nm (c.d.fact 3 rfl)
  obtain ⟨fe4, Fe4⟩ := c.d.def_ 4 (d := d4) rfl
  have f4 : ∀ hid, FnS ((G0 K).at hid) P w mg base (3 * k + 3) (He.ga K "_law_pick") fe4 ["_law_pen_here", "_law_some"] (Fs k 4) := fun hid => ih 4 hid fe4 Fe4.fdAt
  have g4 := He.glo_ok (x := "_law_pick") X Nm (c.d.fact 4 rfl)
  obtain ⟨fe5, Fe5⟩ := c.d.def_ 5 (d := d5) rfl
  have f5 : ∀ hid, FnS ((G0 K).at hid) P w mg base (3 * k + 3) (He.ga K "_law_value") fe5 ["_law_pen_here", "_law_deep"] (Fs k 5) := fun hid => ih 5 hid fe5 Fe5.fdAt
  have g5 := He.glo_ok (x := "_law_value") X Nm (c.d.fact 5 rfl)
  have b3_2 : Binds K fe3 ["_law_pen_here", "_law_many"] [] := Fe3.bindsN fun _ _ _ _ _ _ us hl => match us, hl with | [_, _], _ => rfl
  have b4_2 : Binds K fe4 ["_law_pen_here", "_law_some"] [] := Fe4.bindsN fun _ _ _ _ _ _ us hl => match us, hl with | [_, _], _ => rfl
  have b5_2 : Binds K fe5 ["_law_pen_here", "_law_deep"] [] := Fe5.bindsN fun _ _ _ _ _ _ us hl => match us, hl with | [_, _], _ => rfl
  have F1 : FunD K "_law_value" "_law_value" (defArgs s5) (defBody s5) (defScope s5) [] [] (He.ga K "_law_value") fd := F0
  show FnS ((G0 K).at hid) P w mg base (3 * k + 5 + 1) (He.ga K "_law_value") fd ["_law_pen_here", "_law_deep"] (runF false 7 (b5 (Fs k)))
  refine FnS.of (G := (G0 K).at hid) (N := ["_law_pen_here", "_law_deep", "_law_way", "_law_some", "_law_keys", "_law_turned", "_law_turn"]) (ps := ["_law_pen_here", "_law_deep"]) (keep := false) (m := b5 (Fs k)) F1 sc5 fun cd A outer s H E hr hgd => ?_
  have cf : Cf ((G0 K).at hid) (bodyCx ((G0 K).at hid) P w mg base ["_law_pen_here", "_law_deep", "_law_way", "_law_some", "_law_keys", "_law_turned", "_law_turn"] "_law_value" (defScope s5) (He.ga K "_law_value") cd A outer s H E) := ⟨rfl, rfl, sc5.nd, hgd, hr.units⟩
  have hr0 := hr.mono (show 3 * k + 3 ≤ 3 * k + 5 by omega)
  have hr1 := hr.mono (show 3 * k + 4 ≤ 3 * k + 5 by omega)
  have hr2 := hr
  exact SSs.cons (SS.asg (SE.ite (tCmp cf oGt (sVar (i := 1) (by rfl) (Or.inr (Or.inl (by rfl)))) (sInt)) (sCall cf (f3 _) hr0 (by rfl) g3 Fe3.kp b3_2 .nil (fun _ _ => .nil) (aCons (sVar (i := 0) (by rfl) (Or.inr (Or.inl (by rfl)))) (aCons (sInt) (SA.nil)))) (sInt)) (SG.name cf.nd (i := 2) (by rfl) (Or.inl (by rfl)) (Or.inl (by rfl))) (by rfl) (by rfl) (by rfl)) (SSs.cons (SS.if_ (tCmp cf oLt (sVar (i := 2) (by rfl) (Or.inl (by rfl))) (sInt)) (SSs.one (SS.ret (sCall cf (f4 _) hr0 (by rfl) g4 Fe4.kp b4_2 .nil (fun _ _ => .nil) (aCons (sVar (i := 0) (by rfl) (Or.inr (Or.inl (by rfl)))) (aCons (SE.lst (aCons (sInt) (aCons (sInt) (aCons (SE.neg (sInt)) (aCons (sPow (sInt) (sInt)) (aCons (sStr) (aCons (sStr) (aCons (sStr) (aCons (sStr) (aCons (sNon) (aCons (sBl) (aCons (sBl) (aCons (sStr) (aCons (sStr) (SA.nil))))))))))))))) (SA.nil)))))) (SSs.nil)) (SSs.cons (SS.setLc cf.calm cf.nd (own := [("_law_turn", 6)]) (SI.rng1 (by rfl) n_range (sCall cf (f3 _) hr0 (by rfl) g3 Fe3.kp b3_2 .nil (fun _ _ => .nil) (aCons (sVar (i := 0) (by rfl) (Or.inr (Or.inl (by rfl)))) (aCons (sInt) (SA.nil)))) (by rfl)) (fun D1 _ _ _ _ _ => SGv.name (cf.blk (D := D1)).nd (i := 6) (by rfl) (Or.inl (by rfl)) (Or.inr (by rfl)) (by decide)) (fun D1 _ _ _ _ _ => STs.nil) (fun D1 _ _ _ _ _ => sCall (cf.blk (D := D1)) (f5 _) hr0 (by rfl) g5 Fe5.kp b5_2 .nil (fun _ _ => .nil) (aCons (sVar (i := 0) (by rfl) (Or.inr (Or.inl (by rfl)))) (aCons (sSub (sVar (i := 1) (by rfl) (Or.inr (Or.inl (by rfl)))) (sInt)) (SA.nil)))) (blkOk_by (by kernel_rfl)) (by intro _; rfl) (i := 3) (by rfl) (by rfl) (by rfl)) (SSs.cons (SS.if_ (tCmp cf (oEq cf) (sVar (i := 2) (by rfl) (Or.inl (by rfl))) (sInt)) (SSs.one (SS.ret (sVar (i := 3) (by rfl) (Or.inl (by rfl))))) (SSs.nil)) (SSs.cons (SS.if_ (tCmp cf (oEq cf) (sVar (i := 2) (by rfl) (Or.inl (by rfl))) (sInt)) (SSs.one (SS.ret (sBT (.tuple cf.hK) (by rfl) n_tuple (by decide +kernel) (aCons (sVar (i := 3) (by rfl) (Or.inl (by rfl))) (SA.nil))))) (SSs.nil)) (SSs.cons (SS.asg (SE.ite (tCmp cf (oEq cf) (sVar (i := 2) (by rfl) (Or.inl (by rfl))) (sInt)) (SE.lst (aCons (sStr) (aCons (sStr) (aCons (sStr) (aCons (sStr) (aCons (sStr) (SA.nil))))))) (SE.lst (aCons (sInt) (aCons (SE.neg (sInt)) (aCons (sInt) (aCons (sInt) (aCons (sInt) (SA.nil)))))))) (SG.name cf.nd (i := 4) (by rfl) (Or.inl (by rfl)) (Or.inl (by rfl))) (by rfl) (by rfl) (by rfl)) (SSs.cons (SS.asg (sCall cf (f3 _) hr0 (by rfl) g3 Fe3.kp b3_2 .nil (fun _ _ => .nil) (aCons (sVar (i := 0) (by rfl) (Or.inr (Or.inl (by rfl)))) (aCons (sInt) (SA.nil)))) (SG.name cf.nd (i := 5) (by rfl) (Or.inl (by rfl)) (Or.inl (by rfl))) (by rfl) (by rfl) (by rfl)) (SSs.one (SS.ret (sBT (.dict cf.calm cf.hK) (by rfl) n_dict (by decide +kernel) (aCons (SE.lzip cf.hK cf.calm (by rfl) n_list (by rfl) n_zip (aCons (sAdd cf (SE.sli cf.hK (sVar (i := 4) (by rfl) (Or.inl (by rfl))) (SO.some (sVar (i := 5) (by rfl) (Or.inl (by rfl)))) (SO.none)) (SE.sli cf.hK (sVar (i := 4) (by rfl) (Or.inl (by rfl))) (SO.none) (SO.some (sVar (i := 5) (by rfl) (Or.inl (by rfl)))))) (aCons (sVar (i := 3) (by rfl) (Or.inl (by rfl))) (SA.nil))) (by rfl) (by rfl)) (SA.nil)))))))))))
theorem sc6 : FnScope ["_law_value_here", "_law_keys", "_law_found", "_law_turn", "_law_best", "_law_key", "_law_item", "_law_pair"] ["_law_value_here"] (defScope s6) := ⟨rfl, rfl, rfl, by decide +kernel, rfl, by decide +kernel, by decide +kernel⟩
theorem ok6 (X : K.In base) (Nm : base.Ns mainGlobals mg) (c : SaysX P fa fn fy ex K) {k : Nat} (ih : ∀ i, Ih P w K mg base k i) : Ih P w K mg base (k + 1) 6 := by
  intro hid fd hfd
  obtain ⟨fd0, F0⟩ := c.d.def_ 6 (d := d6) rfl
  obtain rfl := hfd.one F0.fdAt
  have n_dict := He.free_ok (x := "dict") X Nm (c.d.fact 20 rfl)
  have n_isinstance := He.free_ok (x := "isinstance") X Nm (c.d.fact 22 rfl)
  have n_len := He.free_ok (x := "len") X Nm (c.d.fact 23 rfl)
  have n_list := He.free_ok (x := "list") X Nm (c.d.fact 24 rfl)
  have n_min := He.free_ok (x := "min") X Nm (c.d.fact 25 rfl)
  have n_range := He.free_ok (x := "range") X Nm (c.d.fact 26 rfl)
  have n_tuple := He.free_ok (x := "tuple") X Nm (c.d.fact 30 rfl)
  have kto : ∀ hid, KtOk ((G0 K).at hid) kt := fun hid => ktW_ok (He.ba (He.ba c.more).2).1 hid
  obtain ⟨fe6, Fe6⟩ := c.d.def_ 6 (d := d6) rfl
  have f6 : ∀ hid, FnS ((G0 K).at hid) P w mg base (3 * k + 3) (He.ga K "_law_fixed") fe6 ["_law_value_here"] (Fs k 6) := fun hid => ih 6 hid fe6 Fe6.fdAt
  have g6 := He.glo_ok (x := "_law_fixed") X Nm (c.d.fact 6 rfl)
  have b6_1 : Binds K fe6 ["_law_value_here"] [] := Fe6.bindsN fun _ _ _ _ _ _ us hl => match us, hl with | [_], _ => rfl
  have F1 : FunD K "_law_fixed" "_law_fixed" (defArgs s6) (defBody s6) (defScope s6) [] [] (He.ga K "_law_fixed") fd := F0
  show FnS ((G0 K).at hid) P w mg base (3 * k + 5 + 1) (He.ga K "_law_fixed") fd ["_law_value_here"] (runF false 8 (b6 (Fs k)))
  refine FnS.of (G := (G0 K).at hid) (N := ["_law_value_here", "_law_keys", "_law_found", "_law_turn", "_law_best", "_law_key", "_law_item", "_law_pair"]) (ps := ["_law_value_here"]) (keep := false) (m := b6 (Fs k)) F1 sc6 fun cd A outer s H E hr hgd => ?_
  have cf : Cf ((G0 K).at hid) (bodyCx ((G0 K).at hid) P w mg base ["_law_value_here", "_law_keys", "_law_found", "_law_turn", "_law_best", "_law_key", "_law_item", "_law_pair"] "_law_fixed" (defScope s6) (He.ga K "_law_fixed") cd A outer s H E) := ⟨rfl, rfl, sc6.nd, hgd, hr.units⟩
  have hr0 := hr.mono (show 3 * k + 3 ≤ 3 * k + 5 by omega)
  have hr1 := hr.mono (show 3 * k + 4 ≤ 3 * k + 5 by omega)
  have hr2 := hr
  exact SSs.cons (SS.if_ (tVal cf (SE.isi1 (kto _) cf.hK (t := .b "dict") (by rfl) n_isinstance (sVar (i := 0) (by rfl) (Or.inl (by rfl))) (pe_bltn (u := .type "dict") (by rfl) n_dict (by decide +kernel) (by rfl)) (by rfl) (by rfl) (by rfl))) (SSs.cons (SS.setLc cf.calm cf.nd (own := [("_law_key", 5)]) (SI.of cf.hK (sVar (i := 0) (by rfl) (Or.inl (by rfl)))) (fun D1 _ _ _ _ _ => SGv.name (cf.blk (D := D1)).nd (i := 5) (by rfl) (Or.inl (by rfl)) (Or.inr (by rfl)) (by decide)) (fun D1 _ _ _ _ _ => STs.nil) (fun D1 _ _ _ _ _ => sVar (i := 5) (by rfl) (Or.inl (by rfl))) (blkOk_by (by kernel_rfl)) (by intro _; rfl) (i := 1) (by rfl) (by rfl) (by rfl)) (SSs.cons (SS.asg (SE.cel (SA.nil)) (SG.name cf.nd (i := 2) (by rfl) (Or.inr (by rfl)) (Or.inl (by rfl))) (by rfl) (by rfl) (by rfl)) (SSs.cons (SS.for_ (passes_of rfl) cf.calm cf.hK (SI.rng1 (by rfl) n_range (sBF (.len cf.hK) (by rfl) n_len (by decide +kernel) (aCons (sVar (i := 1) (by rfl) (Or.inl (by rfl))) (SA.nil))) (by rfl)) (SG.name cf.nd (i := 3) (by rfl) (Or.inl (by rfl)) (Or.inl (by rfl))) (SSs.cons (SS.asg (sBF (.min cf.hK cf.calm cf.un) (by rfl) n_min (by decide +kernel) (aCons (SE.lc cf.calm cf.nd (own := [("_law_key", 5)]) (SI.of cf.hK (sVar (i := 1) (by rfl) (Or.inl (by rfl)))) (fun D1 _ _ _ _ _ => SGv.name (cf.blk (D := D1)).nd (i := 5) (by rfl) (Or.inl (by rfl)) (Or.inr (by rfl)) (by decide)) (fun D1 _ _ _ _ _ => STs.one (tCmp (cf.blk (D := D1)) (oNinK (cf.blk (D := D1))) (sVar (i := 5) (by rfl) (Or.inl (by rfl))) (SE.lc (cf.blk (D := D1)).calm (cf.blk (D := D1)).nd (own := [("_law_pair", 7)]) (SI.of (cf.blk (D := D1)).hK (sVar (i := 2) (by rfl) (Or.inr (Or.inl (by rfl))))) (fun D2 _ _ _ _ _ => SGv.name ((cf.blk (D := D1)).blk (D := D2)).nd (i := 7) (by rfl) (Or.inl (by rfl)) (Or.inr (by rfl)) (by decide)) (fun D2 _ _ _ _ _ => STs.nil) (fun D2 _ _ _ _ _ => sIxK ((cf.blk (D := D1)).blk (D := D2)) (sVar (i := 7) (by rfl) (Or.inl (by rfl))) (sInt)) (blkOk_by (by kernel_rfl)) (by intro _; rfl)))) (fun D1 _ _ _ _ _ => sVar (i := 5) (by rfl) (Or.inl (by rfl))) (blkOk_by (by kernel_rfl)) (by intro _; rfl)) (SA.nil))) (SG.name cf.nd (i := 4) (by rfl) (Or.inl (by rfl)) (Or.inl (by rfl))) (by rfl) (by rfl) (by rfl)) (SSs.one (SS.expr (mAppend (sVar (i := 2) (by rfl) (Or.inr (Or.inl (by rfl)))) (aCons (SE.tup (aCons (sVar (i := 4) (by rfl) (Or.inl (by rfl))) (aCons (sCall cf (f6 _) hr0 (by rfl) g6 Fe6.kp b6_1 .nil (fun _ _ => .nil) (aCons (sIxK cf (sVar (i := 0) (by rfl) (Or.inl (by rfl))) (sVar (i := 4) (by rfl) (Or.inl (by rfl)))) (SA.nil))) (SA.nil)))) (SA.nil))) (by rfl)))) (by intro _; rfl)) (SSs.one (SS.ret (sBT (.tuple cf.hK) (by rfl) n_tuple (by decide +kernel) (aCons (sVar (i := 2) (by rfl) (Or.inr (Or.inl (by rfl)))) (SA.nil)))))))) (SSs.nil)) (SSs.cons (SS.if_ ((SW.or (tVal cf (SE.isi1 (kto _) cf.hK (t := .b "list") (by rfl) n_isinstance (sVar (i := 0) (by rfl) (Or.inl (by rfl))) (pe_bltn (u := .type "list") (by rfl) n_list (by decide +kernel) (by rfl)) (by rfl) (by rfl) (by rfl))) (SW.or1 (tVal cf (SE.isi1 (kto _) cf.hK (t := .b "tuple") (by rfl) n_isinstance (sVar (i := 0) (by rfl) (Or.inl (by rfl))) (pe_bltn (u := .type "tuple") (by rfl) n_tuple (by decide +kernel) (by rfl)) (by rfl) (by rfl) (by rfl))))).st) (SSs.one (SS.ret (sBT (.tuple cf.hK) (by rfl) n_tuple (by decide +kernel) (aCons (SE.lc cf.calm cf.nd (own := [("_law_item", 6)]) (SI.of cf.hK (sVar (i := 0) (by rfl) (Or.inl (by rfl)))) (fun D1 _ _ _ _ _ => SGv.name (cf.blk (D := D1)).nd (i := 6) (by rfl) (Or.inl (by rfl)) (Or.inr (by rfl)) (by decide)) (fun D1 _ _ _ _ _ => STs.nil) (fun D1 _ _ _ _ _ => sCall (cf.blk (D := D1)) (f6 _) hr0 (by rfl) g6 Fe6.kp b6_1 .nil (fun _ _ => .nil) (aCons (sVar (i := 6) (by rfl) (Or.inl (by rfl))) (SA.nil))) (blkOk_by (by kernel_rfl)) (by intro _; rfl)) (SA.nil))))) (SSs.nil)) (SSs.one (SS.ret (sVar (i := 0) (by rfl) (Or.inl (by rfl))))))
theorem sc7 : FnScope ["_law_pen_here", "_law_value_here", "_law_word", "_law_row", "_law_table", "_law_due", "_law_paper", "_law_denial", "_law_one", "_law_other", "_law_same"] ["_law_pen_here"] (defScope s7) := ⟨rfl, rfl, rfl, by decide +kernel, rfl, by decide +kernel, by decide +kernel⟩
theorem ok7 (X : K.In base) (Nm : base.Ns mainGlobals mg) (c : SaysX P fa fn fy ex K) {k : Nat} (ih : ∀ i, Ih P w K mg base k i) : Ih P w K mg base (k + 1) 7 := by
  intro hid fd hfd
  obtain ⟨fd0, F0⟩ := c.d.def_ 7 (d := d7) rfl
  obtain rfl := hfd.one F0.fdAt
  have n_bool := He.free_ok (x := "bool") X Nm (c.d.fact 19 rfl)
  have n_repr := He.free_ok (x := "repr") X Nm (c.d.fact 27 rfl)
  have kto : ∀ hid, KtOk ((G0 K).at hid) kt := fun hid => ktW_ok (He.ba (He.ba c.more).2).1 hid
  have kfo : ∀ hid, KfOk ((G0 K).at hid) kf := fun hid => kfW_ok (He.ba (He.ba c.more).2).1 (He.ba (He.ba (He.ba c.more).2).2).1 hid
  have g_Denial := He.glo_ok (x := "Denial") X Nm (c.d.fact 11 rfl)
  have g_Paper := He.glo_ok (x := "Paper") X Nm (c.d.fact 10 rfl)
  have M_Denial : mkrB K ("Denial", "Paper") = true := List.all_eq_true.mp (He.ba (He.ba (He.ba (He.ba (He.ba c.more).2).2).2).2).1 _ (List.mem_of_getElem? (l := mks) (i := 1) rfl)
  have M_Paper : mkrB K ("Paper", "Paper") = true := List.all_eq_true.mp (He.ba (He.ba (He.ba (He.ba (He.ba c.more).2).2).2).2).1 _ (List.mem_of_getElem? (l := mks) (i := 0) rfl)
  obtain ⟨fe1, Fe1⟩ := c.d.def_ 1 (d := d1) rfl
  have f1 : ∀ hid, FnS ((G0 K).at hid) P w mg base (3 * k + 3) (He.ga K "fixed") fe1 ["value"] (Fs k 1) := fun hid => ih 1 hid fe1 Fe1.fdAt
  have g1 := He.glo_ok (x := "fixed") X Nm (c.d.fact 1 rfl)
  obtain ⟨fe4, Fe4⟩ := c.d.def_ 4 (d := d4) rfl
  have f4 : ∀ hid, FnS ((G0 K).at hid) P w mg base (3 * k + 3) (He.ga K "_law_pick") fe4 ["_law_pen_here", "_law_some"] (Fs k 4) := fun hid => ih 4 hid fe4 Fe4.fdAt
  have g4 := He.glo_ok (x := "_law_pick") X Nm (c.d.fact 4 rfl)
  obtain ⟨fe5, Fe5⟩ := c.d.def_ 5 (d := d5) rfl
  have f5 : ∀ hid, FnS ((G0 K).at hid) P w mg base (3 * k + 3) (He.ga K "_law_value") fe5 ["_law_pen_here", "_law_deep"] (Fs k 5) := fun hid => ih 5 hid fe5 Fe5.fdAt
  have g5 := He.glo_ok (x := "_law_value") X Nm (c.d.fact 5 rfl)
  obtain ⟨fe6, Fe6⟩ := c.d.def_ 6 (d := d6) rfl
  have f6 : ∀ hid, FnS ((G0 K).at hid) P w mg base (3 * k + 3) (He.ga K "_law_fixed") fe6 ["_law_value_here"] (Fs k 6) := fun hid => ih 6 hid fe6 Fe6.fdAt
  have g6 := He.glo_ok (x := "_law_fixed") X Nm (c.d.fact 6 rfl)
  obtain ⟨fe10, Fe10⟩ := c.d.def_ 10 (d := d10) rfl
  have f10 : ∀ hid, FnA ((G0 K).at hid) P w mg base (3 * k + 3) (He.fAd K ("Paper", some "__init__")) okP (Fs k 10) := fun hid => ih 10 hid fe10 Fe10.fdAt
  obtain ⟨fe11, Fe11⟩ := c.d.def_ 11 (d := d11) rfl
  have f11 : ∀ hid, FnS ((G0 K).at hid) P w mg base (3 * k + 3) (He.fAd K ("Paper", some "__bool__")) fe11 ["self"] (Fs k 11) := fun hid => ih 11 hid fe11 Fe11.fdAt
  obtain ⟨fe12, Fe12⟩ := c.d.def_ 12 (d := d12) rfl
  have f12 : ∀ hid, FnS ((G0 K).at hid) P w mg base (3 * k + 3) (He.fAd K ("Paper", some "__eq__")) fe12 ["self", "other"] (Fs k 12) := fun hid => ih 12 hid fe12 Fe12.fdAt
  obtain ⟨fe13, Fe13⟩ := c.d.def_ 13 (d := d13) rfl
  have f13 : ∀ hid, FnS ((G0 K).at hid) P w mg base (3 * k + 3) (He.fAd K ("Denial", some "__bool__")) fe13 ["self"] (Fs k 13) := fun hid => ih 13 hid fe13 Fe13.fdAt
  have bn11 : Binds K fe11 ["self"] [] := Fe11.bindsN fun _ _ _ _ _ _ us hl => match us, hl with | [_], _ => rfl
  have bn12 : Binds K fe12 ["self", "other"] [] := Fe12.bindsN fun _ _ _ _ _ _ us hl => match us, hl with | [_, _], _ => rfl
  have bn13 : Binds K fe13 ["self"] [] := Fe13.bindsN fun _ _ _ _ _ _ us hl => match us, hl with | [_], _ => rfl
  have b1_1 : Binds K fe1 ["value"] [] := Fe1.bindsN fun _ _ _ _ _ _ us hl => match us, hl with | [_], _ => rfl
  have b4_2 : Binds K fe4 ["_law_pen_here", "_law_some"] [] := Fe4.bindsN fun _ _ _ _ _ _ us hl => match us, hl with | [_, _], _ => rfl
  have b5_2 : Binds K fe5 ["_law_pen_here", "_law_deep"] [] := Fe5.bindsN fun _ _ _ _ _ _ us hl => match us, hl with | [_, _], _ => rfl
  have b6_1 : Binds K fe6 ["_law_value_here"] [] := Fe6.bindsN fun _ _ _ _ _ _ us hl => match us, hl with | [_], _ => rfl
  have teq : ∀ (hid : List Addr) (X : Cx), X.prog = P → X.w = w → X.mg = mg → X.base = base → EqOk ((G0 K).at hid) X (3 * k + 3) (tbE (Fs k)) := by
    intro hid X h1 h2 h3 h4
    exact eqOk_of (He.ba (He.ba (He.ba (He.ba (He.ba (He.ba (He.ba c.more).2).2).2).2).2).2).1 (ents_cons (eqEntry (He.ba (He.ba (He.ba (He.ba (He.ba (He.ba c.more).2).2).2).2).2).1 (by rw [h1, h2, h3, h4]; exact (f12 hid).pg bn12 .nil (fun _ _ => .nil))) (ents_nil))
  have tbo : ∀ (hid : List Addr) (X : Cx), X.prog = P → X.w = w → X.mg = mg → X.base = base → BoOk ((G0 K).at hid) X (3 * k + 3) (tbB (Fs k)) := by
    intro hid X h1 h2 h3 h4
    exact boOk_of (ents_cons (boEntry (He.ba (He.ba (He.ba (He.ba (He.ba (He.ba (He.ba (He.ba (He.ba c.more).2).2).2).2).2).2).2).1).1 (by rw [h1, h2, h3, h4]; exact (f11 hid).pg bn11 .nil (fun _ _ => .nil))) (ents_cons (boEntry (He.ba (He.ba (He.ba (He.ba (He.ba (He.ba (He.ba (He.ba (He.ba c.more).2).2).2).2).2).2).2).1).2 (by rw [h1, h2, h3, h4]; exact (f13 hid).pg bn13 .nil (fun _ _ => .nil))) (ents_nil)))
  have F1 : FunD K "_law_kept_right" "_law_kept_right" (defArgs s7) (defBody s7) (defScope s7) [] [] (He.ga K "_law_kept_right") fd := F0
  show FnS ((G0 K).at hid) P w mg base (3 * k + 5 + 1) (He.ga K "_law_kept_right") fd ["_law_pen_here"] (runF false 11 (b7 (Fs k)))
  refine FnS.of (G := (G0 K).at hid) (N := ["_law_pen_here", "_law_value_here", "_law_word", "_law_row", "_law_table", "_law_due", "_law_paper", "_law_denial", "_law_one", "_law_other", "_law_same"]) (ps := ["_law_pen_here"]) (keep := false) (m := b7 (Fs k)) F1 sc7 fun cd A outer s H E hr hgd => ?_
  have cf : Cf ((G0 K).at hid) (bodyCx ((G0 K).at hid) P w mg base ["_law_pen_here", "_law_value_here", "_law_word", "_law_row", "_law_table", "_law_due", "_law_paper", "_law_denial", "_law_one", "_law_other", "_law_same"] "_law_kept_right" (defScope s7) (He.ga K "_law_kept_right") cd A outer s H E) := ⟨rfl, rfl, sc7.nd, hgd, hr.units⟩
  have hr0 := hr.mono (show 3 * k + 3 ≤ 3 * k + 5 by omega)
  have hr1 := hr.mono (show 3 * k + 4 ≤ 3 * k + 5 by omega)
  have hr2 := hr
  have smx : (K.lookup sysModules).isSome = true := (He.ba (He.ba (He.ba c.sup).2).2).2
  have un := Nat.lt_of_le_of_lt (Nat.add_le_add_left (by decide : 16 + 1 ≤ 64) _) hr.units
  exact SSs.cons (SS.par2 cf.calm cf.nd (i := 1) (j := 2) (by rfl) (by rfl) (by decide) (by rfl) (by rfl) (aCons (sCall cf (f5 _) hr0 (by rfl) g5 Fe5.kp b5_2 .nil (fun _ _ => .nil) (aCons (sVar (i := 0) (by rfl) (Or.inl (by rfl))) (aCons (sInt) (SA.nil)))) (aCons (sCall cf (f4 _) hr0 (by rfl) g4 Fe4.kp b4_2 .nil (fun _ _ => .nil) (aCons (sVar (i := 0) (by rfl) (Or.inl (by rfl))) (aCons (SE.lst (aCons (sStr) (aCons (sStr) (aCons (sStr) (aCons (sStr) (SA.nil)))))) (SA.nil)))) (SA.nil))) (by rfl) (by rfl)) (SSs.cons (SS.par2 cf.calm cf.nd (i := 3) (j := 4) (by rfl) (by rfl) (by decide) (by rfl) (by rfl) (aCons (SE.cel (aCons (sVar (i := 1) (by rfl) (Or.inl (by rfl))) (aCons (SE.lst (aCons (sInt) (SA.nil))) (SA.nil)))) (aCons (SE.dispC (SPs.cons (fun q1 => sStr) (fun q1 => SE.lst (aCons (sVar (i := 1) (by rfl) (Or.inl (by rfl))) (SA.nil))) (SPs.cons (fun q1 => sStr) (fun q1 => sInt) (SPs.nil))) (by simp) (by simp)) (SA.nil))) (by rfl) (by rfl)) (SSs.cons (SS.asg (SE.tup (aCons (sCall cf (f6 _) hr0 (by rfl) g6 Fe6.kp b6_1 .nil (fun _ _ => .nil) (aCons (sVar (i := 1) (by rfl) (Or.inl (by rfl))) (SA.nil))) (aCons (SE.tup (aCons (sCall cf (f6 _) hr0 (by rfl) g6 Fe6.kp b6_1 .nil (fun _ _ => .nil) (aCons (sVar (i := 1) (by rfl) (Or.inl (by rfl))) (SA.nil))) (aCons (SE.tup (aCons (sInt) (SA.nil))) (SA.nil)))) (aCons (SE.tup (aCons (SE.tup (aCons (sStr) (aCons (sInt) (SA.nil)))) (aCons (SE.tup (aCons (sStr) (aCons (SE.tup (aCons (sCall cf (f6 _) hr0 (by rfl) g6 Fe6.kp b6_1 .nil (fun _ _ => .nil) (aCons (sVar (i := 1) (by rfl) (Or.inl (by rfl))) (SA.nil))) (SA.nil))) (SA.nil)))) (SA.nil)))) (SA.nil))))) (SG.name cf.nd (i := 5) (by rfl) (Or.inl (by rfl)) (Or.inl (by rfl))) (by rfl) (by rfl) (by rfl)) (SSs.cons (SS.if_ ((SW.or (tCmp cf (oNe cf) (sBF (.reprV (n := 16) cf.hK cf.gd un smx) (by rfl) n_repr (by decide +kernel) (aCons (sCall cf (f1 _) hr0 (by rfl) g1 Fe1.kp b1_1 .nil (fun _ _ => .nil) (aCons (sVar (i := 1) (by rfl) (Or.inl (by rfl))) (SA.nil))) (SA.nil))) (sBF (.reprV (n := 16) cf.hK cf.gd un smx) (by rfl) n_repr (by decide +kernel) (aCons (sIxK cf (sVar (i := 5) (by rfl) (Or.inl (by rfl))) (sInt)) (SA.nil)))) (SW.or1 (tCmp cf (oNe cf) (sBF (.reprV (n := 16) cf.hK cf.gd un smx) (by rfl) n_repr (by decide +kernel) (aCons (sCall cf (f1 _) hr0 (by rfl) g1 Fe1.kp b1_1 .nil (fun _ _ => .nil) (aCons (sCall cf (f1 _) hr0 (by rfl) g1 Fe1.kp b1_1 .nil (fun _ _ => .nil) (aCons (sVar (i := 1) (by rfl) (Or.inl (by rfl))) (SA.nil))) (SA.nil))) (SA.nil))) (sBF (.reprV (n := 16) cf.hK cf.gd un smx) (by rfl) n_repr (by decide +kernel) (aCons (sIxK cf (sVar (i := 5) (by rfl) (Or.inl (by rfl))) (sInt)) (SA.nil)))))).st) (SSs.one (SS.ret (sBl))) (SSs.nil)) (SSs.cons (SS.par2 cf.calm cf.nd (i := 6) (j := 7) (by rfl) (by rfl) (by decide) (by rfl) (by rfl) (aCons (SE.new (c := 0) (f10 _) (by rfl) (mkrB_ok M_Paper) cf.hK hr1 cf.gd (al := fun _ => true) (dvs := []) (dv := []) (dd := []) (by rfl) g_Paper (fun s a us _ => by rw [List.append_nil]; rfl) .nil (fun _ _ => .nil) (aCons (sVar (i := 2) (by rfl) (Or.inl (by rfl))) (aCons (sVar (i := 1) (by rfl) (Or.inl (by rfl))) (aCons (sVar (i := 3) (by rfl) (Or.inl (by rfl))) (aCons (sVar (i := 4) (by rfl) (Or.inl (by rfl))) (SA.nil))))) (by decide) (star_cons (by rfl)) (star_none (by rfl))) (aCons (SE.new (c := 1) (f10 _) (by rfl) (mkrB_ok M_Denial) cf.hK hr1 cf.gd (al := fun _ => true) (dvs := []) (dv := []) (dd := []) (by rfl) g_Denial (fun s a us _ => by rw [List.append_nil]; rfl) .nil (fun _ _ => .nil) (aCons (sVar (i := 2) (by rfl) (Or.inl (by rfl))) (aCons (sVar (i := 1) (by rfl) (Or.inl (by rfl))) (aCons (sVar (i := 3) (by rfl) (Or.inl (by rfl))) (aCons (sVar (i := 4) (by rfl) (Or.inl (by rfl))) (SA.nil))))) (by decide) (star_cons (by rfl)) (star_none (by rfl))) (SA.nil))) (by rfl) (by rfl)) (SSs.cons (SS.expr (mAppend (sVar (i := 3) (by rfl) (Or.inl (by rfl))) (aCons (sInt) (SA.nil))) (by rfl)) (SSs.cons (SS.asg (sInt) (SG.subK cf.un1 (sVar (i := 4) (by rfl) (Or.inl (by rfl))) (sStr) (by intro _; rfl)) (by rfl) (by rfl) (by rfl)) (SSs.cons (SS.for_ (passes_of rfl) cf.calm cf.hK (SI.of cf.hK (SE.tup (aCons (sVar (i := 6) (by rfl) (Or.inl (by rfl))) (aCons (sVar (i := 7) (by rfl) (Or.inl (by rfl))) (SA.nil))))) (SG.name cf.nd (i := 8) (by rfl) (Or.inl (by rfl)) (Or.inl (by rfl))) (SSs.one (SS.if_ ((SW.or (tCmp cf (oNe cf) (sBF (.reprV (n := 16) cf.hK cf.gd un smx) (by rfl) n_repr (by decide +kernel) (aCons (SE.fld (kfo _) cf.hK (sVar (i := 8) (by rfl) (Or.inl (by rfl))) (by rfl)) (SA.nil))) (sBF (.reprV (n := 16) cf.hK cf.gd un smx) (by rfl) n_repr (by decide +kernel) (aCons (sVar (i := 5) (by rfl) (Or.inl (by rfl))) (SA.nil)))) (SW.or1 (tCmp cf (oNe cf) (SE.fld (kfo _) cf.hK (sVar (i := 8) (by rfl) (Or.inl (by rfl))) (by rfl)) (sVar (i := 2) (by rfl) (Or.inl (by rfl)))))).st) (SSs.one (SS.ret (sBl))) (SSs.nil))) (by intro _; rfl)) (SSs.cons (SS.if_ ((SW.or (ST.not (ST.cmp (by rfl) (OpS.eqI (teq _ _ rfl rfl rfl rfl) (kto _) cf.hK hr1 cf.gd (oEq cf)) (.pure cf.hK) (sVar (i := 6) (by rfl) (Or.inl (by rfl))) (sVar (i := 7) (by rfl) (Or.inl (by rfl))))) (SW.or (ST.not (ST.cmp (by rfl) (OpS.eqI (teq _ _ rfl rfl rfl rfl) (kto _) cf.hK hr1 cf.gd (oEq cf)) (.pure cf.hK) (sVar (i := 7) (by rfl) (Or.inl (by rfl))) (SE.new (c := 0) (f10 _) (by rfl) (mkrB_ok M_Paper) cf.hK hr1 cf.gd (al := fun _ => true) (dvs := []) (dv := []) (dd := []) (by rfl) g_Paper (fun s a us _ => by rw [List.append_nil]; rfl) .nil (fun _ _ => .nil) (aCons (sVar (i := 2) (by rfl) (Or.inl (by rfl))) (aCons (sIxK cf (sVar (i := 5) (by rfl) (Or.inl (by rfl))) (sInt)) (aCons (sIxK cf (sVar (i := 5) (by rfl) (Or.inl (by rfl))) (sInt)) (aCons (sIxK cf (sVar (i := 5) (by rfl) (Or.inl (by rfl))) (sInt)) (SA.nil))))) (by decide) (star_cons (by rfl)) (star_none (by rfl))))) (SW.or (ST.cmp (by rfl) (OpS.eqI (teq _ _ rfl rfl rfl rfl) (kto _) cf.hK hr1 cf.gd (oEq cf)) (.pure cf.hK) (sVar (i := 6) (by rfl) (Or.inl (by rfl))) (sVar (i := 5) (by rfl) (Or.inl (by rfl)))) (SW.or1 (ST.cmp (by rfl) (OpS.eqI (teq _ _ rfl rfl rfl rfl) (kto _) cf.hK hr1 cf.gd (oEq cf)) (.pure cf.hK) (sVar (i := 7) (by rfl) (Or.inl (by rfl))) (sVar (i := 2) (by rfl) (Or.inl (by rfl)))))))).st) (SSs.one (SS.ret (sBl))) (SSs.nil)) (SSs.cons (SS.asg (sCall cf (f5 _) hr0 (by rfl) g5 Fe5.kp b5_2 .nil (fun _ _ => .nil) (aCons (sVar (i := 0) (by rfl) (Or.inl (by rfl))) (aCons (sInt) (SA.nil)))) (SG.name cf.nd (i := 9) (by rfl) (Or.inl (by rfl)) (Or.inl (by rfl))) (by rfl) (by rfl) (by rfl)) (SSs.cons (SS.asg (sCmp (oEq cf) (sCall cf (f6 _) hr0 (by rfl) g6 Fe6.kp b6_1 .nil (fun _ _ => .nil) (aCons (sVar (i := 9) (by rfl) (Or.inl (by rfl))) (SA.nil))) (sIxK cf (sVar (i := 5) (by rfl) (Or.inl (by rfl))) (sInt))) (SG.name cf.nd (i := 10) (by rfl) (Or.inl (by rfl)) (Or.inl (by rfl))) (by rfl) (by rfl) (by rfl)) (SSs.cons (SS.if_ ((SW.or (tCmp cf (oNe cf) (SE.cmp (by rfl) (OpS.eqI (teq _ _ rfl rfl rfl rfl) (kto _) cf.hK hr1 cf.gd (oEq cf)) (SE.new (c := 0) (f10 _) (by rfl) (mkrB_ok M_Paper) cf.hK hr1 cf.gd (al := fun _ => true) (dvs := []) (dv := []) (dd := []) (by rfl) g_Paper (fun s a us _ => by rw [List.append_nil]; rfl) .nil (fun _ _ => .nil) (aCons (sVar (i := 2) (by rfl) (Or.inl (by rfl))) (aCons (sVar (i := 9) (by rfl) (Or.inl (by rfl))) (aCons (SE.sli cf.hK (sVar (i := 3) (by rfl) (Or.inl (by rfl))) (SO.none) (SO.some (sInt))) (aCons (SE.disp (SPs.cons (fun q2 => sStr) (fun q2 => sInt) (SPs.cons (fun q2 => sStr) (fun q2 => SE.lst (aCons (sVar (i := 1) (by rfl) (Or.inl (by rfl))) (SA.nil))) (SPs.nil))) (by simp) (by simp)) (SA.nil))))) (by decide) (star_cons (by rfl)) (star_none (by rfl))) (sVar (i := 6) (by rfl) (Or.inl (by rfl)))) (sVar (i := 10) (by rfl) (Or.inl (by rfl)))) (SW.or1 (ST.cmp (by rfl) (OpS.eqI (teq _ _ rfl rfl rfl rfl) (kto _) cf.hK hr1 cf.gd (oEq cf)) (.pure cf.hK) (SE.new (c := 0) (f10 _) (by rfl) (mkrB_ok M_Paper) cf.hK hr1 cf.gd (al := fun _ => true) (dvs := []) (dv := []) (dd := []) (by rfl) g_Paper (fun s a us _ => by rw [List.append_nil]; rfl) .nil (fun _ _ => .nil) (aCons (sVar (i := 2) (by rfl) (Or.inl (by rfl))) (aCons (sVar (i := 1) (by rfl) (Or.inl (by rfl))) (aCons (sVar (i := 3) (by rfl) (Or.inl (by rfl))) (aCons (sVar (i := 4) (by rfl) (Or.inl (by rfl))) (SA.nil))))) (by decide) (star_cons (by rfl)) (star_none (by rfl))) (sVar (i := 6) (by rfl) (Or.inl (by rfl)))))).st) (SSs.one (SS.ret (sBl))) (SSs.nil)) (SSs.one (SS.ret (sAnd cf (SE.cmp (by rfl) (OpS.neI (teq _ _ rfl rfl rfl rfl) (kto _) cf.hK hr1 cf.gd (oNe cf)) (sVar (i := 6) (by rfl) (Or.inl (by rfl))) (SE.new (c := 0) (f10 _) (by rfl) (mkrB_ok M_Paper) cf.hK hr1 cf.gd (al := fun _ => true) (dvs := []) (dv := []) (dd := []) (by rfl) g_Paper (fun s a us _ => by rw [List.append_nil]; rfl) .nil (fun _ _ => .nil) (aCons (sAdd cf (sVar (i := 2) (by rfl) (Or.inl (by rfl))) (sStr)) (aCons (sVar (i := 1) (by rfl) (Or.inl (by rfl))) (aCons (sIxK cf (sVar (i := 5) (by rfl) (Or.inl (by rfl))) (sInt)) (aCons (SE.disp (SPs.cons (fun q3 => sStr) (fun q3 => sInt) (SPs.cons (fun q3 => sStr) (fun q3 => SE.lst (aCons (sVar (i := 1) (by rfl) (Or.inl (by rfl))) (SA.nil))) (SPs.nil))) (by simp) (by simp)) (SA.nil))))) (by decide) (star_cons (by rfl)) (star_none (by rfl)))) (sAnd cf (sBT (.boolI (tbo _ _ rfl rfl rfl rfl) cf.hK hr2 cf.gd) (by rfl) n_bool (by decide +kernel) (aCons (sVar (i := 6) (by rfl) (Or.inl (by rfl))) (SA.nil))) (SE.one (SE.not (TruS.truI (tbo _ _ rfl rfl rfl rfl) cf.hK hr0 cf.gd) (sVar (i := 7) (by rfl) (Or.inl (by rfl))))))))))))))))))))
theorem sc8 : FnScope ["_law_pen_here", "_law_worlds", "_law_known", "_law_doubted", "_law_truth", "_law_turn"] ["_law_pen_here"] (defScope s8) := ⟨rfl, rfl, rfl, by decide +kernel, rfl, by decide +kernel, by decide +kernel⟩
theorem ok8 (X : K.In base) (Nm : base.Ns mainGlobals mg) (c : SaysX P fa fn fy ex K) {k : Nat} (ih : ∀ i, Ih P w K mg base k i) : Ih P w K mg base (k + 1) 8 := by
  intro hid fd hfd
  obtain ⟨fd0, F0⟩ := c.d.def_ 8 (d := d8) rfl
  obtain rfl := hfd.one F0.fdAt
  have n_bool := He.free_ok (x := "bool") X Nm (c.d.fact 19 rfl)
  have n_isinstance := He.free_ok (x := "isinstance") X Nm (c.d.fact 22 rfl)
  have n_range := He.free_ok (x := "range") X Nm (c.d.fact 26 rfl)
  have n_tuple := He.free_ok (x := "tuple") X Nm (c.d.fact 30 rfl)
  have kto : ∀ hid, KtOk ((G0 K).at hid) kt := fun hid => ktW_ok (He.ba (He.ba c.more).2).1 hid
  have kfo : ∀ hid, KfOk ((G0 K).at hid) kf := fun hid => kfW_ok (He.ba (He.ba c.more).2).1 (He.ba (He.ba (He.ba c.more).2).2).1 hid
  have g_Chain := He.glo_ok (x := "Chain") X Nm (c.d.fact 16 rfl)
  have g_Denial := He.glo_ok (x := "Denial") X Nm (c.d.fact 11 rfl)
  have g_Doubted := He.glo_ok (x := "Doubted") X Nm (c.d.fact 14 rfl)
  have g_Known := He.glo_ok (x := "Known") X Nm (c.d.fact 13 rfl)
  have g_Paper := He.glo_ok (x := "Paper") X Nm (c.d.fact 10 rfl)
  have g_Shut := He.glo_ok (x := "Shut") X Nm (c.d.fact 15 rfl)
  have g_Truth := He.glo_ok (x := "Truth") X Nm (c.d.fact 12 rfl)
  have M_Chain : mkrB K ("Chain", "Chain") = true := List.all_eq_true.mp (He.ba (He.ba (He.ba (He.ba (He.ba c.more).2).2).2).2).1 _ (List.mem_of_getElem? (l := mks) (i := 6) rfl)
  have M_Doubted : mkrB K ("Doubted", "Doubted") = true := List.all_eq_true.mp (He.ba (He.ba (He.ba (He.ba (He.ba c.more).2).2).2).2).1 _ (List.mem_of_getElem? (l := mks) (i := 4) rfl)
  have M_Known : mkrB K ("Known", "Known") = true := List.all_eq_true.mp (He.ba (He.ba (He.ba (He.ba (He.ba c.more).2).2).2).2).1 _ (List.mem_of_getElem? (l := mks) (i := 3) rfl)
  have M_Paper : mkrB K ("Paper", "Paper") = true := List.all_eq_true.mp (He.ba (He.ba (He.ba (He.ba (He.ba c.more).2).2).2).2).1 _ (List.mem_of_getElem? (l := mks) (i := 0) rfl)
  have M_Shut : mkrB K ("Shut", "Shut") = true := List.all_eq_true.mp (He.ba (He.ba (He.ba (He.ba (He.ba c.more).2).2).2).2).1 _ (List.mem_of_getElem? (l := mks) (i := 5) rfl)
  have M_Truth : mkrB K ("Truth", "Truth") = true := List.all_eq_true.mp (He.ba (He.ba (He.ba (He.ba (He.ba c.more).2).2).2).2).1 _ (List.mem_of_getElem? (l := mks) (i := 2) rfl)
  obtain ⟨fe3, Fe3⟩ := c.d.def_ 3 (d := d3) rfl
  have f3 : ∀ hid, FnS ((G0 K).at hid) P w mg base (3 * k + 3) (He.ga K "_law_draw") fe3 ["_law_pen_here", "_law_many"] (Fs k 3) := fun hid => ih 3 hid fe3 Fe3.fdAt
  have g3 := He.glo_ok (x := "_law_draw") X Nm (c.d.fact 3 rfl)
  obtain ⟨fe4, Fe4⟩ := c.d.def_ 4 (d := d4) rfl
  have f4 : ∀ hid, FnS ((G0 K).at hid) P w mg base (3 * k + 3) (He.ga K "_law_pick") fe4 ["_law_pen_here", "_law_some"] (Fs k 4) := fun hid => ih 4 hid fe4 Fe4.fdAt
  have g4 := He.glo_ok (x := "_law_pick") X Nm (c.d.fact 4 rfl)
  obtain ⟨fe10, Fe10⟩ := c.d.def_ 10 (d := d10) rfl
  have f10 : ∀ hid, FnA ((G0 K).at hid) P w mg base (3 * k + 3) (He.fAd K ("Paper", some "__init__")) okP (Fs k 10) := fun hid => ih 10 hid fe10 Fe10.fdAt
  obtain ⟨fe11, Fe11⟩ := c.d.def_ 11 (d := d11) rfl
  have f11 : ∀ hid, FnS ((G0 K).at hid) P w mg base (3 * k + 3) (He.fAd K ("Paper", some "__bool__")) fe11 ["self"] (Fs k 11) := fun hid => ih 11 hid fe11 Fe11.fdAt
  obtain ⟨fe12, Fe12⟩ := c.d.def_ 12 (d := d12) rfl
  have f12 : ∀ hid, FnS ((G0 K).at hid) P w mg base (3 * k + 3) (He.fAd K ("Paper", some "__eq__")) fe12 ["self", "other"] (Fs k 12) := fun hid => ih 12 hid fe12 Fe12.fdAt
  obtain ⟨fe13, Fe13⟩ := c.d.def_ 13 (d := d13) rfl
  have f13 : ∀ hid, FnS ((G0 K).at hid) P w mg base (3 * k + 3) (He.fAd K ("Denial", some "__bool__")) fe13 ["self"] (Fs k 13) := fun hid => ih 13 hid fe13 Fe13.fdAt
  obtain ⟨cl14, cc14, fe14, Fe14, _⟩ := c.supF 0 (d := u14) rfl (by rfl) (by rfl) (by rfl)
  have f14 : ∀ hid, FnS ((G0 K).at hid) P w mg base (3 * k + 3) (He.fAd K ("Truth", some "__init__")) fe14 ["self", "sets", "ranks"] (Fs k 14) := fun hid => ih 14 hid fe14 Fe14.fdAt
  obtain ⟨cl15, cc15, fe15, Fe15, _⟩ := c.supF 1 (d := u15) rfl (by rfl) (by rfl) (by rfl)
  have f15 : ∀ hid, FnS ((G0 K).at hid) P w mg base (3 * k + 3) (He.fAd K ("Known", some "__init__")) fe15 ["self", "worlds"] (Fs k 15) := fun hid => ih 15 hid fe15 Fe15.fdAt
  obtain ⟨cl16, cc16, fe16, Fe16, _⟩ := c.supF 2 (d := u16) rfl (by rfl) (by rfl) (by rfl)
  have f16 : ∀ hid, FnS ((G0 K).at hid) P w mg base (3 * k + 3) (He.fAd K ("Doubted", some "__init__")) fe16 ["self", "world"] (Fs k 16) := fun hid => ih 16 hid fe16 Fe16.fdAt
  obtain ⟨cl17, cc17, fe17, Fe17, _⟩ := c.supF 3 (d := u17) rfl (by rfl) (by rfl) (by rfl)
  have f17 : ∀ hid, FnS ((G0 K).at hid) P w mg base (3 * k + 3) (He.fAd K ("Shut", some "__init__")) fe17 ["self", "worlds"] (Fs k 17) := fun hid => ih 17 hid fe17 Fe17.fdAt
  obtain ⟨cl18, cc18, fe18, Fe18, _⟩ := c.supF 4 (d := u18) rfl (by rfl) (by rfl) (by rfl)
  have f18 : ∀ hid, FnS ((G0 K).at hid) P w mg base (3 * k + 3) (He.fAd K ("Chain", some "__init__")) fe18 ["self", "hops"] (Fs k 18) := fun hid => ih 18 hid fe18 Fe18.fdAt
  have bn11 : Binds K fe11 ["self"] [] := Fe11.bindsN fun _ _ _ _ _ _ us hl => match us, hl with | [_], _ => rfl
  have bn12 : Binds K fe12 ["self", "other"] [] := Fe12.bindsN fun _ _ _ _ _ _ us hl => match us, hl with | [_, _], _ => rfl
  have bn13 : Binds K fe13 ["self"] [] := Fe13.bindsN fun _ _ _ _ _ _ us hl => match us, hl with | [_], _ => rfl
  have bn15 : Binds K fe15 ["self", "worlds"] [] := by
    obtain ⟨oc, od, doc, pm, an, ct, osl, rfl, _⟩ := Fe15.ex
    exact .all fun us hl => match us, hl with | [_, _], _ => rfl
  have bn17 : Binds K fe17 ["self", "worlds"] [] := by
    obtain ⟨oc, od, doc, pm, an, ct, osl, rfl, _⟩ := Fe17.ex
    exact .all fun us hl => match us, hl with | [_, _], _ => rfl
  have bn18 : Binds K fe18 ["self", "hops"] [] := by
    obtain ⟨oc, od, doc, pm, an, ct, osl, rfl, _⟩ := Fe18.ex
    exact .all fun us hl => match us, hl with | [_, _], _ => rfl
  have KO_14_ranks_sets : ∀ (s : Shared) (a : Value) (us : List Value), us.length = ([1, 0] : List Nat).length → okB fe14 ["self", "sets", "ranks"] s ⟨[a], (["ranks", "sets"] : List PySem.Str).zip us⟩ (a :: (([1, 0] : List Nat).map (fun i => us.getD i .none) ++ [])) := by
    obtain ⟨oc, od, doc, pm, an, ct, osl, rfl, _⟩ := Fe14.ex
    exact fun s a us hl => match us, hl with | [_, _], _ => ⟨.of_eq rfl, rfl⟩
  have KO_16_world : ∀ (s : Shared) (a : Value) (us : List Value), us.length = ([0] : List Nat).length → okB fe16 ["self", "world"] s ⟨[a], (["world"] : List PySem.Str).zip us⟩ (a :: (([0] : List Nat).map (fun i => us.getD i .none) ++ [])) := by
    obtain ⟨oc, od, doc, pm, an, ct, osl, rfl, _⟩ := Fe16.ex
    exact fun s a us hl => match us, hl with | [_], _ => ⟨.of_eq rfl, rfl⟩
  have KO_17_worlds : ∀ (s : Shared) (a : Value) (us : List Value), us.length = ([0] : List Nat).length → okB fe17 ["self", "worlds"] s ⟨[a], (["worlds"] : List PySem.Str).zip us⟩ (a :: (([0] : List Nat).map (fun i => us.getD i .none) ++ [])) := by
    obtain ⟨oc, od, doc, pm, an, ct, osl, rfl, _⟩ := Fe17.ex
    exact fun s a us hl => match us, hl with | [_], _ => ⟨.of_eq rfl, rfl⟩
  have KO_18_hops : ∀ (s : Shared) (a : Value) (us : List Value), us.length = ([0] : List Nat).length → okB fe18 ["self", "hops"] s ⟨[a], (["hops"] : List PySem.Str).zip us⟩ (a :: (([0] : List Nat).map (fun i => us.getD i .none) ++ [])) := by
    obtain ⟨oc, od, doc, pm, an, ct, osl, rfl, _⟩ := Fe18.ex
    exact fun s a us hl => match us, hl with | [_], _ => ⟨.of_eq rfl, rfl⟩
  have b3_2 : Binds K fe3 ["_law_pen_here", "_law_many"] [] := Fe3.bindsN fun _ _ _ _ _ _ us hl => match us, hl with | [_, _], _ => rfl
  have b4_2 : Binds K fe4 ["_law_pen_here", "_law_some"] [] := Fe4.bindsN fun _ _ _ _ _ _ us hl => match us, hl with | [_, _], _ => rfl
  have teq : ∀ (hid : List Addr) (X : Cx), X.prog = P → X.w = w → X.mg = mg → X.base = base → EqOk ((G0 K).at hid) X (3 * k + 3) (tbE (Fs k)) := by
    intro hid X h1 h2 h3 h4
    exact eqOk_of (He.ba (He.ba (He.ba (He.ba (He.ba (He.ba (He.ba c.more).2).2).2).2).2).2).1 (ents_cons (eqEntry (He.ba (He.ba (He.ba (He.ba (He.ba (He.ba c.more).2).2).2).2).2).1 (by rw [h1, h2, h3, h4]; exact (f12 hid).pg bn12 .nil (fun _ _ => .nil))) (ents_nil))
  have tbo : ∀ (hid : List Addr) (X : Cx), X.prog = P → X.w = w → X.mg = mg → X.base = base → BoOk ((G0 K).at hid) X (3 * k + 3) (tbB (Fs k)) := by
    intro hid X h1 h2 h3 h4
    exact boOk_of (ents_cons (boEntry (He.ba (He.ba (He.ba (He.ba (He.ba (He.ba (He.ba (He.ba (He.ba c.more).2).2).2).2).2).2).2).1).1 (by rw [h1, h2, h3, h4]; exact (f11 hid).pg bn11 .nil (fun _ _ => .nil))) (ents_cons (boEntry (He.ba (He.ba (He.ba (He.ba (He.ba (He.ba (He.ba (He.ba (He.ba c.more).2).2).2).2).2).2).2).1).2 (by rw [h1, h2, h3, h4]; exact (f13 hid).pg bn13 .nil (fun _ _ => .nil))) (ents_nil)))
  have F1 : FunD K "_law_classes_right" "_law_classes_right" (defArgs s8) (defBody s8) (defScope s8) [] [] (He.ga K "_law_classes_right") fd := F0
  show FnS ((G0 K).at hid) P w mg base (3 * k + 5 + 1) (He.ga K "_law_classes_right") fd ["_law_pen_here"] (runF false 6 (b8 (Fs k)))
  refine FnS.of (G := (G0 K).at hid) (N := ["_law_pen_here", "_law_worlds", "_law_known", "_law_doubted", "_law_truth", "_law_turn"]) (ps := ["_law_pen_here"]) (keep := false) (m := b8 (Fs k)) F1 sc8 fun cd A outer s H E hr hgd => ?_
  have cf : Cf ((G0 K).at hid) (bodyCx ((G0 K).at hid) P w mg base ["_law_pen_here", "_law_worlds", "_law_known", "_law_doubted", "_law_truth", "_law_turn"] "_law_classes_right" (defScope s8) (He.ga K "_law_classes_right") cd A outer s H E) := ⟨rfl, rfl, sc8.nd, hgd, hr.units⟩
  have hr0 := hr.mono (show 3 * k + 3 ≤ 3 * k + 5 by omega)
  have hr1 := hr.mono (show 3 * k + 4 ≤ 3 * k + 5 by omega)
  have hr2 := hr
  exact SSs.cons (SS.setLc cf.calm cf.nd (own := [("_law_turn", 5)]) (SI.rng1 (by rfl) n_range (sCall cf (f3 _) hr0 (by rfl) g3 Fe3.kp b3_2 .nil (fun _ _ => .nil) (aCons (sVar (i := 0) (by rfl) (Or.inr (Or.inl (by rfl)))) (aCons (sInt) (SA.nil)))) (by rfl)) (fun D1 _ _ _ _ _ => SGv.name (cf.blk (D := D1)).nd (i := 5) (by rfl) (Or.inl (by rfl)) (Or.inr (by rfl)) (by decide)) (fun D1 _ _ _ _ _ => STs.nil) (fun D1 _ _ _ _ _ => sCall (cf.blk (D := D1)) (f4 _) hr0 (by rfl) g4 Fe4.kp b4_2 .nil (fun _ _ => .nil) (aCons (sVar (i := 0) (by rfl) (Or.inr (Or.inl (by rfl)))) (aCons (SE.lst (aCons (sStr) (aCons (sStr) (aCons (sStr) (SA.nil))))) (SA.nil)))) (blkOk_by (by kernel_rfl)) (by intro _; rfl) (i := 1) (by rfl) (by rfl) (by rfl)) (SSs.cons (SS.par2 cf.calm cf.nd (i := 2) (j := 3) (by rfl) (by rfl) (by decide) (by rfl) (by rfl) (aCons (SE.new (c := 3) ((f15 _).pg bn15 .nil (fun _ _ => .nil)) (by rfl) (mkrB_ok M_Known) cf.hK hr1 cf.gd (al := fun _ => true) (dvs := []) (dv := []) (dd := []) (by rfl) g_Known (fun s a us _ => by rw [List.append_nil]; rfl) .nil (fun _ _ => .nil) (aCons (sVar (i := 1) (by rfl) (Or.inl (by rfl))) (SA.nil)) (by decide) (star_cons (by rfl)) (star_none (by rfl))) (aCons (SE.newK (c := 4) (F := (f16 _).a) (by rfl) (mkrB_ok M_Doubted) cf.hK hr1 cf.gd (ks := ["world"]) (pi := [0]) (dvs := []) (dv := []) (dd := []) (by rfl) g_Doubted (KO_16_world) .nil (fun _ _ => .nil) (SK.cons (sVar (i := 1) (by rfl) (Or.inl (by rfl))) (SK.nil)) (by rfl) (by rfl) (by decide) (by rfl)) (SA.nil))) (by rfl) (by rfl)) (SSs.cons (SS.if_ ((SW.or (tCmp cf (oNe cf) (SE.fld (kfo _) cf.hK (sVar (i := 2) (by rfl) (Or.inl (by rfl))) (by rfl)) (sStr)) (SW.or (tCmp cf (oNe cf) (SE.fld (kfo _) cf.hK (sVar (i := 2) (by rfl) (Or.inl (by rfl))) (by rfl)) (SE.tup (aCons (sBT (.tuple cf.hK) (by rfl) n_tuple (by decide +kernel) (aCons (sVar (i := 1) (by rfl) (Or.inl (by rfl))) (SA.nil))) (SA.nil)))) (SW.or (tCmp cf (oNe cf) (SE.fld (kfo _) cf.hK (sVar (i := 2) (by rfl) (Or.inl (by rfl))) (by rfl)) (sBT (.tuple cf.hK) (by rfl) n_tuple (by decide +kernel) (aCons (sVar (i := 1) (by rfl) (Or.inl (by rfl))) (SA.nil)))) (SW.or1 (ST.not (ST.truth (TruS.truI (tbo _ _ rfl rfl rfl rfl) cf.hK hr0 cf.gd) (sVar (i := 2) (by rfl) (Or.inl (by rfl))) (by intro _; rfl))))))).st) (SSs.one (SS.ret (sBl))) (SSs.nil)) (SSs.cons (SS.if_ ((SW.or (tCmp cf (oNe cf) (SE.fld (kfo _) cf.hK (sVar (i := 3) (by rfl) (Or.inl (by rfl))) (by rfl)) (sStr)) (SW.or (tCmp cf (oNe cf) (SE.fld (kfo _) cf.hK (sVar (i := 3) (by rfl) (Or.inl (by rfl))) (by rfl)) (sBT (.tuple cf.hK) (by rfl) n_tuple (by decide +kernel) (aCons (sVar (i := 1) (by rfl) (Or.inl (by rfl))) (SA.nil)))) (SW.or (ST.truth (TruS.truI (tbo _ _ rfl rfl rfl rfl) cf.hK hr0 cf.gd) (sVar (i := 3) (by rfl) (Or.inl (by rfl))) (by intro _; rfl)) (SW.or1 (ST.not (tVal cf (SE.isi1 (kto _) cf.hK (t := .o 1) (by rfl) n_isinstance (sVar (i := 3) (by rfl) (Or.inl (by rfl))) (pe_glob (by rfl) g_Denial (by rfl)) (by rfl) (by rfl) (by rfl)))))))).st) (SSs.one (SS.ret (sBl))) (SSs.nil)) (SSs.cons (SS.if_ ((SW.or (ST.cmp (by rfl) (OpS.eqI (teq _ _ rfl rfl rfl rfl) (kto _) cf.hK hr1 cf.gd (oEq cf)) (.pure cf.hK) (sVar (i := 2) (by rfl) (Or.inl (by rfl))) (sVar (i := 3) (by rfl) (Or.inl (by rfl)))) (SW.or (ST.not (ST.cmp (by rfl) (OpS.eqI (teq _ _ rfl rfl rfl rfl) (kto _) cf.hK hr1 cf.gd (oEq cf)) (.pure cf.hK) (sVar (i := 2) (by rfl) (Or.inl (by rfl))) (SE.new (c := 0) (f10 _) (by rfl) (mkrB_ok M_Paper) cf.hK hr1 cf.gd (al := fun _ => true) (dvs := []) (dv := []) (dd := []) (by rfl) g_Paper (fun s a us _ => by rw [List.append_nil]; rfl) .nil (fun _ _ => .nil) (aCons (sStr) (aCons (sVar (i := 1) (by rfl) (Or.inl (by rfl))) (SA.nil))) (by decide) (star_cons (by rfl)) (star_none (by rfl))))) (SW.or1 (tVal cf (SE.isi1 (kto _) cf.hK (t := .o 3) (by rfl) n_isinstance (SE.new (c := 0) (f10 _) (by rfl) (mkrB_ok M_Paper) cf.hK hr1 cf.gd (al := fun _ => true) (dvs := []) (dv := []) (dd := []) (by rfl) g_Paper (fun s a us _ => by rw [List.append_nil]; rfl) .nil (fun _ _ => .nil) (aCons (sStr) (aCons (sVar (i := 1) (by rfl) (Or.inl (by rfl))) (SA.nil))) (by decide) (star_cons (by rfl)) (star_none (by rfl))) (pe_glob (by rfl) g_Known (by rfl)) (by rfl) (by rfl) (by rfl)))))).st) (SSs.one (SS.ret (sBl))) (SSs.nil)) (SSs.cons (SS.asg (SE.newK (c := 2) (F := (f14 _).a) (by rfl) (mkrB_ok M_Truth) cf.hK hr1 cf.gd (ks := ["ranks", "sets"]) (pi := [1, 0]) (dvs := []) (dv := []) (dd := []) (by rfl) g_Truth (KO_14_ranks_sets) .nil (fun _ _ => .nil) (SK.cons (SE.disp (SPs.cons (fun q1 => sInt) (fun q1 => SE.disp (SPs.cons (fun q2 => sStr) (fun q2 => sInt) (SPs.cons (fun q2 => sStr) (fun q2 => sInt) (SPs.nil))) (by simp) (by simp)) (SPs.nil)) (by simp) (by simp)) (SK.cons (SE.lst (aCons (sVar (i := 1) (by rfl) (Or.inl (by rfl))) (aCons (SE.lst (SA.nil)) (SA.nil)))) (SK.nil))) (by rfl) (by rfl) (by decide) (by rfl)) (SG.name cf.nd (i := 4) (by rfl) (Or.inl (by rfl)) (Or.inl (by rfl))) (by rfl) (by rfl) (by rfl)) (SSs.cons (SS.if_ ((SW.or (tCmp cf (oNe cf) (SE.fld (kfo _) cf.hK (sVar (i := 4) (by rfl) (Or.inl (by rfl))) (by rfl)) (SE.tup (aCons (sBT (.tuple cf.hK) (by rfl) n_tuple (by decide +kernel) (aCons (sVar (i := 1) (by rfl) (Or.inl (by rfl))) (SA.nil))) (aCons (SE.tup (SA.nil)) (SA.nil))))) (SW.or (tCmp cf (oNe cf) (SE.fld (kfo _) cf.hK (sVar (i := 4) (by rfl) (Or.inl (by rfl))) (by rfl)) (SE.tup (aCons (SE.tup (aCons (sInt) (aCons (SE.tup (aCons (SE.tup (aCons (sStr) (aCons (sInt) (SA.nil)))) (aCons (SE.tup (aCons (sStr) (aCons (sInt) (SA.nil)))) (SA.nil)))) (SA.nil)))) (SA.nil)))) (SW.or1 (tCmp cf (oNe cf) (SE.fld (kfo _) cf.hK (sVar (i := 4) (by rfl) (Or.inl (by rfl))) (by rfl)) (SE.tup (aCons (SE.fld (kfo _) cf.hK (sVar (i := 4) (by rfl) (Or.inl (by rfl))) (by rfl)) (aCons (SE.fld (kfo _) cf.hK (sVar (i := 4) (by rfl) (Or.inl (by rfl))) (by rfl)) (SA.nil)))))))).st) (SSs.one (SS.ret (sBl))) (SSs.nil)) (SSs.one (SS.ret (sAnd cf (sCmp (oEq cf) (SE.fld (kfo _) cf.hK (SE.newK (c := 6) (F := (f18 _).a) (by rfl) (mkrB_ok M_Chain) cf.hK hr1 cf.gd (ks := ["hops"]) (pi := [0]) (dvs := []) (dv := []) (dd := []) (by rfl) g_Chain (KO_18_hops) .nil (fun _ _ => .nil) (SK.cons (SE.lst (aCons (SE.lst (aCons (sStr) (aCons (sStr) (SA.nil)))) (SA.nil))) (SK.nil)) (by rfl) (by rfl) (by decide) (by rfl)) (by rfl)) (SE.tup (aCons (SE.tup (aCons (sStr) (aCons (sStr) (SA.nil)))) (SA.nil)))) (sAnd cf (SE.not (TruS.truI (tbo _ _ rfl rfl rfl rfl) cf.hK hr0 cf.gd) (SE.new (c := 6) ((f18 _).pg bn18 .nil (fun _ _ => .nil)) (by rfl) (mkrB_ok M_Chain) cf.hK hr1 cf.gd (al := fun _ => true) (dvs := []) (dv := []) (dd := []) (by rfl) g_Chain (fun s a us _ => by rw [List.append_nil]; rfl) .nil (fun _ _ => .nil) (aCons (SE.lst (SA.nil)) (SA.nil)) (by decide) (star_cons (by rfl)) (star_none (by rfl)))) (sAnd cf (sBT (.boolI (tbo _ _ rfl rfl rfl rfl) cf.hK hr2 cf.gd) (by rfl) n_bool (by decide +kernel) (aCons (SE.new (c := 5) ((f17 _).pg bn17 .nil (fun _ _ => .nil)) (by rfl) (mkrB_ok M_Shut) cf.hK hr1 cf.gd (al := fun _ => true) (dvs := []) (dv := []) (dd := []) (by rfl) g_Shut (fun s a us _ => by rw [List.append_nil]; rfl) .nil (fun _ _ => .nil) (aCons (SE.lst (SA.nil)) (SA.nil)) (by decide) (star_cons (by rfl)) (star_none (by rfl))) (SA.nil))) (SE.one (sCmp (oEq cf) (SE.fld (kfo _) cf.hK (SE.newK (c := 5) (F := (f17 _).a) (by rfl) (mkrB_ok M_Shut) cf.hK hr1 cf.gd (ks := ["worlds"]) (pi := [0]) (dvs := []) (dv := []) (dd := []) (by rfl) g_Shut (KO_17_worlds) .nil (fun _ _ => .nil) (SK.cons (SE.tup (SA.nil)) (SK.nil)) (by rfl) (by rfl) (by decide) (by rfl)) (by rfl)) (sStr))))))))))))))
theorem sc9 : FnScope ["_law_script", "_law_pen_here", "_law_turn"] ["_law_script"] (defScope s9) := ⟨rfl, rfl, rfl, by decide +kernel, rfl, by decide +kernel, by decide +kernel⟩
theorem ok9 (X : K.In base) (Nm : base.Ns mainGlobals mg) (c : SaysX P fa fn fy ex K) {k : Nat} (ih : ∀ i, Ih P w K mg base k i) : Ih P w K mg base (k + 1) 9 := by
  intro hid fd hfd
  obtain ⟨fd0, F0⟩ := c.d.def_ 9 (d := d9) rfl
  obtain rfl := hfd.one F0.fdAt
  have n_range := He.free_ok (x := "range") X Nm (c.d.fact 26 rfl)
  obtain ⟨fe2, Fe2⟩ := c.d.def_ 2 (d := d2) rfl
  have f2 : ∀ hid, FnS ((G0 K).at hid) P w mg base (3 * k + 3) (He.ga K "_law_pen") fe2 ["_law_script"] (Fs k 2) := fun hid => ih 2 hid fe2 Fe2.fdAt
  have g2 := He.glo_ok (x := "_law_pen") X Nm (c.d.fact 2 rfl)
  obtain ⟨fe7, Fe7⟩ := c.d.def_ 7 (d := d7) rfl
  have f7 : ∀ hid, FnS ((G0 K).at hid) P w mg base (3 * k + 3) (He.ga K "_law_kept_right") fe7 ["_law_pen_here"] (Fs k 7) := fun hid => ih 7 hid fe7 Fe7.fdAt
  have g7 := He.glo_ok (x := "_law_kept_right") X Nm (c.d.fact 7 rfl)
  obtain ⟨fe8, Fe8⟩ := c.d.def_ 8 (d := d8) rfl
  have f8 : ∀ hid, FnS ((G0 K).at hid) P w mg base (3 * k + 3) (He.ga K "_law_classes_right") fe8 ["_law_pen_here"] (Fs k 8) := fun hid => ih 8 hid fe8 Fe8.fdAt
  have g8 := He.glo_ok (x := "_law_classes_right") X Nm (c.d.fact 8 rfl)
  have b2_1 : Binds K fe2 ["_law_script"] [] := Fe2.bindsN fun _ _ _ _ _ _ us hl => match us, hl with | [_], _ => rfl
  have b7_1 : Binds K fe7 ["_law_pen_here"] [] := Fe7.bindsN fun _ _ _ _ _ _ us hl => match us, hl with | [_], _ => rfl
  have b8_1 : Binds K fe8 ["_law_pen_here"] [] := Fe8.bindsN fun _ _ _ _ _ _ us hl => match us, hl with | [_], _ => rfl
  have F1 : FunD K "law" "law" (defArgs s9) (defBody s9) (defScope s9) [] [] (He.ga K "law") fd := F0
  show FnS ((G0 K).at hid) P w mg base (3 * k + 5 + 1) (He.ga K "law") fd ["_law_script"] (runF false 3 (b9 (Fs k)))
  refine FnS.of (G := (G0 K).at hid) (N := ["_law_script", "_law_pen_here", "_law_turn"]) (ps := ["_law_script"]) (keep := false) (m := b9 (Fs k)) F1 sc9 fun cd A outer s H E hr hgd => ?_
  have cf : Cf ((G0 K).at hid) (bodyCx ((G0 K).at hid) P w mg base ["_law_script", "_law_pen_here", "_law_turn"] "law" (defScope s9) (He.ga K "law") cd A outer s H E) := ⟨rfl, rfl, sc9.nd, hgd, hr.units⟩
  have hr0 := hr.mono (show 3 * k + 3 ≤ 3 * k + 5 by omega)
  have hr1 := hr.mono (show 3 * k + 4 ≤ 3 * k + 5 by omega)
  have hr2 := hr
  exact SSs.cons (SS.asg (sCall cf (f2 _) hr0 (by rfl) g2 Fe2.kp b2_1 .nil (fun _ _ => .nil) (aCons (sVar (i := 0) (by rfl) (Or.inl (by rfl))) (SA.nil))) (SG.name cf.nd (i := 1) (by rfl) (Or.inl (by rfl)) (Or.inl (by rfl))) (by rfl) (by rfl) (by rfl)) (SSs.cons (SS.for_ (passes_of rfl) cf.calm cf.hK (SI.rng1 (by rfl) n_range (sInt) (by rfl)) (SG.name cf.nd (i := 2) (by rfl) (Or.inl (by rfl)) (Or.inl (by rfl))) (SSs.one (SS.if_ ((SW.or (ST.not (tVal cf (sCall cf (f7 _) hr0 (by rfl) g7 Fe7.kp b7_1 .nil (fun _ _ => .nil) (aCons (sVar (i := 1) (by rfl) (Or.inl (by rfl))) (SA.nil))))) (SW.or1 (ST.not (tVal cf (sCall cf (f8 _) hr0 (by rfl) g8 Fe8.kp b8_1 .nil (fun _ _ => .nil) (aCons (sVar (i := 1) (by rfl) (Or.inl (by rfl))) (SA.nil))))))).st) (SSs.one (SS.ret (sBl))) (SSs.nil))) (by intro _; rfl)) (SSs.one (SS.ret (sBl))))
theorem sc10 : FnScope ["self", "word", "parts"] ["self", "word", "parts"] (defScope s10) := ⟨rfl, rfl, rfl, by decide +kernel, rfl, by decide +kernel, by decide +kernel⟩
theorem ok10 (X : K.In base) (Nm : base.Ns mainGlobals mg) (c : SaysX P fa fn fy ex K) {k : Nat} (ih : ∀ i, Ih P w K mg base k i) : Ih P w K mg base (k + 1) 10 := by
  intro hid fd hfd
  obtain ⟨fd0, F0⟩ := c.d.def_ 10 (d := d10) rfl
  obtain rfl := hfd.one F0.fdAt
  have kfo : ∀ hid, KfOk ((G0 K).at hid) kf := fun hid => kfW_ok (He.ba (He.ba c.more).2).1 (He.ba (He.ba (He.ba c.more).2).2).1 hid
  obtain ⟨fe1, Fe1⟩ := c.d.def_ 1 (d := d1) rfl
  have f1 : ∀ hid, FnS ((G0 K).at hid) P w mg base (3 * k + 3) (He.ga K "fixed") fe1 ["value"] (Fs k 1) := fun hid => ih 1 hid fe1 Fe1.fdAt
  have g1 := He.glo_ok (x := "fixed") X Nm (c.d.fact 1 rfl)
  have b1_1 : Binds K fe1 ["value"] [] := Fe1.bindsN fun _ _ _ _ _ _ us hl => match us, hl with | [_], _ => rfl
  have F1 : FunD K "__init__" "Paper.__init__" (defArgs s10) (defBody s10) (defScope s10) [] [] (He.fAd K ("Paper", some "__init__")) fd := F0
  show FnA ((G0 K).at hid) P w mg base (3 * k + 5 + 1) (He.fAd K ("Paper", some "__init__")) okP (starG 2 (runF false 3 (b10 (Fs k))))
  refine FnA.star (G := (G0 K).at hid) (N := ["self", "word", "parts"]) (ps := ["self", "word"]) (pv := "parts") (keep := false) (m := b10 (Fs k)) F1 sc10 rfl (fun _ _ _ _ _ _ us rest hl => match us, rest, hl with | [_, _], [], _ => rfl | [_, _], _ :: _, _ => rfl) fun cd A outer s H E hr hgd => ?_
  have cf : Cf ((G0 K).at hid) (bodyCx ((G0 K).at hid) P w mg base ["self", "word", "parts"] "Paper.__init__" (defScope s10) (He.fAd K ("Paper", some "__init__")) cd A outer s H E) := ⟨rfl, rfl, sc10.nd, hgd, hr.units⟩
  have hr0 := hr.mono (show 3 * k + 3 ≤ 3 * k + 5 by omega)
  have hr1 := hr.mono (show 3 * k + 4 ≤ 3 * k + 5 by omega)
  have hr2 := hr
  exact SSs.cons (SS.setF (kfo _) cf.hK (sVar (i := 0) (by rfl) (Or.inl (by rfl))) (sVar (i := 1) (by rfl) (Or.inl (by rfl))) (by rfl)) (SSs.one (SS.setF (kfo _) cf.hK (sVar (i := 0) (by rfl) (Or.inl (by rfl))) (sCall cf (f1 _) hr0 (by rfl) g1 Fe1.kp b1_1 .nil (fun _ _ => .nil) (aCons (sVar (i := 2) (by rfl) (Or.inl (by rfl))) (SA.nil))) (by rfl)))
theorem sc11 : FnScope ["self"] ["self"] (defScope s11) := ⟨rfl, rfl, rfl, by decide +kernel, rfl, by decide +kernel, by decide +kernel⟩
theorem ok11 (X : K.In base) (Nm : base.Ns mainGlobals mg) (c : SaysX P fa fn fy ex K) {k : Nat} (ih : ∀ i, Ih P w K mg base k i) : Ih P w K mg base (k + 1) 11 := by
  intro hid fd hfd
  obtain ⟨fd0, F0⟩ := c.d.def_ 11 (d := d11) rfl
  obtain rfl := hfd.one F0.fdAt
  have F1 : FunD K "__bool__" "Paper.__bool__" (defArgs s11) (defBody s11) (defScope s11) [] [] (He.fAd K ("Paper", some "__bool__")) fd := F0
  show FnS ((G0 K).at hid) P w mg base (3 * k + 5 + 1) (He.fAd K ("Paper", some "__bool__")) fd ["self"] (runF false 1 (b11 (Fs k)))
  refine FnS.of (G := (G0 K).at hid) (N := ["self"]) (ps := ["self"]) (keep := false) (m := b11 (Fs k)) F1 sc11 fun cd A outer s H E hr hgd => ?_
  have cf : Cf ((G0 K).at hid) (bodyCx ((G0 K).at hid) P w mg base ["self"] "Paper.__bool__" (defScope s11) (He.fAd K ("Paper", some "__bool__")) cd A outer s H E) := ⟨rfl, rfl, sc11.nd, hgd, hr.units⟩
  have hr0 := hr.mono (show 3 * k + 3 ≤ 3 * k + 5 by omega)
  have hr1 := hr.mono (show 3 * k + 4 ≤ 3 * k + 5 by omega)
  have hr2 := hr
  exact SSs.one (SS.ret (sBl))
theorem sc12 : FnScope ["self", "other"] ["self", "other"] (defScope s12) := ⟨rfl, rfl, rfl, by decide +kernel, rfl, by decide +kernel, by decide +kernel⟩
theorem ok12 (X : K.In base) (Nm : base.Ns mainGlobals mg) (c : SaysX P fa fn fy ex K) {k : Nat} (ih : ∀ i, Ih P w K mg base k i) : Ih P w K mg base (k + 1) 12 := by
  intro hid fd hfd
  obtain ⟨fd0, F0⟩ := c.d.def_ 12 (d := d12) rfl
  obtain rfl := hfd.one F0.fdAt
  have n_isinstance := He.free_ok (x := "isinstance") X Nm (c.d.fact 22 rfl)
  have kto : ∀ hid, KtOk ((G0 K).at hid) kt := fun hid => ktW_ok (He.ba (He.ba c.more).2).1 hid
  have kfo : ∀ hid, KfOk ((G0 K).at hid) kf := fun hid => kfW_ok (He.ba (He.ba c.more).2).1 (He.ba (He.ba (He.ba c.more).2).2).1 hid
  have g_Paper := He.glo_ok (x := "Paper") X Nm (c.d.fact 10 rfl)
  have F1 : FunD K "__eq__" "Paper.__eq__" (defArgs s12) (defBody s12) (defScope s12) [] [] (He.fAd K ("Paper", some "__eq__")) fd := F0
  show FnS ((G0 K).at hid) P w mg base (3 * k + 5 + 1) (He.fAd K ("Paper", some "__eq__")) fd ["self", "other"] (runF false 2 (b12 (Fs k)))
  refine FnS.of (G := (G0 K).at hid) (N := ["self", "other"]) (ps := ["self", "other"]) (keep := false) (m := b12 (Fs k)) F1 sc12 fun cd A outer s H E hr hgd => ?_
  have cf : Cf ((G0 K).at hid) (bodyCx ((G0 K).at hid) P w mg base ["self", "other"] "Paper.__eq__" (defScope s12) (He.fAd K ("Paper", some "__eq__")) cd A outer s H E) := ⟨rfl, rfl, sc12.nd, hgd, hr.units⟩
  have hr0 := hr.mono (show 3 * k + 3 ≤ 3 * k + 5 by omega)
  have hr1 := hr.mono (show 3 * k + 4 ≤ 3 * k + 5 by omega)
  have hr2 := hr
  exact SSs.one (SS.ret (sAnd cf (SE.isi1 (kto _) cf.hK (t := .o 0) (by rfl) n_isinstance (sVar (i := 1) (by rfl) (Or.inl (by rfl))) (pe_glob (by rfl) g_Paper (by rfl)) (by rfl) (by rfl) (by rfl)) (sAnd cf (sCmp (oEq cf) (SE.fld (kfo _) cf.hK (sVar (i := 0) (by rfl) (Or.inl (by rfl))) (by rfl)) (SE.fld (kfo _) cf.hK (sVar (i := 1) (by rfl) (Or.inl (by rfl))) (by rfl))) (SE.one (sCmp (oEq cf) (SE.fld (kfo _) cf.hK (sVar (i := 0) (by rfl) (Or.inl (by rfl))) (by rfl)) (SE.fld (kfo _) cf.hK (sVar (i := 1) (by rfl) (Or.inl (by rfl))) (by rfl)))))))
theorem sc13 : FnScope ["self"] ["self"] (defScope s13) := ⟨rfl, rfl, rfl, by decide +kernel, rfl, by decide +kernel, by decide +kernel⟩
theorem ok13 (X : K.In base) (Nm : base.Ns mainGlobals mg) (c : SaysX P fa fn fy ex K) {k : Nat} (ih : ∀ i, Ih P w K mg base k i) : Ih P w K mg base (k + 1) 13 := by
  intro hid fd hfd
  obtain ⟨fd0, F0⟩ := c.d.def_ 13 (d := d13) rfl
  obtain rfl := hfd.one F0.fdAt
  have F1 : FunD K "__bool__" "Denial.__bool__" (defArgs s13) (defBody s13) (defScope s13) [] [] (He.fAd K ("Denial", some "__bool__")) fd := F0
  show FnS ((G0 K).at hid) P w mg base (3 * k + 5 + 1) (He.fAd K ("Denial", some "__bool__")) fd ["self"] (runF false 1 (b13 (Fs k)))
  refine FnS.of (G := (G0 K).at hid) (N := ["self"]) (ps := ["self"]) (keep := false) (m := b13 (Fs k)) F1 sc13 fun cd A outer s H E hr hgd => ?_
  have cf : Cf ((G0 K).at hid) (bodyCx ((G0 K).at hid) P w mg base ["self"] "Denial.__bool__" (defScope s13) (He.fAd K ("Denial", some "__bool__")) cd A outer s H E) := ⟨rfl, rfl, sc13.nd, hgd, hr.units⟩
  have hr0 := hr.mono (show 3 * k + 3 ≤ 3 * k + 5 by omega)
  have hr1 := hr.mono (show 3 * k + 4 ≤ 3 * k + 5 by omega)
  have hr2 := hr
  exact SSs.one (SS.ret (sBl))
theorem sc14 : NScope ["self", "sets", "ranks", "__class__"] ["self", "sets", "ranks"] ["__class__"] (defScope s14) := nscope_by (by decide +kernel)
theorem ok14 (X : K.In base) (Nm : base.Ns mainGlobals mg) (c : SaysX P fa fn fy ex K) {k : Nat} (ih : ∀ i, Ih P w K mg base k i) : Ih P w K mg base (k + 1) 14 := by
  intro hid fd hfd
  obtain ⟨cl, cc, fd0, F0, SK⟩ := c.supF 0 (d := u14) rfl (by rfl) (by rfl) (by rfl)
  obtain rfl := hfd.one F0.fdAt
  have kfo : ∀ hid, KfOk ((G0 K).at hid) kf := fun hid => kfW_ok (He.ba (He.ba c.more).2).1 (He.ba (He.ba (He.ba c.more).2).2).1 hid
  obtain ⟨fe10, Fe10⟩ := c.d.def_ 10 (d := d10) rfl
  have f10 : ∀ hid, FnA ((G0 K).at hid) P w mg base (3 * k + 3) (He.fAd K ("Paper", some "__init__")) okP (Fs k 10) := fun hid => ih 10 hid fe10 Fe10.fdAt
  show FnS ((G0 K).at hid) P w mg base (3 * k + 5 + 1) (He.fAd K ("Truth", some "__init__")) _ ["self", "sets", "ranks"] (runF false 4 (b14 (Fs k)))
  refine FnS.sup (G := (G0 K).at hid) (N := ["self", "sets", "ranks", "__class__"]) (ps := ["self", "sets", "ranks"]) (keep := false) (cs := fun c => ([2] : List Nat).contains c) (ma := (dCons (dLit (.str "truth")) (dCons (dVar 1) (dCons (dVar 2) (dNil))))) (mrest := (dSeq (dSetF kf "sets" (dVar 0) (dOp (pureO idxK) (dFld kf "parts" (dVar 0)) (dLit (.int 0)))) (dSetF kf "ranks" (dVar 0) (dOp (pureO idxK) (dFld kf "parts" (dVar 0)) (dLit (.int 1)))))) F0 sc14 rfl SK rfl rfl (by rfl) ((f10 hid).up (by omega)) (supC_of (He.ba (He.ba (He.ba (He.ba (He.ba (He.ba (He.ba (He.ba (He.ba (He.ba (He.ba (He.ba c.more).2).2).2).2).2).2).2).2).1).1).1).1) (fun _ => _) (by intro _; rfl) (by intro _; rfl) (by intro _; rfl) (by intro _; exact star_cons (by rfl)) (by intro _; exact star_none (by rfl)) (fun A outer s H E hr hgd => ?_) fun A outer s H E hr hgd => ?_
  · have cf : Cf ((G0 K).at hid) (ncx (L2.CX P w) P w K mg base ["self", "sets", "ranks", "__class__"] ⟨"__init__", "Truth.__init__", defArgs s14, defBody s14, defScope s14, cl, cc⟩ (He.fAd K ("Truth", some "__init__")) A outer s H E) := ⟨rfl, rfl, sc14.nd, hgd, hr.units⟩
    have hr0 := hr.mono (show 3 * k + 3 ≤ 3 * k + 5 by omega)
    have hr1 := hr.mono (show 3 * k + 4 ≤ 3 * k + 5 by omega)
    have hr2 := hr
    exact aCons (sStr) (aCons (sVar (i := 1) (by rfl) (Or.inl (by rfl))) (aCons (sVar (i := 2) (by rfl) (Or.inl (by rfl))) (SA.nil)))
  · have cf : Cf ((G0 K).at hid) (ncx (L2.CX P w) P w K mg base ["self", "sets", "ranks", "__class__"] ⟨"__init__", "Truth.__init__", defArgs s14, defBody s14, defScope s14, cl, cc⟩ (He.fAd K ("Truth", some "__init__")) A outer s H E) := ⟨rfl, rfl, sc14.nd, hgd, hr.units⟩
    have hr0 := hr.mono (show 3 * k + 3 ≤ 3 * k + 5 by omega)
    have hr1 := hr.mono (show 3 * k + 4 ≤ 3 * k + 5 by omega)
    have hr2 := hr
    exact SSs.cons (SS.setF (kfo _) cf.hK (sVar (i := 0) (by rfl) (Or.inl (by rfl))) (sIxK cf (SE.fld (kfo _) cf.hK (sVar (i := 0) (by rfl) (Or.inl (by rfl))) (by rfl)) (sInt)) (by rfl)) (SSs.one (SS.setF (kfo _) cf.hK (sVar (i := 0) (by rfl) (Or.inl (by rfl))) (sIxK cf (SE.fld (kfo _) cf.hK (sVar (i := 0) (by rfl) (Or.inl (by rfl))) (by rfl)) (sInt)) (by rfl)))
theorem sc15 : NScope ["self", "worlds", "__class__"] ["self", "worlds"] ["__class__"] (defScope s15) := nscope_by (by decide +kernel)
theorem ok15 (X : K.In base) (Nm : base.Ns mainGlobals mg) (c : SaysX P fa fn fy ex K) {k : Nat} (ih : ∀ i, Ih P w K mg base k i) : Ih P w K mg base (k + 1) 15 := by
  intro hid fd hfd
  obtain ⟨cl, cc, fd0, F0, SK⟩ := c.supF 1 (d := u15) rfl (by rfl) (by rfl) (by rfl)
  obtain rfl := hfd.one F0.fdAt
  have kfo : ∀ hid, KfOk ((G0 K).at hid) kf := fun hid => kfW_ok (He.ba (He.ba c.more).2).1 (He.ba (He.ba (He.ba c.more).2).2).1 hid
  obtain ⟨fe10, Fe10⟩ := c.d.def_ 10 (d := d10) rfl
  have f10 : ∀ hid, FnA ((G0 K).at hid) P w mg base (3 * k + 3) (He.fAd K ("Paper", some "__init__")) okP (Fs k 10) := fun hid => ih 10 hid fe10 Fe10.fdAt
  show FnS ((G0 K).at hid) P w mg base (3 * k + 5 + 1) (He.fAd K ("Known", some "__init__")) _ ["self", "worlds"] (runF false 3 (b15 (Fs k)))
  refine FnS.sup (G := (G0 K).at hid) (N := ["self", "worlds", "__class__"]) (ps := ["self", "worlds"]) (keep := false) (cs := fun c => ([3] : List Nat).contains c) (ma := (dCons (dLit (.str "known")) (dCons (dVar 1) (dNil)))) (mrest := (dSetF kf "worlds" (dVar 0) (dOp (pureO idxK) (dFld kf "parts" (dVar 0)) (dLit (.int 0))))) F0 sc15 rfl SK rfl rfl (by rfl) ((f10 hid).up (by omega)) (supC_of (He.ba (He.ba (He.ba (He.ba (He.ba (He.ba (He.ba (He.ba (He.ba (He.ba (He.ba (He.ba c.more).2).2).2).2).2).2).2).2).1).1).1).2) (fun _ => _) (by intro _; rfl) (by intro _; rfl) (by intro _; rfl) (by intro _; exact star_cons (by rfl)) (by intro _; exact star_none (by rfl)) (fun A outer s H E hr hgd => ?_) fun A outer s H E hr hgd => ?_
  · have cf : Cf ((G0 K).at hid) (ncx (L2.CX P w) P w K mg base ["self", "worlds", "__class__"] ⟨"__init__", "Known.__init__", defArgs s15, defBody s15, defScope s15, cl, cc⟩ (He.fAd K ("Known", some "__init__")) A outer s H E) := ⟨rfl, rfl, sc15.nd, hgd, hr.units⟩
    have hr0 := hr.mono (show 3 * k + 3 ≤ 3 * k + 5 by omega)
    have hr1 := hr.mono (show 3 * k + 4 ≤ 3 * k + 5 by omega)
    have hr2 := hr
    exact aCons (sStr) (aCons (sVar (i := 1) (by rfl) (Or.inl (by rfl))) (SA.nil))
  · have cf : Cf ((G0 K).at hid) (ncx (L2.CX P w) P w K mg base ["self", "worlds", "__class__"] ⟨"__init__", "Known.__init__", defArgs s15, defBody s15, defScope s15, cl, cc⟩ (He.fAd K ("Known", some "__init__")) A outer s H E) := ⟨rfl, rfl, sc15.nd, hgd, hr.units⟩
    have hr0 := hr.mono (show 3 * k + 3 ≤ 3 * k + 5 by omega)
    have hr1 := hr.mono (show 3 * k + 4 ≤ 3 * k + 5 by omega)
    have hr2 := hr
    exact SSs.one (SS.setF (kfo _) cf.hK (sVar (i := 0) (by rfl) (Or.inl (by rfl))) (sIxK cf (SE.fld (kfo _) cf.hK (sVar (i := 0) (by rfl) (Or.inl (by rfl))) (by rfl)) (sInt)) (by rfl))
theorem sc16 : NScope ["self", "world", "__class__"] ["self", "world"] ["__class__"] (defScope s16) := nscope_by (by decide +kernel)
theorem ok16 (X : K.In base) (Nm : base.Ns mainGlobals mg) (c : SaysX P fa fn fy ex K) {k : Nat} (ih : ∀ i, Ih P w K mg base k i) : Ih P w K mg base (k + 1) 16 := by
  intro hid fd hfd
  obtain ⟨cl, cc, fd0, F0, SK⟩ := c.supF 2 (d := u16) rfl (by rfl) (by rfl) (by rfl)
  obtain rfl := hfd.one F0.fdAt
  have kfo : ∀ hid, KfOk ((G0 K).at hid) kf := fun hid => kfW_ok (He.ba (He.ba c.more).2).1 (He.ba (He.ba (He.ba c.more).2).2).1 hid
  obtain ⟨fe10, Fe10⟩ := c.d.def_ 10 (d := d10) rfl
  have f10 : ∀ hid, FnA ((G0 K).at hid) P w mg base (3 * k + 3) (He.fAd K ("Paper", some "__init__")) okP (Fs k 10) := fun hid => ih 10 hid fe10 Fe10.fdAt
  show FnS ((G0 K).at hid) P w mg base (3 * k + 5 + 1) (He.fAd K ("Doubted", some "__init__")) _ ["self", "world"] (runF false 3 (b16 (Fs k)))
  refine FnS.sup (G := (G0 K).at hid) (N := ["self", "world", "__class__"]) (ps := ["self", "world"]) (keep := false) (cs := fun c => ([4] : List Nat).contains c) (ma := (dCons (dLit (.str "doubted")) (dCons (dVar 1) (dNil)))) (mrest := (dSetF kf "world" (dVar 0) (dOp (pureO idxK) (dFld kf "parts" (dVar 0)) (dLit (.int 0))))) F0 sc16 rfl SK rfl rfl (by rfl) ((f10 hid).up (by omega)) (supC_of (He.ba (He.ba (He.ba (He.ba (He.ba (He.ba (He.ba (He.ba (He.ba (He.ba (He.ba c.more).2).2).2).2).2).2).2).2).1).1).2) (fun _ => _) (by intro _; rfl) (by intro _; rfl) (by intro _; rfl) (by intro _; exact star_cons (by rfl)) (by intro _; exact star_none (by rfl)) (fun A outer s H E hr hgd => ?_) fun A outer s H E hr hgd => ?_
  · have cf : Cf ((G0 K).at hid) (ncx (L2.CX P w) P w K mg base ["self", "world", "__class__"] ⟨"__init__", "Doubted.__init__", defArgs s16, defBody s16, defScope s16, cl, cc⟩ (He.fAd K ("Doubted", some "__init__")) A outer s H E) := ⟨rfl, rfl, sc16.nd, hgd, hr.units⟩
    have hr0 := hr.mono (show 3 * k + 3 ≤ 3 * k + 5 by omega)
    have hr1 := hr.mono (show 3 * k + 4 ≤ 3 * k + 5 by omega)
    have hr2 := hr
    exact aCons (sStr) (aCons (sVar (i := 1) (by rfl) (Or.inl (by rfl))) (SA.nil))
  · have cf : Cf ((G0 K).at hid) (ncx (L2.CX P w) P w K mg base ["self", "world", "__class__"] ⟨"__init__", "Doubted.__init__", defArgs s16, defBody s16, defScope s16, cl, cc⟩ (He.fAd K ("Doubted", some "__init__")) A outer s H E) := ⟨rfl, rfl, sc16.nd, hgd, hr.units⟩
    have hr0 := hr.mono (show 3 * k + 3 ≤ 3 * k + 5 by omega)
    have hr1 := hr.mono (show 3 * k + 4 ≤ 3 * k + 5 by omega)
    have hr2 := hr
    exact SSs.one (SS.setF (kfo _) cf.hK (sVar (i := 0) (by rfl) (Or.inl (by rfl))) (sIxK cf (SE.fld (kfo _) cf.hK (sVar (i := 0) (by rfl) (Or.inl (by rfl))) (by rfl)) (sInt)) (by rfl))
theorem sc17 : NScope ["self", "worlds", "__class__"] ["self", "worlds"] ["__class__"] (defScope s17) := nscope_by (by decide +kernel)
theorem ok17 (X : K.In base) (Nm : base.Ns mainGlobals mg) (c : SaysX P fa fn fy ex K) {k : Nat} (ih : ∀ i, Ih P w K mg base k i) : Ih P w K mg base (k + 1) 17 := by
  intro hid fd hfd
  obtain ⟨cl, cc, fd0, F0, SK⟩ := c.supF 3 (d := u17) rfl (by rfl) (by rfl) (by rfl)
  obtain rfl := hfd.one F0.fdAt
  have kfo : ∀ hid, KfOk ((G0 K).at hid) kf := fun hid => kfW_ok (He.ba (He.ba c.more).2).1 (He.ba (He.ba (He.ba c.more).2).2).1 hid
  obtain ⟨fe10, Fe10⟩ := c.d.def_ 10 (d := d10) rfl
  have f10 : ∀ hid, FnA ((G0 K).at hid) P w mg base (3 * k + 3) (He.fAd K ("Paper", some "__init__")) okP (Fs k 10) := fun hid => ih 10 hid fe10 Fe10.fdAt
  show FnS ((G0 K).at hid) P w mg base (3 * k + 5 + 1) (He.fAd K ("Shut", some "__init__")) _ ["self", "worlds"] (runF false 3 (b17 (Fs k)))
  refine FnS.sup (G := (G0 K).at hid) (N := ["self", "worlds", "__class__"]) (ps := ["self", "worlds"]) (keep := false) (cs := fun c => ([5] : List Nat).contains c) (ma := (dCons (dLit (.str "shut")) (dCons (dVar 1) (dNil)))) (mrest := (dSetF kf "worlds" (dVar 0) (dOp (pureO idxK) (dFld kf "parts" (dVar 0)) (dLit (.int 0))))) F0 sc17 rfl SK rfl rfl (by rfl) ((f10 hid).up (by omega)) (supC_of (He.ba (He.ba (He.ba (He.ba (He.ba (He.ba (He.ba (He.ba (He.ba (He.ba c.more).2).2).2).2).2).2).2).2).1).2) (fun _ => _) (by intro _; rfl) (by intro _; rfl) (by intro _; rfl) (by intro _; exact star_cons (by rfl)) (by intro _; exact star_none (by rfl)) (fun A outer s H E hr hgd => ?_) fun A outer s H E hr hgd => ?_
  · have cf : Cf ((G0 K).at hid) (ncx (L2.CX P w) P w K mg base ["self", "worlds", "__class__"] ⟨"__init__", "Shut.__init__", defArgs s17, defBody s17, defScope s17, cl, cc⟩ (He.fAd K ("Shut", some "__init__")) A outer s H E) := ⟨rfl, rfl, sc17.nd, hgd, hr.units⟩
    have hr0 := hr.mono (show 3 * k + 3 ≤ 3 * k + 5 by omega)
    have hr1 := hr.mono (show 3 * k + 4 ≤ 3 * k + 5 by omega)
    have hr2 := hr
    exact aCons (sStr) (aCons (sVar (i := 1) (by rfl) (Or.inl (by rfl))) (SA.nil))
  · have cf : Cf ((G0 K).at hid) (ncx (L2.CX P w) P w K mg base ["self", "worlds", "__class__"] ⟨"__init__", "Shut.__init__", defArgs s17, defBody s17, defScope s17, cl, cc⟩ (He.fAd K ("Shut", some "__init__")) A outer s H E) := ⟨rfl, rfl, sc17.nd, hgd, hr.units⟩
    have hr0 := hr.mono (show 3 * k + 3 ≤ 3 * k + 5 by omega)
    have hr1 := hr.mono (show 3 * k + 4 ≤ 3 * k + 5 by omega)
    have hr2 := hr
    exact SSs.one (SS.setF (kfo _) cf.hK (sVar (i := 0) (by rfl) (Or.inl (by rfl))) (sIxK cf (SE.fld (kfo _) cf.hK (sVar (i := 0) (by rfl) (Or.inl (by rfl))) (by rfl)) (sInt)) (by rfl))
theorem sc18 : NScope ["self", "hops", "__class__"] ["self", "hops"] ["__class__"] (defScope s18) := nscope_by (by decide +kernel)
theorem ok18 (X : K.In base) (Nm : base.Ns mainGlobals mg) (c : SaysX P fa fn fy ex K) {k : Nat} (ih : ∀ i, Ih P w K mg base k i) : Ih P w K mg base (k + 1) 18 := by
  intro hid fd hfd
  obtain ⟨cl, cc, fd0, F0, SK⟩ := c.supF 4 (d := u18) rfl (by rfl) (by rfl) (by rfl)
  obtain rfl := hfd.one F0.fdAt
  have kfo : ∀ hid, KfOk ((G0 K).at hid) kf := fun hid => kfW_ok (He.ba (He.ba c.more).2).1 (He.ba (He.ba (He.ba c.more).2).2).1 hid
  obtain ⟨fe10, Fe10⟩ := c.d.def_ 10 (d := d10) rfl
  have f10 : ∀ hid, FnA ((G0 K).at hid) P w mg base (3 * k + 3) (He.fAd K ("Paper", some "__init__")) okP (Fs k 10) := fun hid => ih 10 hid fe10 Fe10.fdAt
  show FnS ((G0 K).at hid) P w mg base (3 * k + 5 + 1) (He.fAd K ("Chain", some "__init__")) _ ["self", "hops"] (runF false 3 (b18 (Fs k)))
  refine FnS.sup (G := (G0 K).at hid) (N := ["self", "hops", "__class__"]) (ps := ["self", "hops"]) (keep := false) (cs := fun c => ([6] : List Nat).contains c) (ma := (dCons (dLit (.str "chain")) (dCons (dVar 1) (dNil)))) (mrest := (dSetF kf "hops" (dVar 0) (dOp (pureO idxK) (dFld kf "parts" (dVar 0)) (dLit (.int 0))))) F0 sc18 rfl SK rfl rfl (by rfl) ((f10 hid).up (by omega)) (supC_of (He.ba (He.ba (He.ba (He.ba (He.ba (He.ba (He.ba (He.ba (He.ba c.more).2).2).2).2).2).2).2).2).2) (fun _ => _) (by intro _; rfl) (by intro _; rfl) (by intro _; rfl) (by intro _; exact star_cons (by rfl)) (by intro _; exact star_none (by rfl)) (fun A outer s H E hr hgd => ?_) fun A outer s H E hr hgd => ?_
  · have cf : Cf ((G0 K).at hid) (ncx (L2.CX P w) P w K mg base ["self", "hops", "__class__"] ⟨"__init__", "Chain.__init__", defArgs s18, defBody s18, defScope s18, cl, cc⟩ (He.fAd K ("Chain", some "__init__")) A outer s H E) := ⟨rfl, rfl, sc18.nd, hgd, hr.units⟩
    have hr0 := hr.mono (show 3 * k + 3 ≤ 3 * k + 5 by omega)
    have hr1 := hr.mono (show 3 * k + 4 ≤ 3 * k + 5 by omega)
    have hr2 := hr
    exact aCons (sStr) (aCons (sVar (i := 1) (by rfl) (Or.inl (by rfl))) (SA.nil))
  · have cf : Cf ((G0 K).at hid) (ncx (L2.CX P w) P w K mg base ["self", "hops", "__class__"] ⟨"__init__", "Chain.__init__", defArgs s18, defBody s18, defScope s18, cl, cc⟩ (He.fAd K ("Chain", some "__init__")) A outer s H E) := ⟨rfl, rfl, sc18.nd, hgd, hr.units⟩
    have hr0 := hr.mono (show 3 * k + 3 ≤ 3 * k + 5 by omega)
    have hr1 := hr.mono (show 3 * k + 4 ≤ 3 * k + 5 by omega)
    have hr2 := hr
    exact SSs.one (SS.setF (kfo _) cf.hK (sVar (i := 0) (by rfl) (Or.inl (by rfl))) (sIxK cf (SE.fld (kfo _) cf.hK (sVar (i := 0) (by rfl) (Or.inl (by rfl))) (by rfl)) (sInt)) (by rfl))
theorem Ih.zero (i : Nat) : Ih P w K mg base 0 i := by
  intro hid fd _
  cases star i with
  | true => exact FnA.zero
  | false => exact FnS.zero
theorem all_ok (X : K.In base) (Nm : base.Ns mainGlobals mg) (c : SaysX P fa fn fy ex K) : ∀ (k i : Nat), Ih P w K mg base k i
  | 0, i => Ih.zero i
  | k + 1, i => by
    have ih : ∀ j, Ih P w K mg base k j := fun j => all_ok X Nm c k j
    match i with
    | 0 => exact ok0 X Nm c ih
    | 1 => exact ok1 X Nm c ih
    | 2 => exact ok2 X Nm c ih
    | 3 => exact ok3 X Nm c ih
    | 4 => exact ok4 X Nm c ih
    | 5 => exact ok5 X Nm c ih
    | 6 => exact ok6 X Nm c ih
    | 7 => exact ok7 X Nm c ih
    | 8 => exact ok8 X Nm c ih
    | 9 => exact ok9 X Nm c ih
    | 10 => exact ok10 X Nm c ih
    | 11 => exact ok11 X Nm c ih
    | 12 => exact ok12 X Nm c ih
    | 13 => exact ok13 X Nm c ih
    | 14 => exact ok14 X Nm c ih
    | 15 => exact ok15 X Nm c ih
    | 16 => exact ok16 X Nm c ih
    | 17 => exact ok17 X Nm c ih
    | 18 => exact ok18 X Nm c ih
    | j + 19 =>
      intro hid fd _
      exact FnS.zero
end
def names0 : List PySem.Str := ["keys_of", "fixed", "Paper", "Denial", "Truth", "Known", "Doubted", "Shut", "Chain", "_law_pen", "_law_draw", "_law_pick", "_law_value", "_law_fixed", "_law_kept_right", "_law_classes_right"]
def names : List PySem.Str := names0
abbrev Rw : PySem.W.OpenRow := PySem.W.OpenLaw.row PySem.Challenge.rw_saidenough_k03_papers_keep_what_they_tel
abbrev hk : PySem.W.Hook := hookX Rw.prog 5 fa fn fy ex
def ob (s : PySem.W.SharedT) : AlX := obsX Rw.prog 5 fa fn fy ex (HandSHeadRun.getT s)
theorem ob_eq (s : PySem.W.SharedT) : ob s = hk.obs s.abs := obsX_eq (HandSHeadRun.getT_eq s)
theorem run (w : World) : HandSHeadRun.RunEq Rw (PySem.W.view Rw.prog [20]) hk ob 2500 names w := by
  intro os
  kernel_rfl
end Lw
namespace Lw
open Iv
theorem at0 {x y z : D} : L2.atI [x, y, z] 0 = some x := rfl
theorem at1 {x y z : D} : L2.atI [x, y, z] 1 = some y := rfl
theorem at2 {x y z : D} : L2.atI [x, y, z] 2 = some z := rfl
abbrev pn (ns : List Int) (a g : Int) : D := .lst [.lst (ns.map .int), .int a, .int g]
theorem draw_g (k : Nat) (ns : List Int) (a g m : Int) (L : List D) (hg : 0 < g) (hm : 0 < m) (hl : m.natAbs.log2 < 9000) :
    Fs (k + 1) 3 [.cell 0, .int m] (pn ns a g :: L) = .ok (.int (g % m)) (pn ns a (g / m) :: L) := by
  simp [Fs, runF, entry, dSeq, dAsg, dIf, lft, bnd, Iv.ret, dOp, pureO, optE, dVar, dLit, dTru, truO, truM, valD, idxK, dctD, idxM, seqD, at0, at1, at2, L2.ixN, gtO, ltO, geO, modO, fdivO, addO, subO, mulO, powO, dBlt, oneO, Iv.intD, absD, dCons, dNil, gVar, gIxK, setKO, setLO, dRet, Iv.fin, closes, dNext, dLst, lenO, lenM, dAndT, b3, hg, hm, hl]
theorem plain_ints : ∀ ns : List Int, plainDs (ns.map .int) = true
  | [] => rfl
  | n :: ns => by
    show (plainD (.int n) && plainDs (ns.map .int)) = true
    rw [plain_ints ns]
    rfl
theorem dep_ints : ∀ ns : List Int, depDs (ns.map .int) = 0
  | [] => rfl
  | n :: ns => by
    show max (depD (.int n)) (depDs (ns.map .int)) = 0
    rw [dep_ints ns]
    rfl
theorem ne_nil (M : List D) (ns : List Int) : neO M (.lst (ns.map .int)) (.lst []) = some (.bl (!ns.isEmpty)) := by
  have h1 : plainD (.lst (ns.map D.int)) = true := plain_ints ns
  have h2 : depD (.lst (ns.map D.int)) = 1 := by show depDs (ns.map D.int) + 1 = 1; rw [dep_ints]
  have h3 : plainD (.lst []) = true := rfl
  have h4 : depD (.lst []) = 1 := rfl
  have h5 : eqv (.lst (ns.map D.int)) (.lst []) = ns.isEmpty := by cases ns <;> rfl
  simp only [neO, eqM, valD, h1, h2, h3, h4, h5]
  rfl
/-- the mixing -/
def mix1 (c a : Int) : Int := (c % 2147483587 + 71293 * a + 1453) ^ 5 % 2147483629
def mix2 (c a : Int) : Int := (mix1 c a * (2 * a + 1877) + 59083 * a * a + 71293) ^ 3 % 2147483563
theorem mix_fits {c a : Int} (h0 : 0 ≤ a) (h1 : a < 2 ^ 20) : (c % 2147483587 + 71293 * a + 1453).natAbs < 2 ^ 64 ∧ (mix1 c a * (2 * a + 1877) + 59083 * a * a + 71293).natAbs < 2 ^ 64 ∧ smallI a = true ∧ smallI (2 * a + 1877) = true := by
  have e1 : 0 ≤ c % 2147483587 := Int.emod_nonneg _ (by decide)
  have e2 : c % 2147483587 < 2147483587 := Int.emod_lt_of_pos _ (by decide)
  have e3 : 0 ≤ mix1 c a := Int.emod_nonneg _ (by decide)
  have e4 : mix1 c a < 2147483629 := Int.emod_lt_of_pos _ (by decide)
  have e5 : mix1 c a * (2 * a + 1877) ≤ 2147483629 * 2099029 := Int.mul_le_mul (by omega) (by omega) (by omega) (by decide)
  have e6 : 0 ≤ mix1 c a * (2 * a + 1877) := Int.mul_nonneg e3 (by omega)
  have e7 : 59083 * a * a ≤ (59083 * 1048576) * 1048576 := Int.mul_le_mul (by omega) (by omega) h0 (by decide)
  have e8 : 0 ≤ 59083 * a * a := Int.mul_nonneg (by omega) h0
  refine ⟨by omega, by omega, ?_, ?_⟩
  · unfold smallI; exact decide_eq_true ⟨by omega, by omega⟩
  · unfold smallI; exact decide_eq_true ⟨by omega, by omega⟩
theorem draw_n (k : Nat) (a m : Int) (L : List D) (h0 : 0 ≤ a) (h1 : a < 2 ^ 20) (hm : 0 < m) :
    Fs (k + 1) 3 [.cell 0, .int m] (pn [] a 0 :: L) = .ok (.int (mix2 (59083 * a + 1453) a / 64 % m)) (pn [] (a + 1) 0 :: L) := by
  obtain ⟨f1, f2, f3, f4⟩ := mix_fits (c := 59083 * a + 1453) h0 h1
  have q0 : ¬ a < 0 := by omega
  have z1 : smallI 59083 = true := by decide
  have z2 : smallI 71293 = true := by decide
  have z3 : smallI 2 = true := by decide
  have z4 : Nat.log2 64 < 9000 := by decide +kernel
  have nn : ∀ M, neO M (.lst []) (.lst []) = some (.bl false) := fun M => ne_nil M []
  unfold mix1 at f2
  simp [Fs, runF, entry, dSeq, dAsg, dIf, lft, bnd, Iv.ret, dOp, pureO, optE, dVar, dLit, dTru, truO, truM, valD, idxK, dctD, idxM, seqD, at0, at1, at2, L2.ixN, gtO, ltO, geO, modO, fdivO, addO, subO, mulO, powO, dBlt, oneO, Iv.intD, absD, dCons, dNil, gVar, gIxK, setKO, setLO, dRet, Iv.fin, closes, dNext, dLst, lenO, lenM, dAndT, b3, hm, nn, f1, f2, f3, f4, z1, z2, z3, z4, q0, mix2, mix1]
theorem draw_c (k : Nat) (ns : List Int) (a m c : Int) (L : List D) (hne : ns ≠ []) (h0 : 0 ≤ a) (h1 : a < 2 ^ 20) (hm : 0 < m) (hl : m.natAbs.log2 < 9000) (hc : L2.atI (ns.map D.int) (a % ns.length) = some (.int c)) :
    Fs (k + 1) 3 [.cell 0, .int m] (pn ns a 0 :: L) = if a < ns.length ∧ 1000000000000000000 ≤ (if c < 0 then -c else c) then .ok (.int ((2 * ((if c < 0 then -c else c) - 1000000000000000000) + if c < 0 then 1 else 0) % m)) (pn ns (a + 1) ((2 * ((if c < 0 then -c else c) - 1000000000000000000) + if c < 0 then 1 else 0) / m) :: L)
      else .ok (.int (mix2 c a / 64 % m)) (pn ns (a + 1) 0 :: L) := by
  obtain ⟨f1, f2, f3, f4⟩ := mix_fits (c := c) h0 h1
  have z1 : smallI 59083 = true := by decide
  have z2 : smallI 71293 = true := by decide
  have z3 : smallI 2 = true := by decide
  have z4 : Nat.log2 64 < 9000 := by decide +kernel
  have l0 : 0 < ns.length := List.length_pos_iff.mpr hne
  have l1 : (0 : Int) < ns.length := by omega
  have nn : ∀ M, neO M (.lst (ns.map .int)) (.lst []) = some (.bl true) := fun M => by
    rw [ne_nil]
    cases ns with
    | nil => exact absurd rfl hne
    | cons _ _ => rfl
  unfold mix1 at f2
  by_cases g1 : a < ns.length
  · by_cases g2 : 1000000000000000000 ≤ (if c < 0 then -c else c)
    · rw [if_pos ⟨g1, g2⟩]
      simp [Fs, runF, entry, dSeq, dAsg, dIf, lft, bnd, Iv.ret, dOp, pureO, optE, dVar, dLit, dTru, truO, truM, valD, idxK, dctD, idxM, seqD, at0, at1, at2, L2.ixN, gtO, ltO, geO, modO, fdivO, addO, subO, mulO, powO, dBlt, oneO, Iv.intD, absD, dCons, dNil, gVar, gIxK, setKO, setLO, dRet, Iv.fin, closes, dNext, dLst, lenO, lenM, dAndT, b3, hm, hl, nn, f1, f2, f3, f4, z1, z2, z3, z4, mix2, mix1, l0, l1, hc, g1, g2]
    · rw [if_neg (fun z => g2 z.2)]
      simp [Fs, runF, entry, dSeq, dAsg, dIf, lft, bnd, Iv.ret, dOp, pureO, optE, dVar, dLit, dTru, truO, truM, valD, idxK, dctD, idxM, seqD, at0, at1, at2, L2.ixN, gtO, ltO, geO, modO, fdivO, addO, subO, mulO, powO, dBlt, oneO, Iv.intD, absD, dCons, dNil, gVar, gIxK, setKO, setLO, dRet, Iv.fin, closes, dNext, dLst, lenO, lenM, dAndT, b3, hm, hl, nn, f1, f2, f3, f4, z1, z2, z3, z4, mix2, mix1, l0, l1, hc, g1, g2]
  · rw [if_neg (fun z => g1 z.1)]
    simp [Fs, runF, entry, dSeq, dAsg, dIf, lft, bnd, Iv.ret, dOp, pureO, optE, dVar, dLit, dTru, truO, truM, valD, idxK, dctD, idxM, seqD, at0, at1, at2, L2.ixN, gtO, ltO, geO, modO, fdivO, addO, subO, mulO, powO, dBlt, oneO, Iv.intD, absD, dCons, dNil, gVar, gIxK, setKO, setLO, dRet, Iv.fin, closes, dNext, dLst, lenO, lenM, dAndT, b3, hm, hl, nn, f1, f2, f3, f4, z1, z2, z3, z4, mix2, mix1, l0, l1, hc, g1]
end Lw
namespace Lw
open Iv
/-- the pen's numbers -/
structure Pk (a g : Int) (B : Int) : Prop where
  a0 : 0 ≤ a
  a1 : a ≤ B
  g0 : 0 ≤ g
theorem draw (k : Nat) (ns : List Int) (a g m B : Int) (L : List D) (p : Pk a g B) (hB : B < 2 ^ 20) (hm : 0 < m) (hl : m.natAbs.log2 < 9000) :
    ∃ v a' g', Fs (k + 1) 3 [.cell 0, .int m] (pn ns a g :: L) = .ok (.int v) (pn ns a' g' :: L) ∧ 0 ≤ v ∧ v < m ∧ Pk a' g' (B + 1) := by
  obtain ⟨h0, h1, h2⟩ := p
  have e0 : ∀ x : Int, 0 ≤ x % m := fun x => Int.emod_nonneg _ (by omega)
  have e1 : ∀ x : Int, x % m < m := fun x => Int.emod_lt_of_pos _ hm
  by_cases hg : 0 < g
  · exact ⟨_, _, _, draw_g k ns a g m L hg hm hl, e0 _, e1 _, h0, by omega, Int.ediv_nonneg h2 (by omega)⟩
  · obtain rfl : g = 0 := by omega
    by_cases hn : ns = []
    · subst hn
      exact ⟨_, _, _, draw_n k a m L h0 (by omega) hm, e0 _, e1 _, by omega, by omega, by omega⟩
    · have l1 : (0 : Int) < ns.length := by have := List.length_pos_iff.mpr hn; omega
      have r0 : 0 ≤ a % ns.length := Int.emod_nonneg _ (by omega)
      have r1 : a % ns.length < ns.length := Int.emod_lt_of_pos _ l1
      have r2 : (a % ns.length).toNat < ns.length := by omega
      have hc : L2.atI (ns.map D.int) (a % ns.length) = some (.int (ns[(a % ns.length).toNat])) := by
        unfold L2.atI L2.ixN
        rw [List.length_map, if_pos r0, if_pos r1]
        simp [List.getElem?_eq_getElem r2]
      generalize ns[(a % ns.length).toNat] = c at hc
      have e := draw_c k ns a m c L hn h0 (by omega) hm hl hc
      by_cases q : a < ns.length ∧ 1000000000000000000 ≤ (if c < 0 then -c else c)
      · rw [if_pos q] at e
        have q2 : (0 : Int) ≤ 2 * ((if c < 0 then -c else c) - 1000000000000000000) + if c < 0 then 1 else 0 := by
          have := q.2
          generalize (if c < 0 then -c else c) = u at this ⊢
          split <;> omega
        exact ⟨_, _, _, e, e0 _, e1 _, by omega, by omega, Int.ediv_nonneg q2 (by omega)⟩
      · rw [if_neg q] at e
        exact ⟨_, _, _, e, e0 _, e1 _, by omega, by omega, by omega⟩
/-- a choice of n things: which -/
def Draws (k : Nat) (ns : List Int) (n : Nat) (a g : Int) (B : Int) (L : List D) (Q : Nat → Int → Int → Prop) : Prop := ∃ i a' g', i < n ∧ Fs (k + 1) 3 [.cell 0, .int n] (pn ns a g :: L) = .ok (.int i) (pn ns a' g' :: L) ∧ Pk a' g' (B + 1) ∧ Q i a' g'
theorem drawN (k : Nat) (ns : List Int) (n : Nat) (a g B : Int) (L : List D) (p : Pk a g B) (hB : B < 2 ^ 20) (hn : 0 < n) (hl : n < 2 ^ 64) : ∃ (i : Nat) (a' g' : Int), i < n ∧ Fs (k + 1) 3 [.cell 0, .int n] (pn ns a g :: L) = .ok (.int i) (pn ns a' g' :: L) ∧ Pk a' g' (B + 1) := by
  obtain ⟨v, a', g', e, v0, v1, p'⟩ := draw k ns a g n B L p hB (by omega) (by
    have : (n : Int).natAbs = n := by omega
    rw [this]
    have h2 : n.log2 < 64 := (Nat.log2_lt (by omega)).mpr hl
    omega)
  refine ⟨v.toNat, a', g', by omega, ?_, p'⟩
  rw [e, Int.toNat_of_nonneg v0]
theorem pick_lst (k : Nat) (ns : List Int) (ds : List D) (a g B : Int) (L : List D) (p : Pk a g B) (hB : B < 2 ^ 20) (hn : ds ≠ []) (hl : ds.length < 2 ^ 60) :
    ∃ d a' g', d ∈ ds ∧ Fs (k + 2) 4 [.cell 0, .lst ds] (pn ns a g :: L) = .ok d (pn ns a' g' :: L) ∧ Pk a' g' (B + 1) := by
  obtain ⟨i, a', g', hi, e, p'⟩ := drawN k ns ds.length a g B L p hB (List.length_pos_iff.mpr hn) (by omega)
  have ei : L2.atI ds i = some ds[i] := by
    unfold L2.atI L2.ixN
    rw [if_pos (by omega), if_pos (by omega)]
    simp [List.getElem?_eq_getElem hi]
  refine ⟨ds[i], a', g', List.getElem_mem hi, ?_, p'⟩
  show runF false 2 (b4 (Fs (k + 1))) _ _ = _
  simp [runF, entry, b4, dRet, lft, dOp, pureO, bnd, Iv.ret, dCall, dCons, dNil, dVar, dBlt, lenO, lenM, valD, seqD, optE, e, idxK, dctD, idxM, ei, Iv.fin, closes]
end Lw
namespace Lw
open Iv
/-! ### steps -/
section
variable {a b : DS} {c : DT} {e e2 : DE} {g : DG} {as : DA} {δ δ' : DEnv} {M M' M2 : List D} {d x y : D} {ds : List D}
theorem seq_nx (h : a δ M = .ok (.nx δ') M') : dSeq a b δ M = b δ' M' := by unfold dSeq bnd; rw [h]
theorem seq_rt (h : a δ M = .ok (.rt d) M') : dSeq a b δ M = .ok (.rt d) M' := by unfold dSeq bnd; rw [h]; rfl
theorem if_t (h : c δ M = .ok true M') : dIf c a b δ M = a δ M' := by unfold dIf lft; rw [h]; rfl
theorem if_f (h : c δ M = .ok false M') : dIf c a b δ M = b δ M' := by unfold dIf lft; rw [h]; rfl
theorem ret_ok (h : e δ M = .ok d M') : dRet e δ M = .ok (.rt d) M' := by unfold dRet lft; rw [h]; rfl
theorem asg_ok (h : e δ M = .ok d M') (hg : g d δ M' = .ok δ' M2) : dAsg e g δ M = .ok (.nx δ') M2 := by unfold dAsg lft; rw [h]; dsimp only; rw [hg]; rfl
theorem drop_ok (h : e δ M = .ok d M') : dDrop e δ M = .ok (.nx δ) M' := by unfold dDrop lft; rw [h]; rfl
theorem blt_ok {G : List D → Ev D} (h : as δ M = .ok ds M') : dBlt G as δ M = G ds M' := by unfold dBlt bnd; rw [h]
theorem cons_ok (h : e δ M = .ok d M') (h2 : as δ M' = .ok ds M2) : dCons e as δ M = .ok (d :: ds) M2 := by unfold dCons bnd; rw [h]; dsimp only; rw [h2]; rfl
theorem op_ok {G : D → D → Ev D} (h : e δ M = .ok x M') (h2 : e2 δ M' = .ok y M2) : dOp G e e2 δ M = G x y M2 := by unfold dOp bnd; rw [h]; dsimp only; rw [h2]
theorem call_ok {n : Nat} {G : List D → Ev D} (h : as δ M = .ok ds M') (hl : ds.length + ([] : List D).length = n) : dCall n [] G as δ M = G ds M' := by unfold dCall bnd; rw [h]; dsimp only; rw [if_pos hl, List.append_nil]
theorem tru_ok {G : D → Ev Bool} (h : e δ M = .ok x M') : dTru G e δ M = G x M' := by unfold dTru bnd; rw [h]
theorem run_rt {m : DS} {n : Nat} (h : m (entry n ds) M = .ok (.rt d) M) : runF false n m ds M = .ok d M := by
  unfold runF
  rw [h]
  simp [Iv.fin, closes]
theorem run_rtK {m : DS} {n : Nat} {M1 : List D} (h : m (entry n ds) M = .ok (.rt d) M1) (hl : M1.length = M.length) : runF false n m ds M = .ok d M1 := by
  unfold runF
  rw [h]
  simp [Iv.fin, closes, hl]
end
/-! ### comprehensions that change nothing -/
section
variable {g : DG} {tt : DT} {te : DE} {δ : DEnv} {M : List D} {z : Src} {ds : List D}
theorem lcs_pure (p : D → Bool) (f : D → D) (hl : z.len = ds.length) (hg : ∀ i : Nat, z.get M i = ds[i]?) (hf : z.fin M = true) (ho : z.out M = M)
    (hs : ∀ d ∈ ds, ∃ δ1, g d δ M = .ok δ1 M ∧ tt δ1 M = .ok (p d) M ∧ (p d = true → te δ1 M = .ok (f d) M)) : ∀ (n i : Nat), i + n = ds.length → lcs z g tt te δ n i M = .ok (((ds.drop i).filter p).map f) M
  | 0, i, h => by
    show (if z.fin M then R.ok [] (z.out M) else .stk) = _
    rw [hf, ho, if_pos rfl, List.drop_eq_nil_of_le (by omega)]
    rfl
  | n + 1, i, h => by
    have hi : i < ds.length := by omega
    unfold lcs
    rw [hg i, List.getElem?_eq_getElem hi]
    dsimp only
    obtain ⟨δ1, h1, h2, h3⟩ := hs ds[i] (List.getElem_mem hi)
    have ih := lcs_pure p f hl hg hf ho hs n (i + 1) (by omega)
    rw [List.drop_eq_getElem_cons hi]
    unfold bnd
    rw [h1]
    dsimp only
    rw [h2]
    dsimp only
    cases hp : p ds[i] with
    | false =>
      rw [if_neg (by simp), ih, List.filter_cons_of_neg (by simp [hp])]
    | true =>
      rw [if_pos rfl, h3 hp]
      dsimp only
      rw [ih, List.filter_cons_of_pos hp]
      rfl
theorem lc_pure (p : D → Bool) (f : D → D) {it : DI} {vs : List Nat} {M0 : List D} (hi : it δ M0 = .ok z M) (hl : z.len = ds.length) (hz : ds.length ≤ PySem.sizeLine) (hg : ∀ i : Nat, z.get M i = ds[i]?) (hf : z.fin M = true) (ho : z.out M = M)
    (hs : ∀ d ∈ ds, ∃ δ1, g d (wipeD δ vs) M = .ok δ1 M ∧ tt δ1 M = .ok (p d) M ∧ (p d = true → te δ1 M = .ok (f d) M)) : dLc it g tt te vs δ M0 = .ok (.lst ((ds.filter p).map f)) M := by
  unfold dLc noX bnd
  rw [hi]
  dsimp only
  rw [if_pos (by omega), hl, lcs_pure p f hl hg hf ho hs ds.length 0 (Nat.zero_add _)]
  rfl
/-- over a list's items, all of them -/
theorem lc_map (f : D → D) {it : DI} {i : Nat} (hi : it δ M = .ok (.vals ds) M) (hz : ds.length ≤ PySem.sizeLine) (hs : ∀ d ∈ ds, te ((wipeD δ [i]).set i (some d)) M = .ok (f d) M) : dLc it (gVar i) dYes te [i] δ M = .ok (.lst (ds.map f)) M := by
  have h := lc_pure (g := gVar i) (tt := dYes) (te := te) (δ := δ) (vs := [i]) (fun _ => true) f hi rfl hz (fun _ => rfl) rfl rfl fun d hd => ⟨_, rfl, rfl, fun _ => hs d hd⟩
  rw [List.filter_eq_self.mpr (fun _ _ => rfl)] at h
  exact h
end
/-! ### values as parts -/
def gK (ks ws : List D) (k : D) : D := match keyD k with
  | some q => (getK q ks ws).getD .non
  | none => .non
def prs (ss ks ws : List D) : List D := ss.map fun k => .tup [k, gK ks ws k]
mutual
/-- what a value is as a part -/
def fx : D → D
  | .lst xs => .tup (fxs xs)
  | .tup xs => .tup (fxs xs)
  | .dct ks vs => .tup (prs (isort leD ks) ks (fxs vs))
  | d => d
def fxs : List D → List D
  | [] => []
  | x :: xs => fx x :: fxs xs
end
theorem fxs_map : ∀ xs : List D, fxs xs = xs.map fx
  | [] => rfl
  | x :: xs => by rw [fxs, fxs_map xs]; rfl
mutual
/-- tuples and plain things alone -/
def tupO : D → Bool
  | .non | .bl _ | .int _ | .str _ => true
  | .tup xs => Nat.ble xs.length 100 && tupOs xs
  | _ => false
def tupOs : List D → Bool
  | [] => true
  | x :: xs => tupO x && tupOs xs
end
theorem tupOs_all : ∀ {xs : List D}, tupOs xs = true ↔ ∀ x ∈ xs, tupO x = true
  | [] => by simp [tupOs]
  | x :: xs => by simp [tupOs, tupOs_all (xs := xs)]
mutual
theorem tupO_plain : ∀ {w : D}, tupO w = true → plainD w = true
  | .non, _ => rfl
  | .bl _, _ => rfl
  | .int _, _ => rfl
  | .str _, _ => rfl
  | .tup xs, h => tupOs_plain (xs := xs) (He.ba h).2
theorem tupOs_plain : ∀ {xs : List D}, tupOs xs = true → plainDs xs = true
  | [], _ => rfl
  | x :: xs, h => by
    obtain ⟨h1, h2⟩ := Bool.and_eq_true_iff.mp h
    show (plainD x && plainDs xs) = true
    rw [tupO_plain h1, tupOs_plain h2]
    rfl
end
mutual
theorem tupO_low (n : Nat) : ∀ {w : D}, tupO w = true → low n w = true
  | .non, _ => rfl
  | .bl _, _ => rfl
  | .int _, _ => rfl
  | .str _, _ => rfl
  | .tup xs, h => tupOs_low n (xs := xs) (He.ba h).2
theorem tupOs_low (n : Nat) : ∀ {xs : List D}, tupOs xs = true → lows n xs = true
  | [], _ => rfl
  | x :: xs, h => by
    obtain ⟨h1, h2⟩ := Bool.and_eq_true_iff.mp h
    show (low n x && lows n xs) = true
    rw [tupO_low n h1, tupOs_low n h2]
    rfl
end
mutual
theorem tupO_fx : ∀ {w : D}, tupO w = true → fx w = w
  | .non, _ => rfl
  | .bl _, _ => rfl
  | .int _, _ => rfl
  | .str _, _ => rfl
  | .tup xs, h => by rw [fx, tupOs_fx (xs := xs) (He.ba h).2]
theorem tupOs_fx : ∀ {xs : List D}, tupOs xs = true → fxs xs = xs
  | [], _ => rfl
  | x :: xs, h => by
    obtain ⟨h1, h2⟩ := Bool.and_eq_true_iff.mp h
    rw [fxs, tupO_fx h1, tupOs_fx h2]
end
/-! ### how long their texts are -/
mutual
def szD : D → Nat
  | .tup xs => szDs xs + 2
  | d => (encD d).shown.length
def szDs : List D → Nat
  | [] => 0
  | x :: xs => szD x + 2 + szDs xs
end
open PySem in
theorem tupleText_le (ts : List Str) : (tupleText ts).length ≤ (ts.map fun t => t.length + 2).sum + 2 := by
  cases ts with
  | nil => decide
  | cons t ts =>
    have h := join_length_add (t :: ts) (by simp)
    unfold piled at h
    have e : ((if (t :: ts).length == 1 then ",)" else ")" : String) : Str).length ≤ 2 := by split <;> decide
    unfold tupleText
    rw [Str.length_append, Str.length_append]
    have e2 : (("(" : Str)).length = 1 := by decide
    omega
mutual
theorem tupO_py : ∀ {w : D}, tupO w = true → ∃ y, pyV w = some y ∧ y.shown.length ≤ szD w ∧ y.depth ≤ depD w
  | .non, _ => ⟨_, rfl, Nat.le_refl _, Nat.le_refl _⟩
  | .bl _, _ => ⟨_, rfl, Nat.le_refl _, Nat.le_refl _⟩
  | .int _, _ => ⟨_, rfl, Nat.le_refl _, Nat.le_refl _⟩
  | .str _, _ => ⟨_, rfl, Nat.le_refl _, Nat.le_refl _⟩
  | .tup xs, h => by
    obtain ⟨ys, e, e2, e3⟩ := tupOs_py (xs := xs) (He.ba h).2
    refine ⟨.tuple ys, by simp [pyV, e], ?_, ?_⟩
    · show (PySem.tupleText (PySem.PyData.shownAll ys)).length ≤ _
      exact Nat.le_trans (tupleText_le _) (by rw [szD]; omega)
    · simp only [PySem.PyData.depth, depD]; omega
theorem tupOs_py : ∀ {xs : List D}, tupOs xs = true → ∃ ys, pyVs xs = some ys ∧ ((PySem.PyData.shownAll ys).map fun t => t.length + 2).sum ≤ szDs xs ∧ PySem.PyData.depthAll ys ≤ depDs xs
  | [], _ => ⟨[], rfl, Nat.le_refl _, Nat.le_refl _⟩
  | x :: xs, h => by
    obtain ⟨h1, h2⟩ := Bool.and_eq_true_iff.mp h
    obtain ⟨y, e1, f1, g1⟩ := tupO_py h1
    obtain ⟨ys, e2, f2, g2⟩ := tupOs_py h2
    refine ⟨y :: ys, by simp [pyVs, e1, e2], ?_, ?_⟩
    · show (((y.shown :: PySem.PyData.shownAll ys).map fun t => t.length + 2)).sum ≤ _
      rw [List.map_cons, List.sum_cons, szDs]; omega
    · simp only [PySem.PyData.depthAll, depDs]; omega
end
mutual
/-- ints that can be shown -/
def shwD : D → Bool
  | .int i => decide (i.natAbs.log2 < 1920)
  | .tup xs => shwDs xs
  | _ => true
def shwDs : List D → Bool
  | [] => true
  | x :: xs => shwD x && shwDs xs
end
mutual
theorem shw_py : ∀ {w : D} {y : PySem.PyData}, tupO w = true → shwD w = true → pyV w = some y → y.showable = true
  | .non, y, _, _, e => by cases e; rfl
  | .bl _, y, _, _, e => by cases e; rfl
  | .int _, y, _, h, e => by cases e; exact h
  | .str _, y, _, _, e => by cases e; rfl
  | .tup xs, y, h0, h, e => by
    obtain ⟨ys, e1, rfl⟩ := Option.map_eq_some_iff.mp (show (pyVs xs).map PySem.PyData.tuple = some y from e)
    exact shws_py (xs := xs) (He.ba h0).2 h e1
theorem shws_py : ∀ {xs : List D} {ys : List PySem.PyData}, tupOs xs = true → shwDs xs = true → pyVs xs = some ys → PySem.PyData.showableAll ys = true
  | [], ys, _, _, e => by cases e; rfl
  | x :: xs, ys, h0, h, e => by
    obtain ⟨h1, h2⟩ := Bool.and_eq_true_iff.mp h
    obtain ⟨z1, z2⟩ := Bool.and_eq_true_iff.mp h0
    obtain ⟨y, e1, _⟩ := tupO_py z1
    obtain ⟨ys', e2, _⟩ := tupOs_py z2
    simp only [pyVs, e1, e2, Option.some.injEq] at e
    subst e
    show (y.showable && PySem.PyData.showableAll ys') = true
    rw [shw_py z1 h1 e1, shws_py z2 h2 e2]
    rfl
end
/-- repr of such data is a text -/
theorem repr_ok {w : D} (h : tupO w = true) (hs : shwD w = true) (hd : depD w ≤ 16) (hz : szD w ≤ PySem.sizeLine) : ∃ s, reprV 16 w = some (.str s) := by
  obtain ⟨y, e, f, g⟩ := tupO_py h
  have sh := shw_py h hs e
  cases w with
  | non => exact ⟨_, rfl⟩
  | bl b => exact ⟨_, rfl⟩
  | int i =>
    have : i.natAbs.log2 < 1920 := of_decide_eq_true hs
    refine ⟨toString i, ?_⟩
    show (if i.natAbs.log2 < 1920 then some (D.str (toString i)) else none) = _
    rw [if_pos this]
  | str x =>
    cases e
    have : (PySem.reprText x).length ≤ PySem.sizeLine := Nat.le_trans f hz
    refine ⟨PySem.reprText x, ?_⟩
    show (if (PySem.reprText x).length ≤ PySem.sizeLine then some (D.str (PySem.reprText x)) else none) = _
    rw [if_pos this]
  | tup xs =>
    refine ⟨y.shown, ?_⟩
    show shownV 16 (.tup xs) = _
    unfold shownV
    rw [e]
    dsimp only
    rw [if_pos ⟨sh, by omega, by omega⟩]
  | _ => cases h
end Lw
namespace Lw
open Iv
/-! ### the keys that are drawn -/
def keyB (k : D) : Bool := tupO k && (shwD k && (leafD k && (Nat.ble (szD k) 8 && (keyD k).isSome)))
def lookD (k : D) (ks vs : List D) : Option D := match keyD k with
  | some q => getK q ks vs
  | none => none
/-- what a run needs of keys: ss in their order, ix where they stand -/
structure Ky (ks ss : List D) (ix : List Nat) : Prop where
  srt : isort leD ks = ss
  f0 : ∀ (k : Nat) (vs M : List D), Fs (k + 1) 0 [.dct ks vs] M = .ok (.lst ss) M
  sl : ss.length = ks.length
  il : ix.length = ks.length
  le : ks.length ≤ 3
  il2 : ix.all (fun i => Nat.blt i ks.length) = true
  kb : ss.all keyB = true
  mn : (List.range ks.length).map (fun i => minM [] (.lst (ks.filter fun k => !anyEq k (ss.take i)))) = ss.map some
  gk : ∀ vs : List D, vs.length = ks.length → ss.map (fun k => lookD k ks vs) = ix.map (fun i => vs[i]?)
theorem ky_f0 (ks ss : List D) (h : ∀ (k : Nat) (vs M : List D), b0 (Fs k) [some (.dct ks vs), none] M = .ok (.rt (.lst ss)) M) : ∀ (k : Nat) (vs M : List D), Fs (k + 1) 0 [.dct ks vs] M = .ok (.lst ss) M := fun k vs M => run_rt (h k vs M)
def Kys (ks : List D) : Prop := ∃ ss ix, Ky ks ss ix
theorem ky0 : Kys [] := ⟨[], [], by kernel_rfl, ky_f0 _ _ (fun k vs M => by kernel_rfl), rfl, rfl, by decide, by decide, by decide +kernel, by kernel_rfl, fun vs hl => match vs, hl with | [], _ => by kernel_rfl⟩
theorem ky1 : Kys [.str "u"] := ⟨[.str "u"], [0], by kernel_rfl, ky_f0 _ _ (fun k vs M => by kernel_rfl), rfl, rfl, by decide, by decide, by decide +kernel, by kernel_rfl, fun vs hl => match vs, hl with | [_], _ => by kernel_rfl⟩
theorem ky2 : Kys [.str "u", .str "a"] := ⟨[.str "a", .str "u"], [1, 0], by kernel_rfl, ky_f0 _ _ (fun k vs M => by kernel_rfl), rfl, rfl, by decide, by decide, by decide +kernel, by kernel_rfl, fun vs hl => match vs, hl with | [_, _], _ => by kernel_rfl⟩
theorem ky3 : Kys [.str "u", .str "a", .str "u.said"] := ⟨[.str "a", .str "u", .str "u.said"], [1, 0, 2], by kernel_rfl, ky_f0 _ _ (fun k vs M => by kernel_rfl), rfl, rfl, by decide, by decide, by decide +kernel, by kernel_rfl, fun vs hl => match vs, hl with | [_, _, _], _ => by kernel_rfl⟩
theorem ky4 : Kys [.str "a"] := ⟨[.str "a"], [0], by kernel_rfl, ky_f0 _ _ (fun k vs M => by kernel_rfl), rfl, rfl, by decide, by decide, by decide +kernel, by kernel_rfl, fun vs hl => match vs, hl with | [_], _ => by kernel_rfl⟩
theorem ky5 : Kys [.str "a", .str "u.said"] := ⟨[.str "a", .str "u.said"], [0, 1], by kernel_rfl, ky_f0 _ _ (fun k vs M => by kernel_rfl), rfl, rfl, by decide, by decide, by decide +kernel, by kernel_rfl, fun vs hl => match vs, hl with | [_, _], _ => by kernel_rfl⟩
theorem ky6 : Kys [.str "a", .str "u.said", .str "b10"] := ⟨[.str "a", .str "b10", .str "u.said"], [0, 2, 1], by kernel_rfl, ky_f0 _ _ (fun k vs M => by kernel_rfl), rfl, rfl, by decide, by decide, by decide +kernel, by kernel_rfl, fun vs hl => match vs, hl with | [_, _, _], _ => by kernel_rfl⟩
theorem ky7 : Kys [.str "u.said"] := ⟨[.str "u.said"], [0], by kernel_rfl, ky_f0 _ _ (fun k vs M => by kernel_rfl), rfl, rfl, by decide, by decide, by decide +kernel, by kernel_rfl, fun vs hl => match vs, hl with | [_], _ => by kernel_rfl⟩
theorem ky8 : Kys [.str "u.said", .str "b10"] := ⟨[.str "b10", .str "u.said"], [1, 0], by kernel_rfl, ky_f0 _ _ (fun k vs M => by kernel_rfl), rfl, rfl, by decide, by decide, by decide +kernel, by kernel_rfl, fun vs hl => match vs, hl with | [_, _], _ => by kernel_rfl⟩
theorem ky9 : Kys [.str "u.said", .str "b10", .str "b9"] := ⟨[.str "b10", .str "b9", .str "u.said"], [1, 2, 0], by kernel_rfl, ky_f0 _ _ (fun k vs M => by kernel_rfl), rfl, rfl, by decide, by decide, by decide +kernel, by kernel_rfl, fun vs hl => match vs, hl with | [_, _, _], _ => by kernel_rfl⟩
theorem ky10 : Kys [.str "b10"] := ⟨[.str "b10"], [0], by kernel_rfl, ky_f0 _ _ (fun k vs M => by kernel_rfl), rfl, rfl, by decide, by decide, by decide +kernel, by kernel_rfl, fun vs hl => match vs, hl with | [_], _ => by kernel_rfl⟩
theorem ky11 : Kys [.str "b10", .str "b9"] := ⟨[.str "b10", .str "b9"], [0, 1], by kernel_rfl, ky_f0 _ _ (fun k vs M => by kernel_rfl), rfl, rfl, by decide, by decide, by decide +kernel, by kernel_rfl, fun vs hl => match vs, hl with | [_, _], _ => by kernel_rfl⟩
theorem ky12 : Kys [.str "b10", .str "b9", .str "u"] := ⟨[.str "b10", .str "b9", .str "u"], [0, 1, 2], by kernel_rfl, ky_f0 _ _ (fun k vs M => by kernel_rfl), rfl, rfl, by decide, by decide, by decide +kernel, by kernel_rfl, fun vs hl => match vs, hl with | [_, _, _], _ => by kernel_rfl⟩
theorem ky13 : Kys [.str "b9"] := ⟨[.str "b9"], [0], by kernel_rfl, ky_f0 _ _ (fun k vs M => by kernel_rfl), rfl, rfl, by decide, by decide, by decide +kernel, by kernel_rfl, fun vs hl => match vs, hl with | [_], _ => by kernel_rfl⟩
theorem ky14 : Kys [.str "b9", .str "u"] := ⟨[.str "b9", .str "u"], [0, 1], by kernel_rfl, ky_f0 _ _ (fun k vs M => by kernel_rfl), rfl, rfl, by decide, by decide, by decide +kernel, by kernel_rfl, fun vs hl => match vs, hl with | [_, _], _ => by kernel_rfl⟩
theorem ky15 : Kys [.str "b9", .str "u", .str "a"] := ⟨[.str "a", .str "b9", .str "u"], [2, 0, 1], by kernel_rfl, ky_f0 _ _ (fun k vs M => by kernel_rfl), rfl, rfl, by decide, by decide, by decide +kernel, by kernel_rfl, fun vs hl => match vs, hl with | [_, _, _], _ => by kernel_rfl⟩
theorem ky16 : Kys [.int 10] := ⟨[.int 10], [0], by kernel_rfl, ky_f0 _ _ (fun k vs M => by kernel_rfl), rfl, rfl, by decide, by decide, by decide +kernel, by kernel_rfl, fun vs hl => match vs, hl with | [_], _ => by kernel_rfl⟩
theorem ky17 : Kys [.int 10, .int (-2)] := ⟨[.int (-2), .int 10], [1, 0], by kernel_rfl, ky_f0 _ _ (fun k vs M => by kernel_rfl), rfl, rfl, by decide, by decide, by decide +kernel, by kernel_rfl, fun vs hl => match vs, hl with | [_, _], _ => by kernel_rfl⟩
theorem ky18 : Kys [.int 10, .int (-2), .int 9] := ⟨[.int (-2), .int 9, .int 10], [1, 2, 0], by kernel_rfl, ky_f0 _ _ (fun k vs M => by kernel_rfl), rfl, rfl, by decide, by decide, by decide +kernel, by kernel_rfl, fun vs hl => match vs, hl with | [_, _, _], _ => by kernel_rfl⟩
theorem ky19 : Kys [.int (-2)] := ⟨[.int (-2)], [0], by kernel_rfl, ky_f0 _ _ (fun k vs M => by kernel_rfl), rfl, rfl, by decide, by decide, by decide +kernel, by kernel_rfl, fun vs hl => match vs, hl with | [_], _ => by kernel_rfl⟩
theorem ky20 : Kys [.int (-2), .int 9] := ⟨[.int (-2), .int 9], [0, 1], by kernel_rfl, ky_f0 _ _ (fun k vs M => by kernel_rfl), rfl, rfl, by decide, by decide, by decide +kernel, by kernel_rfl, fun vs hl => match vs, hl with | [_, _], _ => by kernel_rfl⟩
theorem ky21 : Kys [.int (-2), .int 9, .int 0] := ⟨[.int (-2), .int 0, .int 9], [0, 2, 1], by kernel_rfl, ky_f0 _ _ (fun k vs M => by kernel_rfl), rfl, rfl, by decide, by decide, by decide +kernel, by kernel_rfl, fun vs hl => match vs, hl with | [_, _, _], _ => by kernel_rfl⟩
theorem ky22 : Kys [.int 9] := ⟨[.int 9], [0], by kernel_rfl, ky_f0 _ _ (fun k vs M => by kernel_rfl), rfl, rfl, by decide, by decide, by decide +kernel, by kernel_rfl, fun vs hl => match vs, hl with | [_], _ => by kernel_rfl⟩
theorem ky23 : Kys [.int 9, .int 0] := ⟨[.int 0, .int 9], [1, 0], by kernel_rfl, ky_f0 _ _ (fun k vs M => by kernel_rfl), rfl, rfl, by decide, by decide, by decide +kernel, by kernel_rfl, fun vs hl => match vs, hl with | [_, _], _ => by kernel_rfl⟩
theorem ky24 : Kys [.int 9, .int 0, .int 100] := ⟨[.int 0, .int 9, .int 100], [1, 0, 2], by kernel_rfl, ky_f0 _ _ (fun k vs M => by kernel_rfl), rfl, rfl, by decide, by decide, by decide +kernel, by kernel_rfl, fun vs hl => match vs, hl with | [_, _, _], _ => by kernel_rfl⟩
theorem ky25 : Kys [.int 0] := ⟨[.int 0], [0], by kernel_rfl, ky_f0 _ _ (fun k vs M => by kernel_rfl), rfl, rfl, by decide, by decide, by decide +kernel, by kernel_rfl, fun vs hl => match vs, hl with | [_], _ => by kernel_rfl⟩
theorem ky26 : Kys [.int 0, .int 100] := ⟨[.int 0, .int 100], [0, 1], by kernel_rfl, ky_f0 _ _ (fun k vs M => by kernel_rfl), rfl, rfl, by decide, by decide, by decide +kernel, by kernel_rfl, fun vs hl => match vs, hl with | [_, _], _ => by kernel_rfl⟩
theorem ky27 : Kys [.int 0, .int 100, .int 10] := ⟨[.int 0, .int 10, .int 100], [0, 2, 1], by kernel_rfl, ky_f0 _ _ (fun k vs M => by kernel_rfl), rfl, rfl, by decide, by decide, by decide +kernel, by kernel_rfl, fun vs hl => match vs, hl with | [_, _, _], _ => by kernel_rfl⟩
theorem ky28 : Kys [.int 100] := ⟨[.int 100], [0], by kernel_rfl, ky_f0 _ _ (fun k vs M => by kernel_rfl), rfl, rfl, by decide, by decide, by decide +kernel, by kernel_rfl, fun vs hl => match vs, hl with | [_], _ => by kernel_rfl⟩
theorem ky29 : Kys [.int 100, .int 10] := ⟨[.int 10, .int 100], [1, 0], by kernel_rfl, ky_f0 _ _ (fun k vs M => by kernel_rfl), rfl, rfl, by decide, by decide, by decide +kernel, by kernel_rfl, fun vs hl => match vs, hl with | [_, _], _ => by kernel_rfl⟩
theorem ky30 : Kys [.int 100, .int 10, .int (-2)] := ⟨[.int (-2), .int 10, .int 100], [2, 1, 0], by kernel_rfl, ky_f0 _ _ (fun k vs M => by kernel_rfl), rfl, rfl, by decide, by decide, by decide +kernel, by kernel_rfl, fun vs hl => match vs, hl with | [_, _, _], _ => by kernel_rfl⟩
theorem ky31 : Kys [.str "u", .str "a", .str "b"] := ⟨[.str "a", .str "b", .str "u"], [1, 2, 0], by kernel_rfl, ky_f0 _ _ (fun k vs M => by kernel_rfl), rfl, rfl, by decide, by decide, by decide +kernel, by kernel_rfl, fun vs hl => match vs, hl with | [_, _, _], _ => by kernel_rfl⟩
theorem ky32 : Kys [.str "a", .str "u"] := ⟨[.str "a", .str "u"], [0, 1], by kernel_rfl, ky_f0 _ _ (fun k vs M => by kernel_rfl), rfl, rfl, by decide, by decide, by decide +kernel, by kernel_rfl, fun vs hl => match vs, hl with | [_, _], _ => by kernel_rfl⟩
theorem ky33 : Kys [.str "v", .str "u"] := ⟨[.str "u", .str "v"], [1, 0], by kernel_rfl, ky_f0 _ _ (fun k vs M => by kernel_rfl), rfl, rfl, by decide, by decide, by decide +kernel, by kernel_rfl, fun vs hl => match vs, hl with | [_, _], _ => by kernel_rfl⟩
theorem ky34 : Kys [.int 2] := ⟨[.int 2], [0], by kernel_rfl, ky_f0 _ _ (fun k vs M => by kernel_rfl), rfl, rfl, by decide, by decide, by decide +kernel, by kernel_rfl, fun vs hl => match vs, hl with | [_], _ => by kernel_rfl⟩
/-- the turned lists, cut -/
def kyS : List D := [.str "u", .str "a", .str "u.said", .str "b10", .str "b9"]
def kyI : List D := [.int 10, .int (-2), .int 9, .int 0, .int 100]
theorem kyS_ok : ∀ t n, t < 5 → n < 4 → Kys ((kyS.drop t ++ kyS.take t).take n)
  | 0, 0, _, _ => ky0
  | 0, 1, _, _ => ky1
  | 0, 2, _, _ => ky2
  | 0, 3, _, _ => ky3
  | 1, 0, _, _ => ky0
  | 1, 1, _, _ => ky4
  | 1, 2, _, _ => ky5
  | 1, 3, _, _ => ky6
  | 2, 0, _, _ => ky0
  | 2, 1, _, _ => ky7
  | 2, 2, _, _ => ky8
  | 2, 3, _, _ => ky9
  | 3, 0, _, _ => ky0
  | 3, 1, _, _ => ky10
  | 3, 2, _, _ => ky11
  | 3, 3, _, _ => ky12
  | 4, 0, _, _ => ky0
  | 4, 1, _, _ => ky13
  | 4, 2, _, _ => ky14
  | 4, 3, _, _ => ky15
  | t + 5, _, h, _ => absurd h (by omega)
  | _, n + 4, _, h => absurd h (by omega)
theorem kyI_ok : ∀ t n, t < 5 → n < 4 → Kys ((kyI.drop t ++ kyI.take t).take n)
  | 0, 0, _, _ => ky0
  | 0, 1, _, _ => ky16
  | 0, 2, _, _ => ky17
  | 0, 3, _, _ => ky18
  | 1, 0, _, _ => ky0
  | 1, 1, _, _ => ky19
  | 1, 2, _, _ => ky20
  | 1, 3, _, _ => ky21
  | 2, 0, _, _ => ky0
  | 2, 1, _, _ => ky22
  | 2, 2, _, _ => ky23
  | 2, 3, _, _ => ky24
  | 3, 0, _, _ => ky0
  | 3, 1, _, _ => ky25
  | 3, 2, _, _ => ky26
  | 3, 3, _, _ => ky27
  | 4, 0, _, _ => ky0
  | 4, 1, _, _ => ky28
  | 4, 2, _, _ => ky29
  | 4, 3, _, _ => ky30
  | t + 5, _, h, _ => absurd h (by omega)
  | _, n + 4, _, h => absurd h (by omega)
theorem ky_a : Kys [.str "u", .str "a", .str "b"] := ky31
theorem ky_b : Kys [.str "a", .str "u"] := ky32
theorem ky_c : Kys [.str "u", .str "a"] := ky2
theorem ky_d : Kys [.str "v", .str "u"] := ky33
theorem ky_e : Kys [.int 2] := ky34
end Lw
namespace Lw
open Iv
/-- values, nested at most d deep -/
inductive Vw : Nat → D → Prop
  | leaf {d : Nat} {x : D} : leafD x = true → shwD x = true → szD x ≤ 42 → Vw d x
  | lst {d : Nat} {xs : List D} : xs.length ≤ 3 → (∀ x ∈ xs, Vw d x) → Vw (d + 1) (.lst xs)
  | tup {d : Nat} {xs : List D} : xs.length ≤ 3 → (∀ x ∈ xs, Vw d x) → Vw (d + 1) (.tup xs)
  | dct {d : Nat} {ks vs : List D} : Kys ks → vs.length = ks.length → (∀ x ∈ vs, Vw d x) → Vw (d + 1) (.dct ks vs)
theorem getK_map (f : D → D) (q : L2.Key) : ∀ ks vs : List D, getK q ks (vs.map f) = (getK q ks vs).map f
  | [], _ => rfl
  | _ :: _, [] => rfl
  | k :: ks, v :: vs => by
    rw [List.map_cons]
    unfold getK
    by_cases h : keyD k = some q
    · rw [if_pos h, if_pos h]; rfl
    · rw [if_neg h, if_neg h, getK_map f q ks vs]
theorem gK_look (ks ws : List D) (k : D) : gK ks ws k = (lookD k ks ws).getD .non := by
  unfold gK lookD
  cases keyD k <;> rfl
theorem lookD_map (f : D → D) (k : D) (ks vs : List D) : lookD k ks (vs.map f) = (lookD k ks vs).map f := by
  unfold lookD
  cases keyD k with
  | none => rfl
  | some q => exact getK_map f q ks vs
/-- each key stands for one of the values -/
theorem ky_at {ks ss : List D} {ix : List Nat} (K : Ky ks ss ix) {vs : List D} (hl : vs.length = ks.length) {k : D} (hk : k ∈ ss) : ∃ x ∈ vs, lookD k ks vs = some x := by
  obtain ⟨j, hj, e⟩ := List.getElem_of_mem hk
  have g := congrArg (fun l => l[j]?) (K.gk vs hl)
  have hi : j < ix.length := by rw [K.il, ← K.sl]; exact hj
  simp only [List.getElem?_map, List.getElem?_eq_getElem hj, List.getElem?_eq_getElem hi, Option.map_some, e, Option.some.injEq] at g
  have l := Nat.blt_eq.mp (List.all_eq_true.mp K.il2 ix[j] (List.getElem_mem hi))
  rw [← hl] at l
  rw [List.getElem?_eq_getElem l] at g
  exact ⟨_, List.getElem_mem l, g⟩
theorem key_at {ks ss : List D} {ix : List Nat} (K : Ky ks ss ix) {k : D} (hk : k ∈ ss) : tupO k = true ∧ shwD k = true ∧ leafD k = true ∧ szD k ≤ 8 := by
  have h := List.all_eq_true.mp K.kb k hk
  obtain ⟨a, h⟩ := He.ba h
  obtain ⟨b, h⟩ := He.ba h
  obtain ⟨c, h⟩ := He.ba h
  obtain ⟨d, _⟩ := He.ba h
  exact ⟨a, b, c, Nat.le_of_ble_eq_true d⟩
/-! ### sizes -/
theorem depDs_le {B : Nat} : ∀ {xs : List D}, (∀ x ∈ xs, depD x ≤ B) → depDs xs ≤ B
  | [], _ => Nat.zero_le _
  | x :: xs, h => by
    have h1 := h x List.mem_cons_self
    have h2 := depDs_le (xs := xs) (B := B) fun y hy => h y (List.mem_cons_of_mem _ hy)
    simp only [depDs]; omega
theorem szDs_le {B : Nat} : ∀ {xs : List D}, (∀ x ∈ xs, szD x ≤ B) → szDs xs ≤ xs.length * (B + 2)
  | [], _ => Nat.zero_le _
  | x :: xs, h => by
    have h1 := h x List.mem_cons_self
    have h2 := szDs_le (xs := xs) (B := B) fun y hy => h y (List.mem_cons_of_mem _ hy)
    simp only [szDs, List.length_cons, Nat.add_mul]
    omega
theorem shwDs_all : ∀ {xs : List D}, (∀ x ∈ xs, shwD x = true) → shwDs xs = true
  | [], _ => rfl
  | x :: xs, h => by
    show (shwD x && shwDs xs) = true
    rw [h x List.mem_cons_self, shwDs_all fun y hy => h y (List.mem_cons_of_mem _ hy)]
    rfl
def Rz : Nat → Nat
  | 0 => 42
  | d + 1 => 3 * (Rz d + 16) + 2
theorem Rz_ge : ∀ d, 42 ≤ Rz d
  | 0 => Nat.le_refl _
  | d + 1 => by have := Rz_ge d; simp only [Rz]; omega
/-- a part's shape -/
structure Pt (w : D) (d z : Nat) : Prop where
  t : tupO w = true
  s : shwD w = true
  d : depD w ≤ d
  z : szD w ≤ z
theorem Pt.leaf {x : D} (h : leafD x = true) (hs : shwD x = true) (d z : Nat) (hz : szD x ≤ z) : Pt x d z := by
  cases x with
  | non => exact ⟨rfl, hs, Nat.zero_le _, hz⟩
  | bl _ => exact ⟨rfl, hs, Nat.zero_le _, hz⟩
  | int _ => exact ⟨rfl, hs, Nat.zero_le _, hz⟩
  | str _ => exact ⟨rfl, hs, Nat.zero_le _, hz⟩
  | _ => cases h
theorem Pt.tup {xs : List D} {d z : Nat} (hl : xs.length ≤ 100) (h : ∀ x ∈ xs, Pt x d z) : Pt (.tup xs) (d + 1) (xs.length * (z + 2) + 2) := by
  refine ⟨?_, shwDs_all fun x hx => (h x hx).s, ?_, ?_⟩
  · show (Nat.ble xs.length 100 && tupOs xs) = true
    rw [Nat.ble_eq.mpr hl, tupOs_all.mpr fun x hx => (h x hx).t]
    rfl
  · have := depDs_le (xs := xs) (B := d) fun x hx => (h x hx).d
    simp only [depD]; omega
  · have := szDs_le (xs := xs) (B := z) fun x hx => (h x hx).z
    simp only [szD]; omega
theorem Pt.mono {w : D} {d d' z z' : Nat} (h : Pt w d z) (h1 : d ≤ d') (h2 : z ≤ z') : Pt w d' z' := ⟨h.t, h.s, Nat.le_trans h.d h1, Nat.le_trans h.z h2⟩
theorem fx_pt : ∀ {d : Nat} {v : D}, Vw d v → Pt (fx v) (2 * d) (Rz d)
  | d, v, .leaf h hs hz => by
    have e : fx v = v := by cases v <;> first | rfl | cases h
    rw [e]
    exact .leaf h hs _ _ (Nat.le_trans hz (Rz_ge d))
  | d + 1, .lst xs, .lst hl h => by
    rw [fx, fxs_map]
    have := Pt.tup (xs := xs.map fx) (d := 2 * d) (z := Rz d) (by rw [List.length_map]; omega) fun x hx => by
      obtain ⟨y, hy, rfl⟩ := List.mem_map.mp hx
      exact fx_pt (h y hy)
    refine this.mono (by omega) ?_
    rw [List.length_map]
    have := Nat.mul_le_mul_right (Rz d + 2) hl
    simp only [Rz]; omega
  | d + 1, .tup xs, .tup hl h => by
    rw [fx, fxs_map]
    have := Pt.tup (xs := xs.map fx) (d := 2 * d) (z := Rz d) (by rw [List.length_map]; omega) fun x hx => by
      obtain ⟨y, hy, rfl⟩ := List.mem_map.mp hx
      exact fx_pt (h y hy)
    refine this.mono (by omega) ?_
    rw [List.length_map]
    have := Nat.mul_le_mul_right (Rz d + 2) hl
    simp only [Rz]; omega
  | d + 1, .dct ks vs, .dct ⟨ss, ix, K⟩ hl h => by
    rw [fx, fxs_map, K.srt]
    have hs : (prs ss ks (vs.map fx)).length ≤ 3 := by unfold prs; rw [List.length_map, K.sl]; exact K.le
    have := Pt.tup (xs := prs ss ks (vs.map fx)) (d := 2 * d + 1) (z := Rz d + 14) (by omega) fun x hx => by
      obtain ⟨k, hk, rfl⟩ := List.mem_map.mp hx
      obtain ⟨k1, k2, k3, k4⟩ := key_at K hk
      obtain ⟨y, hy, ey⟩ := ky_at K hl hk
      rw [gK_look, lookD_map, ey]
      have P := fx_pt (h y hy)
      refine ⟨?_, ?_, ?_, ?_⟩
      · show (Nat.ble 2 100 && (tupO k && (tupO (fx y) && true))) = true
        rw [k1, P.t]; rfl
      · show (shwD k && (shwD (fx y) && true)) = true
        rw [k2, P.s]; rfl
      · have k5 : depD k = 0 := by cases k <;> first | rfl | cases k3
        have := P.d
        show max (depD k) (max (depD (fx y)) 0) + 1 ≤ _
        omega
      · have := P.z
        show szD k + 2 + (szD (fx y) + 2 + 0) + 2 ≤ _
        omega
    refine this.mono (by omega) ?_
    have := Nat.mul_le_mul_right (Rz d + 14 + 2) hs
    simp only [Rz]; omega
end Lw
namespace Lw
open Iv
theorem small3 {n : Nat} (h : n ≤ 100) : n ≤ PySem.sizeLine := by
  have : PySem.sizeLine = 16777216 := rfl
  omega
theorem tup2_ok {e e2 : DE} {δ : DEnv} {M : List D} {x y : D} (h : e δ M = .ok x M) (h2 : e2 δ M = .ok y M) : dTup (dCons e (dCons e2 dNil)) δ M = .ok (.tup [x, y]) M := by
  unfold dTup bnd
  rw [cons_ok h (cons_ok h2 rfl)]
  dsimp only
  rw [if_pos (small3 (show [x, y].length ≤ 100 from by show 2 ≤ 100; decide))]
  rfl
/-- a list's, a tuple's items in turn -/
theorem b1_seq {n : Nat} {v : D} {xs : List D} {M : List D} (hd : dTru truO (dIsi kt [.b "dict"] (dVar 0)) [some v, none, none] M = .ok false M) (hl : dTru truO (dIsi kt [.b "list", .b "tuple"] (dVar 0)) [some v, none, none] M = .ok true M)
    (hi : dIt (dVar 0) [some v, none, none] M = .ok (.vals xs) M) (hz : xs.length ≤ 100) (h : ∀ x ∈ xs, Fs n 1 [x] M = .ok (fx x) M) : Fs (n + 1) 1 [v] M = .ok (.tup (fxs xs)) M := by
  refine run_rt ?_
  show b1 (Fs n) [some v, none, none] M = _
  unfold b1
  refine (seq_nx ((if_f hd).trans rfl)).trans ?_
  refine seq_rt ((if_t hl).trans (ret_ok ((blt_ok (cons_ok (lc_map (ds := xs) fx hi (small3 hz) fun x hx => (call_ok (ds := [x]) (cons_ok rfl rfl) rfl).trans (h x hx)) rfl)).trans ?_)))
  rw [fxs_map]
  rfl
/-- a dict's pairs by its ascending keys -/
theorem b1_dct {n : Nat} {v : D} {ks ss vs : List D} {ix : List Nat} {M : List D} (K : Ky ks ss ix) (hl : vs.length = ks.length) (hd : dTru truO (dIsi kt [.b "dict"] (dVar 0)) [some v, none, none] M = .ok true M) (h0 : Fs n 0 [v] M = .ok (.lst ss) M) (hv : ∀ k, idxK M v k = lookD k ks vs)
    (h : ∀ x ∈ vs, Fs n 1 [x] M = .ok (fx x) M) : Fs (n + 1) 1 [v] M = .ok (.tup (prs ss ks (fxs vs))) M := by
  refine run_rt ?_
  show b1 (Fs n) [some v, none, none] M = _
  unfold b1
  refine seq_rt ((if_t hd).trans (ret_ok ((blt_ok (cons_ok (lc_map (ds := ss) (fun k => .tup [k, gK ks (fxs vs) k]) ?_ (small3 (by rw [K.sl]; have := K.le; omega)) fun k hk => ?_) rfl)).trans rfl)))
  · unfold dIt bnd
    have e : dCall 1 [] (Fs n 0) (dCons (dVar 0) dNil) [some v, none, none] M = .ok (.lst ss) M := (call_ok (ds := [v]) (cons_ok rfl rfl) rfl).trans h0
    rw [e]
    rfl
  · obtain ⟨x, hx, e⟩ := ky_at K hl hk
    rw [fxs_map, gK_look, lookD_map, e]
    refine tup2_ok rfl ((call_ok (ds := [x]) (cons_ok ((op_ok rfl rfl).trans ?_) rfl) rfl).trans (h x hx))
    show optE (idxK M v k) M = _
    rw [hv k, e]
    rfl
theorem fixed_ok : ∀ {d : Nat} {v : D}, Vw d v → ∀ (n : Nat) (M : List D), d + 2 ≤ n → Fs n 1 [v] M = .ok (fx v) M
  | d, v, .leaf h _ _, n, M, hn => by
    obtain ⟨n, rfl⟩ : ∃ m, n = m + 1 := ⟨n - 1, by omega⟩
    refine run_rt ?_
    cases v with
    | non => kernel_rfl
    | bl b => kernel_rfl
    | int i => kernel_rfl
    | str x => kernel_rfl
    | _ => cases h
  | d + 1, .lst xs, .lst hl h, n, M, hn => by
    obtain ⟨n, rfl⟩ : ∃ m, n = m + 1 := ⟨n - 1, by omega⟩
    rw [fx]
    exact b1_seq (by kernel_rfl) (by kernel_rfl) rfl (by omega) fun x hx => fixed_ok (h x hx) n M (by omega)
  | d + 1, .tup xs, .tup hl h, n, M, hn => by
    obtain ⟨n, rfl⟩ : ∃ m, n = m + 1 := ⟨n - 1, by omega⟩
    rw [fx]
    exact b1_seq (by kernel_rfl) (by kernel_rfl) rfl (by omega) fun x hx => fixed_ok (h x hx) n M (by omega)
  | d + 1, .dct ks vs, .dct ⟨ss, ix, K⟩ hl h, n, M, hn => by
    obtain ⟨n, rfl⟩ : ∃ m, n = m + 2 := ⟨n - 2, by omega⟩
    rw [fx, K.srt]
    exact b1_dct K hl (by kernel_rfl) (K.f0 n vs M) (fun k => by unfold idxK lookD; rfl) fun x hx => fixed_ok (h x hx) (n + 1) M (by omega)
theorem tupO_mem {xs : List D} (h : tupO (.tup xs) = true) : xs.length ≤ 100 ∧ ∀ x ∈ xs, tupO x = true := by
  obtain ⟨a, b⟩ := He.ba (show (Nat.ble xs.length 100 && tupOs xs) = true from h)
  exact ⟨Nat.le_of_ble_eq_true a, tupOs_all.mp b⟩
theorem dep_mem {xs : List D} {x : D} (hx : x ∈ xs) : depD x < depD (.tup xs) := by
  have : ∀ {xs : List D}, x ∈ xs → depD x ≤ depDs xs := by
    intro xs h
    induction xs with
    | nil => cases h
    | cons y ys ih =>
      rcases List.mem_cons.mp h with rfl | h
      · simp only [depDs]; omega
      · have := ih h; simp only [depDs]; omega
  have := this hx
  simp only [depD]; omega
/-- parts are fixed -/
theorem fixed_tup : ∀ (e : Nat) {w : D}, tupO w = true → depD w ≤ e → ∀ (n : Nat) (M : List D), e + 2 ≤ n → Fs n 1 [w] M = .ok w M
  | e, w, h, hd, n, M, hn => by
    obtain ⟨n, rfl⟩ : ∃ m, n = m + 1 := ⟨n - 1, by omega⟩
    cases w with
    | non => refine run_rt ?_; kernel_rfl
    | bl b => refine run_rt ?_; kernel_rfl
    | int i => refine run_rt ?_; kernel_rfl
    | str x => refine run_rt ?_; kernel_rfl
    | tup xs =>
      obtain ⟨h1, h2⟩ := tupO_mem h
      cases e with
      | zero => simp [depD] at hd
      | succ e =>
        have := b1_seq (n := n) (v := .tup xs) (xs := xs) (M := M) (by kernel_rfl) (by kernel_rfl) rfl h1 fun x hx => by
          have := dep_mem hx
          rw [tupO_fx (h2 x hx)]
          exact fixed_tup e (h2 x hx) (by omega) n M (by omega)
        rw [this, tupOs_fx (tupOs_all.mpr h2)]
    | _ => cases h
/-- the written row and the written table, that may be changed -/
theorem fixed_row {d : Nat} {p : D} {xs L : List D} (hz : xs.length ≤ 100) (h : ∀ x ∈ xs, Vw d x) (n : Nat) (hn : d + 3 ≤ n) : Fs n 1 [.cell 1] (p :: .lst xs :: L) = .ok (.tup (fxs xs)) (p :: .lst xs :: L) := by
  obtain ⟨n, rfl⟩ : ∃ m, n = m + 1 := ⟨n - 1, by omega⟩
  refine run_rt ?_
  show b1 (Fs n) [some (.cell 1), none, none] _ = _
  unfold b1
  refine (seq_nx ((if_f (M' := p :: .lst xs :: L) (by kernel_rfl)).trans rfl)).trans ?_
  refine seq_rt ((if_t (M' := p :: .lst xs :: L) (by kernel_rfl)).trans (ret_ok ((blt_ok (ds := [.lst (xs.map fx)]) (cons_ok ?_ rfl)).trans (by rw [fxs_map]; rfl))))
  have q := lc_pure (g := gVar 2) (tt := dYes) (te := dCall 1 [] (Fs n 1) (dCons (dVar 2) dNil)) (it := dIt (dVar 0)) (δ := [some (.cell 1), none, none]) (vs := [2]) (ds := xs) (z := .cell 1 xs.length) (M0 := p :: .lst xs :: L) (M := p :: .lst xs :: L) (fun _ => true) fx rfl rfl (small3 hz) (fun _ => rfl) (by show decide _ = true; simp) rfl
    fun x hx => ⟨_, rfl, rfl, fun _ => (call_ok (ds := [x]) (cons_ok rfl rfl) rfl).trans (fixed_ok (h x hx) n _ (by omega))⟩
  rw [List.filter_eq_self.mpr (fun _ _ => rfl)] at q
  exact q
theorem fixed_tbl {d : Nat} {p q : D} {ks ss vs L : List D} {ix : List Nat} (K : Ky ks ss ix) (hl : vs.length = ks.length) (h0 : ∀ n, Fs (n + 1) 0 [.cell 2] (p :: q :: .dct ks vs :: L) = .ok (.lst ss) (p :: q :: .dct ks vs :: L)) (h : ∀ x ∈ vs, Vw d x) (n : Nat) (hn : d + 3 ≤ n) :
    Fs n 1 [.cell 2] (p :: q :: .dct ks vs :: L) = .ok (.tup (prs ss ks (fxs vs))) (p :: q :: .dct ks vs :: L) := by
  obtain ⟨n, rfl⟩ : ∃ m, n = m + 2 := ⟨n - 2, by omega⟩
  exact b1_dct K hl (by kernel_rfl) (h0 n) (fun k => by unfold idxK lookD; rfl) fun x hx => fixed_ok (h x hx) (n + 1) _ (by omega)
theorem f0_tbl2 (p q x y : D) (L : List D) (n : Nat) : Fs (n + 1) 0 [.cell 2] (p :: q :: .dct [.str "u", .str "a"] [x, y] :: L) = .ok (.lst [.str "a", .str "u"]) (p :: q :: .dct [.str "u", .str "a"] [x, y] :: L) := by
  refine run_rt ?_
  kernel_rfl
theorem f0_tbl3 (p q x y z : D) (L : List D) (n : Nat) : Fs (n + 1) 0 [.cell 2] (p :: q :: .dct [.str "u", .str "a", .str "b"] [x, y, z] :: L) = .ok (.lst [.str "a", .str "b", .str "u"]) (p :: q :: .dct [.str "u", .str "a", .str "b"] [x, y, z] :: L) := by
  refine run_rt ?_
  kernel_rfl
end Lw
namespace Lw
open Iv
mutual
theorem low_mono {n m : Nat} (h : n ≤ m) : ∀ {d : D}, low n d = true → low m d = true
  | .cell c, e => by
    have : c < n := of_decide_eq_true e
    exact decide_eq_true (by omega)
  | .lst xs, e => lows_mono h (ds := xs) e
  | .tup xs, e => lows_mono h (ds := xs) e
  | .scr xs, e => lows_mono h (ds := xs) e
  | .dct _ xs, e => lows_mono h (ds := xs) e
  | .lck _ xs, e => lows_mono h (ds := xs) e
  | .ins _ _ xs, e => lows_mono h (ds := xs) e
  | .non, _ => rfl
  | .bl _, _ => rfl
  | .int _, _ => rfl
  | .str _, _ => rfl
  | .fn _, _ => rfl
  | .cls _, _ => rfl
  | .ty _, _ => rfl
theorem lows_mono {n m : Nat} (h : n ≤ m) : ∀ {ds : List D}, lows n ds = true → lows m ds = true
  | [], _ => rfl
  | d :: ds, e => by
    obtain ⟨a, b⟩ := He.ba e
    show (low m d && lows m ds) = true
    rw [low_mono h a, lows_mono h b]
    rfl
end
theorem lows_app {n : Nat} : ∀ {ds es : List D}, lows n ds = true → lows n es = true → lows n (ds ++ es) = true
  | [], _, _, h => h
  | d :: ds, es, h, h2 => by
    obtain ⟨a, b⟩ := He.ba h
    show (low n d && lows n (ds ++ es)) = true
    rw [a, lows_app b h2]
    rfl
theorem lows_take {n : Nat} : ∀ {ds : List D} (i : Nat), lows n ds = true → lows n (ds.take i) = true
  | [], i, _ => by simp [lows]
  | d :: ds, 0, _ => rfl
  | d :: ds, i + 1, h => by
    obtain ⟨a, b⟩ := He.ba h
    show (low n d && lows n (ds.take i)) = true
    rw [a, lows_take i b]
    rfl
theorem bnd_at {α β : Type} {x : Ev α} {f : α → Ev β} {M M' : List D} {a : α} (h : x M = .ok a M') : bnd x f M = f a M' := by unfold bnd; rw [h]
theorem rng_ok {e : DE} {δ : DEnv} {M M' : List D} {n : Nat} (h : e δ M = .ok (.int (n : Nat)) M') (hn : n ≤ 100) : dRng1 e δ M = .ok (.rng 0 n) M' := by
  have q : -(2 ^ 62) ≤ ((n : Nat) : Int) ∧ ((n : Nat) : Int) < 2 ^ 62 := ⟨by omega, by omega⟩
  unfold dRng1
  rw [bnd_at h]
  show (if -(2 ^ 62) ≤ ((n : Nat) : Int) ∧ ((n : Nat) : Int) < 2 ^ 62 then ret (Src.rng 0 (n : Int).toNat) else stuck) M' = _
  rw [if_pos q, Int.toNat_natCast]
  rfl
/-- a count of turns -/
theorem turns_inv {body : DS} {N j : Nat} (I : Nat → DEnv → List D → Prop) (h : ∀ (i : Nat) (δ : DEnv) (M : List D), i < N → I i δ M → ∃ δ' M', body (δ.set j (some (.int (0 + (i : Nat))))) M = .ok (.nx δ') M' ∧ I (i + 1) δ' M') :
    ∀ (n i : Nat) (δ : DEnv) (M : List D), i + n = N → I i δ M → ∃ δ' M', turns (.rng 0 N) (gVar j) body n i δ M = .ok (.nx δ') M' ∧ I N δ' M'
  | 0, i, δ, M, e, hi => ⟨δ, M, rfl, by rw [← e]; exact hi⟩
  | n + 1, i, δ, M, e, hi => by
    obtain ⟨δ1, M1, e1, h1⟩ := h i δ M (by omega) hi
    obtain ⟨δ2, M2, e2, h2⟩ := turns_inv I h n (i + 1) δ1 M1 (by omega) h1
    refine ⟨δ2, M2, ?_, h2⟩
    rw [← e2]
    show bnd (body (δ.set j (some (.int (0 + (i : Nat)))))) _ M = _
    rw [bnd_at e1]
theorem get_last (M : List D) (x : D) : (M ++ [x])[M.length]? = some x := by
  rw [List.getElem?_append_right (Nat.le_refl _), Nat.sub_self]
  rfl
theorem set_last (M : List D) (x y : D) : (M ++ [x]).set M.length y = M ++ [y] := by
  rw [List.set_append_right _ _ (Nat.le_refl _), Nat.sub_self]
  rfl
theorem val_last (M : List D) (x : D) : valD (M ++ [x]) (.cell M.length) = x := by
  show (match (M ++ [x])[M.length]? with | some o => o | none => D.cell M.length) = _
  rw [get_last]
def fstD : D → D
  | .tup (k :: _) => k
  | d => d
theorem keys_plain : ∀ {l : List D}, (∀ k ∈ l, tupO k = true ∧ leafD k = true) → plainDs l = true ∧ depDs l = 0
  | [], _ => ⟨rfl, rfl⟩
  | k :: l, h => by
    obtain ⟨a, b⟩ := h k List.mem_cons_self
    obtain ⟨c, d⟩ := keys_plain (l := l) fun y hy => h y (List.mem_cons_of_mem _ hy)
    have e : depD k = 0 := by cases k <;> first | rfl | cases b
    refine ⟨?_, by simp only [depDs, e, d]; rfl⟩
    show (plainD k && plainDs l) = true
    rw [tupO_plain a, c]
    rfl
theorem nin_keys {M : List D} {k : D} {l : List D} (hk : tupO k = true ∧ leafD k = true) (h : ∀ k ∈ l, tupO k = true ∧ leafD k = true) : ninKO M k (.lst l) = some (.bl (!anyEq k l)) := by
  obtain ⟨a, b⟩ := keys_plain h
  have e : depD k = 0 := by obtain ⟨_, z⟩ := hk; cases k <;> first | rfl | cases z
  have p := tupO_plain hk.1
  show (inM M k (.lst l)).map _ = _
  have : inM M k (.lst l) = if plainD k && plainDs l && Nat.ble (depD k) 40 && Nat.ble (depDs l) 40 then some (anyEq k l) else none := rfl
  rw [this, p, a, e, b]
  rfl
theorem lows_tupO {n : Nat} {ds : List D} (h : ∀ d ∈ ds, tupO d = true) : lows n ds = true := by
  induction ds with
  | nil => rfl
  | cons d ds ih =>
    show (low n d && lows n ds) = true
    rw [tupO_low n (h d List.mem_cons_self), ih fun x hx => h x (List.mem_cons_of_mem _ hx)]
    rfl
theorem asgM {e : DE} {δ : DEnv} {M M' : List D} {d : D} {i : Nat} (h : e δ M = .ok d M') : dAsg e (gVar i) δ M = .ok (.nx (δ.set i (some d))) M' := asg_ok h rfl
theorem pairs_tup {d : Nat} {ks ss vs : List D} {ix : List Nat} (K : Ky ks ss ix) (hl : vs.length = ks.length) (h : ∀ x ∈ vs, Vw d x) : ∀ p ∈ prs ss ks (fxs vs), tupO p = true := fun p hp => by
  have := (fx_pt (Vw.dct ⟨ss, ix, K⟩ hl h)).t
  rw [fx, K.srt] at this
  exact (tupO_mem this).2 p hp
def in6 : DE := dLc (dIt (dVar 2)) (gVar 7) dYes (dOp (pureO idxK) (dVar 7) (dLit (.int 0))) [7]
def out6 : DE := dLc (dIt (dVar 1)) (gVar 5) (dTru truO (dOp (pureO ninKO) (dVar 5) in6)) (dVar 5) [5]
def app6 (F : Nat → List D → Ev D) : DS := dDrop (dMth isListD appendO (dVar 2) (dCons (dTup (dCons (dVar 4) (dCons (dCall 1 [] (F 6) (dCons (dOp (pureO idxK) (dVar 0) (dVar 4)) dNil)) dNil))) dNil))
def bd6 (F : Nat → List D → Ev D) : DS := dSeq (dAsg (dBlt minO (dCons out6 dNil)) (gVar 4)) (app6 F)
section
variable {d n : Nat} {ks ss vs P : List D} {ix : List Nat} {M Mc : List D} {i : Nat} {t b : Option D}
/-- the firsts of the pairs -/
theorem in6_ok (hP : prs ss ks (fxs vs) = P) (gl : Mc[M.length]? = some (.lst (P.take i))) (hi : i ≤ 3) (k : D) : in6 [some (.dct ks vs), some (.lst ks), some (.cell M.length), t, b, some k, none, none] Mc = .ok (.lst (ss.take i)) Mc := by
  have fst : (P.take i).map fstD = ss.take i := by
    rw [List.map_take, ← hP]
    unfold prs
    rw [List.map_map]
    congr 1
    exact (List.map_congr_left (fun _ _ => rfl)).trans (List.map_id ss)
  have q := lc_pure (g := gVar 7) (tt := dYes) (te := dOp (pureO idxK) (dVar 7) (dLit (.int 0))) (it := dIt (dVar 2)) (δ := [some (.dct ks vs), some (.lst ks), some (.cell M.length), t, b, some k, none, none]) (vs := [7]) (ds := P.take i) (z := .cell M.length (P.take i).length) (M0 := Mc) (M := Mc) (fun _ => true) fstD
    (by show srcK Mc (.cell M.length) = _; unfold srcK; dsimp only; rw [gl]) rfl (small3 (by rw [List.length_take]; omega)) (fun j => by show (match Mc[M.length]? with | some (.lst xs) => xs[j]? | _ => none) = _; rw [gl])
    (by show (match Mc[M.length]? with | some (.lst xs) => decide (xs.length ≤ (P.take i).length) | _ => false) = true; rw [gl]; simp) rfl fun p hpm => ⟨_, rfl, rfl, fun _ => by
      have : p ∈ prs ss ks (fxs vs) := by rw [hP]; exact List.mem_of_mem_take hpm
      obtain ⟨k', _, rfl⟩ := List.mem_map.mp this
      rfl⟩
  rw [List.filter_eq_self.mpr (fun _ _ => rfl), fst] at q
  exact q
theorem out6_ok (hP : prs ss ks (fxs vs) = P) (gl : Mc[M.length]? = some (.lst (P.take i))) (hi : i ≤ 3) (hk3 : ks.length ≤ 3) (sk : ∀ k ∈ ss, tupO k = true ∧ leafD k = true) (kk : ∀ k ∈ ks, tupO k = true ∧ leafD k = true) :
    out6 [some (.dct ks vs), some (.lst ks), some (.cell M.length), t, b, none, none, none] Mc = .ok (.lst (ks.filter fun k => !anyEq k (ss.take i))) Mc := by
  have q := lc_pure (g := gVar 5) (tt := dTru truO (dOp (pureO ninKO) (dVar 5) in6)) (te := dVar 5) (it := dIt (dVar 1)) (δ := [some (.dct ks vs), some (.lst ks), some (.cell M.length), t, b, none, none, none]) (vs := [5]) (ds := ks) (z := .vals ks) (M0 := Mc) (M := Mc) (fun k => !anyEq k (ss.take i)) id
    rfl rfl (small3 (by omega)) (fun _ => rfl) rfl rfl fun k hk => ⟨_, rfl, by
      refine (tru_ok (x := .bl (!anyEq k (ss.take i))) (M' := Mc) ((op_ok rfl (in6_ok hP gl hi k)).trans ?_)).trans rfl
      show optE (ninKO Mc k (.lst (ss.take i))) Mc = _
      rw [nin_keys (kk k hk) fun z hz => sk z (List.mem_of_mem_take hz)]
      rfl, fun _ => rfl⟩
  rw [List.map_id] at q
  exact q
theorem app6_ok {x y : D} {xs : List D} (e : lookD y ks vs = some x) (vl : Mc[M.length]? = some (.lst xs)) (hx : xs.length ≤ 3) (h : Fs n 6 [x] Mc = .ok (fx x) Mc) : app6 (Fs n) [some (.dct ks vs), some (.lst ks), some (.cell M.length), t, some y, none, none, none] Mc = .ok (.nx [some (.dct ks vs), some (.lst ks), some (.cell M.length), t, some y, none, none, none]) (Mc.set M.length (.lst (xs ++ [.tup [y, fx x]]))) := by
  refine drop_ok (d := .non) ?_
  have ta : dTup (dCons (dVar 4) (dCons (dCall 1 [] (Fs n 6) (dCons (dOp (pureO idxK) (dVar 0) (dVar 4)) dNil)) dNil)) [some (.dct ks vs), some (.lst ks), some (.cell M.length), t, some y, none, none, none] Mc = .ok (.tup [y, fx x]) Mc :=
    tup2_ok rfl ((call_ok (ds := [x]) (cons_ok ((op_ok rfl rfl).trans (by
      show optE (idxK Mc (.dct ks vs) y) Mc = _
      have : idxK Mc (.dct ks vs) y = lookD y ks vs := by unfold idxK lookD; rfl
      rw [this, e]
      rfl)) rfl) rfl).trans h)
  show (if isListD Mc (.cell M.length) = true then bnd _ (appendO (.cell M.length)) Mc else .stk) = _
  have il : isListD Mc (.cell M.length) = true := by
    unfold isListD
    have : valD Mc (.cell M.length) = .lst xs := by
      show (match Mc[M.length]? with | some o => o | none => D.cell M.length) = _
      rw [vl]
    rw [this]
  rw [if_pos il, bnd_at (cons_ok ta rfl)]
  show (match Mc[M.length]? with | some (.lst xs) => if xs.length < PySem.sizeLine then R.ok D.non (Mc.set M.length (D.lst (xs ++ [D.tup [y, fx x]]))) else R.stk | _ => R.stk) = _
  rw [vl]
  dsimp only
  rw [if_pos (by have : PySem.sizeLine = 16777216 := rfl; omega)]
end
theorem len_ok {ds : List D} {e : DE} {δ : DEnv} {M M' : List D} (h : e δ M = .ok (.lst ds) M') : dBlt lenO (dCons e dNil) δ M = .ok (.int (ds.length : Nat)) M' := by
  rw [blt_ok (cons_ok h rfl)]
  rfl
theorem for_ok {it : DI} {g : DG} {body : DS} {δ : DEnv} {M M' : List D} {z : Src} (h : it δ M = .ok z M') : dFor it g body δ M = turns z g body z.len 0 δ M' := by
  unfold dFor lft
  rw [h]
theorem b6_body {n : Nat} {ks ss vs P : List D} {ix : List Nat} {M : List D} (K : Ky ks ss ix) (hl : vs.length = ks.length) (hM : lows M.length M = true) (hp : ∀ p ∈ P, tupO p = true) (pl : P.length = ss.length) (hP : prs ss ks (fxs vs) = P)
    (sk : ∀ k ∈ ss, tupO k = true ∧ leafD k = true) (kk : ∀ k ∈ ks, tupO k = true ∧ leafD k = true) (h : ∀ x ∈ vs, ∀ M, lows M.length M = true → Fs n 6 [x] M = .ok (fx x) M) :
    ∀ (i : Nat) (t b : Option D), i < ks.length → ∃ t' b', bd6 (Fs n) [some (.dct ks vs), some (.lst ks), some (.cell M.length), t, b, none, none, none] (M ++ [.lst (P.take i)]) = .ok (.nx [some (.dct ks vs), some (.lst ks), some (.cell M.length), t', b', none, none, none]) (M ++ [.lst (P.take (i + 1))]) := by
  intro i t b hi
  have his : i < ss.length := by rw [K.sl]; exact hi
  have hiP : i < P.length := by omega
  have Mi : lows (M ++ [D.lst (P.take i)]).length (M ++ [D.lst (P.take i)]) = true := by
    rw [List.length_append]
    refine lows_app (lows_mono (Nat.le_add_right _ _) hM) ?_
    show (lows _ (P.take i) && true) = true
    rw [lows_take i (lows_tupO hp)]
    rfl
  have gl := get_last M (.lst (P.take i))
  have l3 := K.le
  have mn : minM (M ++ [D.lst (P.take i)]) (.lst (ks.filter fun k => !anyEq k (ss.take i))) = some ss[i] := by
    have g := congrArg (fun l => l[i]?) K.mn
    simp only [List.getElem?_map, List.getElem?_range hi, List.getElem?_eq_getElem his, Option.map_some, Option.some.injEq] at g
    exact g
  obtain ⟨x, hx, ex⟩ := ky_at K hl (List.getElem_mem his)
  have pi : P[i] = .tup [ss[i], fx x] := by
    have : (prs ss ks (fxs vs))[i]? = some (.tup [ss[i], fx x]) := by
      unfold prs
      rw [List.getElem?_map, List.getElem?_eq_getElem his, fxs_map]
      show some (D.tup [ss[i], gK ks (vs.map fx) ss[i]]) = _
      rw [gK_look, lookD_map, ex]
      rfl
    rw [hP, List.getElem?_eq_getElem hiP] at this
    exact Option.some.inj this
  have a1 : dBlt minO (dCons out6 dNil) [some (.dct ks vs), some (.lst ks), some (.cell M.length), t, b, none, none, none] (M ++ [.lst (P.take i)]) = .ok ss[i] (M ++ [.lst (P.take i)]) := by
    refine (blt_ok (cons_ok (out6_ok hP gl (by omega) l3 sk kk) rfl)).trans ?_
    show optE (minM _ _) _ = _
    rw [mn]
    rfl
  have a2 := app6_ok (M := M) (t := t) ex gl (by rw [List.length_take]; omega) (h x hx _ Mi)
  rw [set_last, show P.take i ++ [D.tup [ss[i], fx x]] = P.take (i + 1) by rw [List.take_succ, List.getElem?_eq_getElem hiP, pi]; rfl] at a2
  exact ⟨t, some ss[i], (seq_nx (asgM a1)).trans a2⟩
theorem b6_loop {n : Nat} {ks ss vs P : List D} {ix : List Nat} {M : List D} (K : Ky ks ss ix) (hl : vs.length = ks.length) (hM : lows M.length M = true) (hp : ∀ p ∈ P, tupO p = true) (pl : P.length = ss.length) (hP : prs ss ks (fxs vs) = P)
    (sk : ∀ k ∈ ss, tupO k = true ∧ leafD k = true) (kk : ∀ k ∈ ks, tupO k = true ∧ leafD k = true) (h : ∀ x ∈ vs, ∀ M, lows M.length M = true → Fs n 6 [x] M = .ok (fx x) M) :
    ∃ δ' M', turns (.rng 0 ks.length) (gVar 3) (bd6 (Fs n)) ks.length 0 [some (.dct ks vs), some (.lst ks), some (.cell M.length), none, none, none, none, none] (M ++ [.lst []]) = .ok (.nx δ') M' ∧ (∃ t b, δ' = [some (.dct ks vs), some (.lst ks), some (.cell M.length), t, b, none, none, none] ∧ M' = M ++ [.lst (P.take ks.length)]) := by
  have body := b6_body K hl hM hp pl hP sk kk h
  refine turns_inv (fun i δ' M' => ∃ t b, δ' = [some (.dct ks vs), some (.lst ks), some (.cell M.length), t, b, none, none, none] ∧ M' = M ++ [.lst (P.take i)]) ?_ ks.length 0 _ _ (Nat.zero_add _) ⟨none, none, rfl, rfl⟩
  rintro i δ' M' hi ⟨t, b, rfl, rfl⟩
  obtain ⟨t', b', e⟩ := body i (some (.int (0 + (i : Nat)))) b hi
  exact ⟨_, _, e, t', b', rfl, rfl⟩
theorem b6_run {n : Nat} {ks ss vs P : List D} {ix : List Nat} {M : List D} (K : Ky ks ss ix) (hl : vs.length = ks.length) (hM : lows M.length M = true) (hp : ∀ p ∈ P, tupO p = true) (pl : P.length = ss.length) (hP : prs ss ks (fxs vs) = P)
    (sk : ∀ k ∈ ss, tupO k = true ∧ leafD k = true) (kk : ∀ k ∈ ks, tupO k = true ∧ leafD k = true) (h : ∀ x ∈ vs, ∀ M, lows M.length M = true → Fs n 6 [x] M = .ok (fx x) M) :
    b6 (Fs n) [some (.dct ks vs), none, none, none, none, none, none, none] M = .ok (.rt (.tup P)) (M ++ [.lst P]) := by
  obtain ⟨δ', M', e, t, b, rfl, rfl⟩ := b6_loop K hl hM hp pl hP sk kk h
  have all : P.take ks.length = P := List.take_of_length_le (by rw [pl, K.sl]; exact Nat.le_refl _)
  rw [all] at e
  refine seq_rt ((if_t (M' := M) (by kernel_rfl)).trans ?_)
  show dSeq (dAsg (dLc (dIt (dVar 0)) (gVar 5) dYes (dVar 5) [5]) (gVar 1)) (dSeq (dAsg (dCel dNil) (gVar 2)) (dSeq (dFor (dRng1 (dBlt lenO (dCons (dVar 1) dNil))) (gVar 3) (bd6 (Fs n))) (dRet (dBlt tupleO (dCons (dVar 2) dNil))))) _ _ = _
  have l1 := lc_map (ds := ks) (δ := [some (.dct ks vs), none, none, none, none, none, none, none]) (M := M) (te := dVar 5) (it := dIt (dVar 0)) (i := 5) id rfl (small3 (by have := K.le; omega)) fun x hx => rfl
  rw [List.map_id] at l1
  refine (seq_nx (asgM l1)).trans ?_
  refine (seq_nx (asgM (d := .cell M.length) (M' := M ++ [.lst []]) (by
    show (if ([] : List D).length ≤ PySem.sizeLine then R.ok (D.cell M.length) (M ++ [.lst []]) else .stk) = _
    rw [if_pos (show ([] : List D).length ≤ PySem.sizeLine from Nat.zero_le _)]))).trans ?_
  refine (seq_nx (δ' := [some (.dct ks vs), some (.lst ks), some (.cell M.length), t, b, none, none, none]) (M' := M ++ [.lst P]) ?_).trans ?_
  · exact (for_ok (rng_ok (len_ok rfl) (by have := K.le; omega))).trans e
  · refine ret_ok ((blt_ok (cons_ok rfl rfl)).trans ?_)
    show optE ((seqD (M ++ [D.lst P]) (.cell M.length)).map D.tup) (M ++ [D.lst P]) = _
    unfold seqD
    rw [val_last]
    rfl
theorem b6_dct {d n : Nat} {ks ss vs : List D} {ix : List Nat} {M : List D} (K : Ky ks ss ix) (hl : vs.length = ks.length) (hv : ∀ x ∈ vs, Vw d x) (hM : lows M.length M = true)
    (h : ∀ x ∈ vs, ∀ M, lows M.length M = true → Fs n 6 [x] M = .ok (fx x) M) : Fs (n + 1) 6 [.dct ks vs] M = .ok (.tup (prs ss ks (fxs vs))) M := by
  have hp := pairs_tup K hl hv
  have pl : (prs ss ks (fxs vs)).length = ss.length := by unfold prs; rw [List.length_map]
  have sk : ∀ k ∈ ss, tupO k = true ∧ leafD k = true := fun k hk => ⟨(key_at K hk).1, (key_at K hk).2.2.1⟩
  have kk : ∀ k ∈ ks, tupO k = true ∧ leafD k = true := fun k hk => sk k (by rw [← K.srt]; exact (isort_perm ks).mem_iff.mpr hk)
  generalize hP : prs ss ks (fxs vs) = P at hp pl
  have run := b6_run K hl hM hp pl hP sk kk h
  show runF false 8 (b6 (Fs n)) [.dct ks vs] M = _
  unfold runF
  have run' : b6 (Fs n) (entry 8 [.dct ks vs]) M = .ok (.rt (.tup P)) (M ++ [.lst P]) := run
  rw [run']
  have lw : lows M.length [D.tup P] = true := by
    show (lows M.length P && true) = true
    rw [lows_tupO hp]
    rfl
  have cl : closes M.length [D.tup P] (M ++ [D.lst P]) = some ([D.tup P], M) := by
    unfold closes
    rw [if_neg (by simp), List.take_left, if_pos hM]
    unfold frzs
    rw [if_pos lw]
    rfl
  show (match closes M.length [D.tup P] (M ++ [D.lst P]) with | some ([d'], M') => R.ok d' M' | _ => R.stk) = _
  rw [cl]
theorem lawfixed_ok : ∀ {d : Nat} {v : D}, Vw d v → ∀ (n : Nat) (M : List D), d + 1 ≤ n → lows M.length M = true → Fs n 6 [v] M = .ok (fx v) M
  | d, v, .leaf h _ _, n, M, hn, hM => by
    obtain ⟨n, rfl⟩ : ∃ m, n = m + 1 := ⟨n - 1, by omega⟩
    refine run_rt ?_
    cases v with
    | non => kernel_rfl
    | bl b => kernel_rfl
    | int i => kernel_rfl
    | str x => kernel_rfl
    | _ => cases h
  | d + 1, .lst xs, .lst hl h, n, M, hn, hM => by
    obtain ⟨n, rfl⟩ : ∃ m, n = m + 1 := ⟨n - 1, by omega⟩
    refine run_rt ?_
    show b6 (Fs n) [some (.lst xs), none, none, none, none, none, none, none] M = _
    unfold b6
    refine (seq_nx ((if_f (M' := M) (by kernel_rfl)).trans rfl)).trans ?_
    refine seq_rt ((if_t (M' := M) (by kernel_rfl)).trans (ret_ok ((blt_ok (ds := [.lst (xs.map fx)]) (cons_ok (lc_map (ds := xs) fx rfl (small3 (by omega)) fun x hx => (call_ok (ds := [x]) (cons_ok rfl rfl) rfl).trans (lawfixed_ok (h x hx) n M (by omega) hM)) rfl)).trans (by rw [fx, fxs_map]; rfl))))
  | d + 1, .tup xs, .tup hl h, n, M, hn, hM => by
    obtain ⟨n, rfl⟩ : ∃ m, n = m + 1 := ⟨n - 1, by omega⟩
    refine run_rt ?_
    show b6 (Fs n) [some (.tup xs), none, none, none, none, none, none, none] M = _
    unfold b6
    refine (seq_nx ((if_f (M' := M) (by kernel_rfl)).trans rfl)).trans ?_
    refine seq_rt ((if_t (M' := M) (by kernel_rfl)).trans (ret_ok ((blt_ok (ds := [.lst (xs.map fx)]) (cons_ok (lc_map (ds := xs) fx rfl (small3 (by omega)) fun x hx => (call_ok (ds := [x]) (cons_ok rfl rfl) rfl).trans (lawfixed_ok (h x hx) n M (by omega) hM)) rfl)).trans (by rw [fx, fxs_map]; rfl))))
  | d + 1, .dct ks vs, .dct ⟨ss, ix, K⟩ hl h, n, M, hn, hM => by
    obtain ⟨n, rfl⟩ : ∃ m, n = m + 1 := ⟨n - 1, by omega⟩
    rw [fx, K.srt]
    exact b6_dct K hl h hM fun x hx M hM => lawfixed_ok (h x hx) n M (by omega) hM
end Lw
namespace Lw
open Iv
def leaves : List D := [.int 0, .int 1, .int (-7), .int (10 ^ 40), .str "", .str "u", .str "u.said", .str "b", .non, .bl true, .bl false, .str "10", .str "9"]
theorem leaves_ok : leaves.all (fun x => leafD x && (shwD x && Nat.ble (szD x) 42)) = true := by decide +kernel
theorem leaf_vw {d : Nat} {x : D} (h : x ∈ leaves) : Vw d x := by
  have q := List.all_eq_true.mp leaves_ok x h
  obtain ⟨a, q⟩ := He.ba q
  obtain ⟨b, c⟩ := He.ba q
  exact .leaf a b (Nat.le_of_ble_eq_true c)
def dct5 : DE := dBlt dictO (dCons (dLzip (dCons (dOp (pureO addO) (dSli (dVar 4) (dPart (dVar 5)) (dNoP)) (dSli (dVar 4) (dNoP) (dPart (dVar 5)))) (dCons (dVar 3) (dNil)))) (dNil))
theorem dct_kyS (p d w u : Option D) (M : List D) : ∀ (t : Nat) (xs : List D), t < 5 → xs.length ≤ 3 → dct5 [p, d, w, some (.lst xs), some (.lst kyS), some (.int (t : Nat)), u] M = .ok (.dct ((kyS.drop t ++ kyS.take t).take xs.length) xs) M
  | 0, [], _, _ => by kernel_rfl
  | 0, [x0], _, _ => by kernel_rfl
  | 0, [x0, x1], _, _ => by kernel_rfl
  | 0, [x0, x1, x2], _, _ => by kernel_rfl
  | 1, [], _, _ => by kernel_rfl
  | 1, [x0], _, _ => by kernel_rfl
  | 1, [x0, x1], _, _ => by kernel_rfl
  | 1, [x0, x1, x2], _, _ => by kernel_rfl
  | 2, [], _, _ => by kernel_rfl
  | 2, [x0], _, _ => by kernel_rfl
  | 2, [x0, x1], _, _ => by kernel_rfl
  | 2, [x0, x1, x2], _, _ => by kernel_rfl
  | 3, [], _, _ => by kernel_rfl
  | 3, [x0], _, _ => by kernel_rfl
  | 3, [x0, x1], _, _ => by kernel_rfl
  | 3, [x0, x1, x2], _, _ => by kernel_rfl
  | 4, [], _, _ => by kernel_rfl
  | 4, [x0], _, _ => by kernel_rfl
  | 4, [x0, x1], _, _ => by kernel_rfl
  | 4, [x0, x1, x2], _, _ => by kernel_rfl
  | t + 5, _, h, _ => absurd h (by omega)
  | _, _ :: _ :: _ :: _ :: _, _, h => absurd h (by simp)
theorem dct_kyI (p d w u : Option D) (M : List D) : ∀ (t : Nat) (xs : List D), t < 5 → xs.length ≤ 3 → dct5 [p, d, w, some (.lst xs), some (.lst kyI), some (.int (t : Nat)), u] M = .ok (.dct ((kyI.drop t ++ kyI.take t).take xs.length) xs) M
  | 0, [], _, _ => by kernel_rfl
  | 0, [x0], _, _ => by kernel_rfl
  | 0, [x0, x1], _, _ => by kernel_rfl
  | 0, [x0, x1, x2], _, _ => by kernel_rfl
  | 1, [], _, _ => by kernel_rfl
  | 1, [x0], _, _ => by kernel_rfl
  | 1, [x0, x1], _, _ => by kernel_rfl
  | 1, [x0, x1, x2], _, _ => by kernel_rfl
  | 2, [], _, _ => by kernel_rfl
  | 2, [x0], _, _ => by kernel_rfl
  | 2, [x0, x1], _, _ => by kernel_rfl
  | 2, [x0, x1, x2], _, _ => by kernel_rfl
  | 3, [], _, _ => by kernel_rfl
  | 3, [x0], _, _ => by kernel_rfl
  | 3, [x0, x1], _, _ => by kernel_rfl
  | 3, [x0, x1, x2], _, _ => by kernel_rfl
  | 4, [], _, _ => by kernel_rfl
  | 4, [x0], _, _ => by kernel_rfl
  | 4, [x0, x1], _, _ => by kernel_rfl
  | 4, [x0, x1, x2], _, _ => by kernel_rfl
  | t + 5, _, h, _ => absurd h (by omega)
  | _, _ :: _ :: _ :: _ :: _, _, h => absurd h (by simp)
def Wv : Nat → Nat
  | 0 => 1
  | d + 1 => 3 * Wv d + 3
/-- a comprehension of so many drawn things -/
theorem lcs_drawn (ns : List Int) {te : DE} {δ : DEnv} {N W : Nat} {L : List D} {C : D → Prop} (i0 : Nat) (B : Nat)
    (h : ∀ (i : Nat) (a g : Int) (b : Nat), b ≤ B + i * W → i < N → Pk a g b → ∃ v a' g', C v ∧ te (δ.set i0 (some (.int (0 + (i : Nat))))) (pn ns a g :: L) = .ok v (pn ns a' g' :: L) ∧ Pk a' g' ((b + W : Nat) : Int)) :
    ∀ (n i : Nat) (a g : Int), i + n = N → Pk a g ((B + i * W : Nat) : Int) → ∃ xs a' g', xs.length = n ∧ (∀ x ∈ xs, C x) ∧ lcs (.rng 0 N) (gVar i0) dYes te δ n i (pn ns a g :: L) = .ok xs (pn ns a' g' :: L) ∧ Pk a' g' ((B + N * W : Nat) : Int)
  | 0, i, a, g, e, p => by
    obtain rfl : i = N := by omega
    exact ⟨[], a, g, rfl, fun _ z => (nomatch z), rfl, p⟩
  | n + 1, i, a, g, e, p => by
    obtain ⟨v, a1, g1, cv, e1, p1⟩ := h i a g _ (Nat.le_refl _) (by omega) p
    have e3 : B + i * W + W = B + (i + 1) * W := by rw [Nat.add_mul]; omega
    rw [e3] at p1
    obtain ⟨xs, a2, g2, l2, c2, e2, p2⟩ := lcs_drawn ns i0 B h n (i + 1) a1 g1 (by omega) p1
    refine ⟨v :: xs, a2, g2, by simp [l2], fun x hx => ?_, ?_, p2⟩
    · rcases List.mem_cons.mp hx with rfl | hx
      · exact cv
      · exact c2 x hx
    · show bnd (te (δ.set i0 (some (.int (0 + (i : Nat)))))) (fun y => bnd (lcs (.rng 0 N) (gVar i0) dYes te δ n (i + 1)) fun ys => Iv.ret (y :: ys)) (pn ns a g :: L) = _
      rw [bnd_at e1, bnd_at e2]
      rfl
theorem lc_drawn (ns : List Int) {te : DE} {δ : DEnv} {M0 : List D} {N W : Nat} {L : List D} {C : D → Prop} (i0 : Nat) (B : Nat) {a g : Int} {it : DI} (hi : it δ M0 = .ok (.rng 0 N) (pn ns a g :: L)) (hN : N ≤ 100) (p : Pk a g (B : Int))
    (h : ∀ (i : Nat) (a g : Int) (b : Nat), b ≤ B + i * W → i < N → Pk a g b → ∃ v a' g', C v ∧ te ((wipeD δ [i0]).set i0 (some (.int (0 + (i : Nat))))) (pn ns a g :: L) = .ok v (pn ns a' g' :: L) ∧ Pk a' g' ((b + W : Nat) : Int)) :
    ∃ xs a' g', xs.length = N ∧ (∀ x ∈ xs, C x) ∧ dLc it (gVar i0) dYes te [i0] δ M0 = .ok (.lst xs) (pn ns a' g' :: L) ∧ Pk a' g' ((B + N * W : Nat) : Int) := by
  obtain ⟨xs, a', g', l, c, e, p'⟩ := lcs_drawn ns i0 B h N 0 a g (Nat.zero_add _) (by simpa using p)
  refine ⟨xs, a', g', l, c, ?_, p'⟩
  unfold dLc
  rw [bnd_at hi]
  show (if N ≤ PySem.sizeLine then noX (bnd (lcs (.rng 0 N) (gVar i0) dYes te (wipeD δ [i0]) N 0) fun ys => Iv.ret (D.lst ys)) else stuck) _ = _
  rw [if_pos (small3 hN)]
  unfold noX
  rw [bnd_at e]
  rfl
theorem ite_ok {c : DT} {a b : DE} {δ : DEnv} {M M' : List D} {k : Bool} (h : c δ M = .ok k M') : dIte c a b δ M = (if k then a δ else b δ) M' := by unfold dIte; rw [bnd_at h]
theorem call2_ok {F : List D → Ev D} {e e2 : DE} {δ : DEnv} {M : List D} {x y : D} (h : e δ M = .ok x M) (h2 : e2 δ M = .ok y M) : dCall 2 [] F (dCons e (dCons e2 dNil)) δ M = F [x, y] M := call_ok (ds := [x, y]) (cons_ok h (cons_ok h2 rfl)) rfl
theorem Pk.up {a g B B' : Int} (p : Pk a g B) (h : B ≤ B') : Pk a g B' := ⟨p.a0, by have := p.a1; omega, p.g0⟩
theorem value_ok (ns : List Int) (L : List D) : ∀ (d n : Nat) (a g : Int) (B : Nat), d + 3 ≤ n → Pk a g (B : Int) → B + Wv d < 2 ^ 20 → ∃ v a' g', Vw d v ∧ Fs n 5 [.cell 0, .int (d : Nat)] (pn ns a g :: L) = .ok v (pn ns a' g' :: L) ∧ Pk a' g' ((B + Wv d : Nat) : Int)
  | d, n, a, g, B, hn, p, hB => by
    obtain ⟨n, rfl⟩ : ∃ m, n = m + 3 := ⟨n - 3, by omega⟩
    have lf : ∀ (a g : Int) (b : Nat), b + 1 < 2 ^ 20 → Pk a g (b : Int) → ∃ x a' g', x ∈ leaves ∧ Fs (n + 2) 4 [.cell 0, .lst leaves] (pn ns a g :: L) = .ok x (pn ns a' g' :: L) ∧ Pk a' g' ((b + 1 : Nat) : Int) := fun a g b hb p => by
      obtain ⟨x, a', g', h1, h2, h3⟩ := pick_lst n ns leaves a g b L p (by omega) (by decide) (by decide)
      exact ⟨x, a', g', h1, h2, h3.up (by omega)⟩
    have ret5 : ∀ (w : Int) (a g : Int) (b : Nat), w < 3 → b + 1 < 2 ^ 20 → Pk a g (b : Int) → ∃ v a' g', Vw d v ∧ (∀ X : DS, dSeq (dIf (dTru truO (dOp (pureO ltO) (dVar 2) (dLit (.int 3)))) (dRet (dCall 2 [] (Fs (n + 2) 4) (dCons (dVar 0) (dCons (dLst (dCons (dLit (.int 0)) (dCons (dLit (.int 1)) (dCons (dNeg (dLit (.int 7))) (dCons (dOp (pureO powO) (dLit (.int 10)) (dLit (.int 40))) (dCons (dLit (.str "")) (dCons (dLit (.str "u")) (dCons (dLit (.str "u.said")) (dCons (dLit (.str "b")) (dCons (dLit .non) (dCons (dLit (.bl true)) (dCons (dLit (.bl false)) (dCons (dLit (.str "10")) (dCons (dLit (.str "9")) (dNil))))))))))))))) (dNil))))) (dNext)) X [some (.cell 0), some (.int (d : Nat)), some (.int w), none, none, none, none] (pn ns a g :: L) = .ok (.rt v) (pn ns a' g' :: L)) ∧ Pk a' g' ((b + 1 : Nat) : Int) := fun w a g b hw hb p => by
      obtain ⟨x, a', g', h1, h2, h3⟩ := lf a g b hb p
      refine ⟨x, a', g', leaf_vw h1, fun X => seq_rt ((if_t (M' := pn ns a g :: L) ?_).trans (ret_ok ((call2_ok (x := .cell 0) (y := .lst leaves) rfl (by kernel_rfl)).trans h2))), h3⟩
      refine (tru_ok (x := .bl (decide (w < 3))) (M' := pn ns a g :: L) rfl).trans ?_
      rw [decide_eq_true hw]
      rfl
    cases d with
    | zero =>
      obtain ⟨v, a', g', h1, h2, h3⟩ := ret5 0 a g B (by decide) (by simp only [Wv] at hB; omega) p
      refine ⟨v, a', g', h1, run_rtK ?_ rfl, by simpa [Wv] using h3⟩
      show b5 (Fs (n + 2)) [some (.cell 0), some (.int (0 : Nat)), none, none, none, none, none] _ = _
      refine (seq_nx (asgM (d := .int 0) (M' := pn ns a g :: L) ((ite_ok (k := false) (M' := pn ns a g :: L) rfl).trans rfl))).trans ?_
      exact h2 _
    | succ d =>
      obtain ⟨w, a1, g1, e1, w0, w7, p1⟩ := draw (n + 1) ns a g 7 B L p (by omega) (by decide) (by decide)
      have p1 : Pk a1 g1 ((B + 1 : Nat) : Int) := p1.up (by omega)
      have pos : decide (((d + 1 : Nat) : Int) > 0) = true := decide_eq_true (by omega)
      have s1 : dAsg (dIte (dTru truO (dOp (pureO gtO) (dVar 1) (dLit (.int 0)))) (dCall 2 [] (Fs (n + 2) 3) (dCons (dVar 0) (dCons (dLit (.int 7)) (dNil)))) (dLit (.int 0))) (gVar 2) [some (.cell 0), some (.int ((d + 1 : Nat) : Int)), none, none, none, none, none] (pn ns a g :: L) = .ok (.nx [some (.cell 0), some (.int ((d + 1 : Nat) : Int)), some (.int w), none, none, none, none]) (pn ns a1 g1 :: L) := by
        refine asgM ((ite_ok (k := true) (M' := pn ns a g :: L) ?_).trans ((call2_ok rfl rfl).trans e1))
        refine (tru_ok (x := .bl (decide (((d + 1 : Nat) : Int) > 0))) (M' := pn ns a g :: L) rfl).trans ?_
        rw [pos]
        rfl
      simp only [Wv] at hB
      by_cases hw : w < 3
      · obtain ⟨v, a', g', h1, h2, h3⟩ := ret5 w a1 g1 (B + 1) hw (by omega) p1
        exact ⟨v, a', g', h1, run_rtK ((seq_nx s1).trans (h2 _)) rfl, h3.up (by simp only [Wv]; omega)⟩
      · obtain ⟨c, a2, g2, e2, c0, c4, p2⟩ := draw (n + 1) ns a1 g1 4 (B + 1 : Nat) L p1 (by omega) (by decide) (by decide)
        have p2 : Pk a2 g2 ((B + 2 : Nat) : Int) := p2.up (by omega)
        obtain ⟨c, rfl⟩ : ∃ m : Nat, c = m := ⟨c.toNat, by omega⟩
        have f3 : decide (w < 3) = false := decide_eq_false hw
        have s2 : dIf (dTru truO (dOp (pureO ltO) (dVar 2) (dLit (.int 3)))) (dRet (dCall 2 [] (Fs (n + 2) 4) (dCons (dVar 0) (dCons (dLst (dCons (dLit (.int 0)) (dCons (dLit (.int 1)) (dCons (dNeg (dLit (.int 7))) (dCons (dOp (pureO powO) (dLit (.int 10)) (dLit (.int 40))) (dCons (dLit (.str "")) (dCons (dLit (.str "u")) (dCons (dLit (.str "u.said")) (dCons (dLit (.str "b")) (dCons (dLit .non) (dCons (dLit (.bl true)) (dCons (dLit (.bl false)) (dCons (dLit (.str "10")) (dCons (dLit (.str "9")) (dNil))))))))))))))) (dNil))))) (dNext) [some (.cell 0), some (.int ((d + 1 : Nat) : Int)), some (.int w), none, none, none, none] (pn ns a1 g1 :: L) = .ok (.nx [some (.cell 0), some (.int ((d + 1 : Nat) : Int)), some (.int w), none, none, none, none]) (pn ns a1 g1 :: L) := by
          refine (if_f (M' := pn ns a1 g1 :: L) ?_).trans rfl
          refine (tru_ok (x := .bl (decide (w < 3))) (M' := pn ns a1 g1 :: L) rfl).trans ?_
          rw [f3]
          rfl
        obtain ⟨xs, a3, g3, l3, v3, e3, p3⟩ := lc_drawn ns (te := dCall 2 [] (Fs (n + 2) 5) (dCons (dVar 0) (dCons (dOp (pureO subO) (dVar 1) (dLit (.int 1))) (dNil)))) (it := dRng1 (dCall 2 [] (Fs (n + 2) 3) (dCons (dVar 0) (dCons (dLit (.int 4)) (dNil))))) (δ := [some (.cell 0), some (.int ((d + 1 : Nat) : Int)), some (.int w), none, none, none, none]) (M0 := pn ns a1 g1 :: L) (N := c) (W := Wv d) (L := L) (C := Vw d) 6 (B + 2)
          (rng_ok ((call2_ok rfl rfl).trans e2) (by omega)) (by omega) p2 fun i a g b hb hi pb => by
            have hc : (i + 1) * Wv d ≤ 3 * Wv d := Nat.mul_le_mul_right _ (by omega)
            rw [Nat.add_mul] at hc
            obtain ⟨v, a', g', h1, h2, h3⟩ := value_ok ns L d (n + 2) a g b (by omega) pb (by omega)
            refine ⟨v, a', g', h1, ?_, h3⟩
            refine (call2_ok (x := .cell 0) (y := .int (d : Nat)) rfl ?_).trans h2
            refine (op_ok rfl rfl).trans ?_
            show R.ok (D.int (((d + 1 : Nat) : Int) - 1)) _ = _
            rw [show ((d + 1 : Nat) : Int) - 1 = (d : Int) by omega]
        have s3 := asgM (i := 3) e3
        have wb : B + 2 + c * Wv d ≤ B + 2 + 3 * Wv d := Nat.add_le_add_left (Nat.mul_le_mul_right _ (by omega)) _
        have c3 : xs.length ≤ 3 := by omega
        have eqw : ∀ (j : Int) (M : List D), dTru truO (dOp (pureO eqO) (dVar 2) (dLit (.int j))) [some (.cell 0), some (.int ((d + 1 : Nat) : Int)), some (.int w), some (.lst xs), none, none, none] M = .ok (w == j) M := fun j M => rfl
        by_cases w3 : w = 3
        · subst w3
          refine ⟨.lst xs, a3, g3, .lst c3 v3, run_rtK ((seq_nx s1).trans ((seq_nx s2).trans ((seq_nx s3).trans (seq_rt ((if_t (M' := pn ns a3 g3 :: L) rfl).trans (ret_ok rfl)))))) rfl, p3.up (by simp only [Wv]; omega)⟩
        · by_cases w4 : w = 4
          · subst w4
            refine ⟨.tup xs, a3, g3, .tup c3 v3, run_rtK ((seq_nx s1).trans ((seq_nx s2).trans ((seq_nx s3).trans ((seq_nx ((if_f (M' := pn ns a3 g3 :: L) rfl).trans rfl)).trans (seq_rt ((if_t (M' := pn ns a3 g3 :: L) rfl).trans (ret_ok ((blt_ok (cons_ok rfl rfl)).trans rfl)))))))) rfl, p3.up (by simp only [Wv]; omega)⟩
          · obtain ⟨t, a4, g4, e4, t0, t5, p4⟩ := draw (n + 1) ns a3 g3 5 (B + 2 + c * Wv d : Nat) L p3 (by omega) (by decide) (by decide)
            obtain ⟨t, rfl⟩ : ∃ m : Nat, t = m := ⟨t.toNat, by omega⟩
            have p4' : Pk a4 g4 ((B + Wv (d + 1) : Nat) : Int) := p4.up (by simp only [Wv]; omega)
            have b3 : (w == 3) = false := by simp [w3]
            have b4 : (w == 4) = false := by simp [w4]
            have s4 : ∀ X : DS, dIf (dTru truO (dOp (pureO eqO) (dVar 2) (dLit (.int 3)))) X dNext [some (.cell 0), some (.int ((d + 1 : Nat) : Int)), some (.int w), some (.lst xs), none, none, none] (pn ns a3 g3 :: L) = .ok (.nx [some (.cell 0), some (.int ((d + 1 : Nat) : Int)), some (.int w), some (.lst xs), none, none, none]) (pn ns a3 g3 :: L) := fun X => (if_f ((eqw 3 _).trans (by rw [b3]))).trans rfl
            have s5 : ∀ X : DS, dIf (dTru truO (dOp (pureO eqO) (dVar 2) (dLit (.int 4)))) X dNext [some (.cell 0), some (.int ((d + 1 : Nat) : Int)), some (.int w), some (.lst xs), none, none, none] (pn ns a3 g3 :: L) = .ok (.nx [some (.cell 0), some (.int ((d + 1 : Nat) : Int)), some (.int w), some (.lst xs), none, none, none]) (pn ns a3 g3 :: L) := fun X => (if_f ((eqw 4 _).trans (by rw [b4]))).trans rfl
            have fin : ∀ (ks : List D), Kys ((ks.drop t ++ ks.take t).take xs.length) → ((ks.drop t ++ ks.take t).take xs.length).length = xs.length → (∀ (p d w u : Option D) (M : List D), dct5 [p, d, w, some (.lst xs), some (.lst ks), some (.int (t : Nat)), u] M = .ok (.dct ((ks.drop t ++ ks.take t).take xs.length) xs) M) →
                dIte (dTru truO (dOp (pureO eqO) (dVar 2) (dLit (.int 5)))) (dLst (dCons (dLit (.str "u")) (dCons (dLit (.str "a")) (dCons (dLit (.str "u.said")) (dCons (dLit (.str "b10")) (dCons (dLit (.str "b9")) (dNil))))))) (dLst (dCons (dLit (.int 10)) (dCons (dNeg (dLit (.int 2))) (dCons (dLit (.int 9)) (dCons (dLit (.int 0)) (dCons (dLit (.int 100)) (dNil))))))) [some (.cell 0), some (.int ((d + 1 : Nat) : Int)), some (.int w), some (.lst xs), none, none, none] (pn ns a3 g3 :: L) = .ok (.lst ks) (pn ns a3 g3 :: L) →
                ∃ v a' g', Vw (d + 1) v ∧ Fs (n + 3) 5 [.cell 0, .int ((d + 1 : Nat) : Int)] (pn ns a g :: L) = .ok v (pn ns a' g' :: L) ∧ Pk a' g' ((B + Wv (d + 1) : Nat) : Int) := fun ks K hl hd hk =>
              ⟨.dct ((ks.drop t ++ ks.take t).take xs.length) xs, a4, g4, .dct K hl.symm v3, run_rtK ((seq_nx s1).trans ((seq_nx s2).trans ((seq_nx s3).trans ((seq_nx (s4 _)).trans ((seq_nx (s5 _)).trans ((seq_nx (asgM hk)).trans ((seq_nx (asgM ((call2_ok rfl rfl).trans e4))).trans (ret_ok (hd _ _ _ _ _))))))))) rfl, p4'⟩
            have ht : t < 5 := by omega
            have ln : ∀ ks : List D, ks.length = 5 → ((ks.drop t ++ ks.take t).take xs.length).length = xs.length := fun ks h => by simp; omega
            by_cases w5 : w = 5
            · exact fin kyS (kyS_ok t xs.length ht (by omega)) (ln _ rfl) (fun p d w u M => dct_kyS p d w u M t xs ht c3) ((ite_ok (k := true) (M' := pn ns a3 g3 :: L) (by rw [eqw 5]; simp [w5])).trans (by kernel_rfl))
            · exact fin kyI (kyI_ok t xs.length ht (by omega)) (ln _ rfl) (fun p d w u M => dct_kyI p d w u M t xs ht c3) ((ite_ok (k := false) (M' := pn ns a3 g3 :: L) (by rw [eqw 5]; simp [w5])).trans (by kernel_rfl))
end Lw
namespace Lw
open Iv
/-! ### papers made -/
theorem b1_seqG {n : Nat} {v : D} {xs : List D} {M : List D} (f : D → D) (hd : dTru truO (dIsi kt [.b "dict"] (dVar 0)) [some v, none, none] M = .ok false M) (hl : dTru truO (dIsi kt [.b "list", .b "tuple"] (dVar 0)) [some v, none, none] M = .ok true M)
    (hi : dIt (dVar 0) [some v, none, none] M = .ok (.vals xs) M) (hz : xs.length ≤ 100) (h : ∀ x ∈ xs, Fs n 1 [x] M = .ok (f x) M) : Fs (n + 1) 1 [v] M = .ok (.tup (xs.map f)) M := by
  refine run_rt ?_
  show b1 (Fs n) [some v, none, none] M = _
  unfold b1
  refine (seq_nx ((if_f hd).trans rfl)).trans ?_
  exact seq_rt ((if_t hl).trans (ret_ok ((blt_ok (cons_ok (lc_map (ds := xs) f hi (small3 hz) fun x hx => (call_ok (ds := [x]) (cons_ok rfl rfl) rfl).trans (h x hx)) rfl)).trans rfl)))
abbrev pp (c : Nat) (s : PySem.Str) (w : D) : D := .ins c ["word", "parts"] [.str s, w]
theorem setF_ok {f : PySem.Str} {o e : DE} {δ : DEnv} {M M1 : List D} {y z : D} {n : Nat} (h : e δ M = .ok y M1) (ho : o δ M1 = .ok (.cell n) M1) {M2 : List D} (hs : setFM kf f y (.cell n) M1 = .ok () M2) : dSetF kf f o e δ M = .ok (.nx δ) M2 := by
  unfold dSetF lft
  rw [bnd_at h, bnd_at ho, hs]
  rfl
theorem setM {M : List D} {c : Nat} {f : PySem.Str} {y : D} {ns : List PySem.Str} {vs : List D} (hk : (kf c f && Nat.blt ns.length 1000) = true) : setFM kf f y (.cell M.length) (M ++ [.ins c ns vs]) = .ok () (M ++ [.ins c (putN f ns) (putV f y ns vs)]) := by
  unfold setFM
  dsimp only
  rw [get_last]
  dsimp only
  rw [if_pos hk, set_last]
theorem init_ok {n c : Nat} {s : PySem.Str} {p1 p2 p3 w : D} {M : List D} (hc : kf c "word" = true ∧ kf c "parts" = true) (h : ∀ x, Fs n 1 [.tup [p1, p2, p3]] (M ++ [x]) = .ok w (M ++ [x])) :
    Fs (n + 1) 10 [.cell M.length, .str s, p1, p2, p3] (M ++ [.ins c [] []]) = .ok .non (M ++ [pp c s w]) := by
  show starG 2 (runF false 3 (b10 (Fs n))) [.cell M.length, .str s, p1, p2, p3] _ = _
  have e : starG 2 (runF false 3 (b10 (Fs n))) [.cell M.length, .str s, p1, p2, p3] = runF false 3 (b10 (Fs n)) [.cell M.length, .str s, .tup [p1, p2, p3]] := by
    unfold starG
    rw [if_pos ⟨by show 2 ≤ 5; decide, small3 (show ([D.cell M.length, D.str s, p1, p2, p3]).length ≤ 100 from by show 5 ≤ 100; decide)⟩]
    rfl
  rw [e]
  have r : b10 (Fs n) [some (.cell M.length), some (.str s), some (.tup [p1, p2, p3])] (M ++ [.ins c [] []]) = .ok (.nx [some (.cell M.length), some (.str s), some (.tup [p1, p2, p3])]) (M ++ [pp c s w]) := by
    unfold b10
    refine (seq_nx (setF_ok (z := .non) (y := .str s) (n := M.length) rfl rfl (setM (by rw [hc.1]; rfl)))).trans ?_
    exact setF_ok (z := .non) (y := w) (n := M.length) ((call_ok (ds := [.tup [p1, p2, p3]]) (cons_ok rfl rfl) rfl).trans (h _)) rfl (setM (by rw [hc.2]; rfl))
  show Iv.fin false (M ++ [D.ins c [] []]).length (b10 (Fs n) [some (.cell M.length), some (.str s), some (.tup [p1, p2, p3])] (M ++ [.ins c [] []])) = _
  rw [r]
  simp [Iv.fin, closes]
theorem mkE_ok {n c : Nat} {s : PySem.Str} {p1 p2 p3 w : D} {M : List D} (hc : kf c "word" = true ∧ kf c "parts" = true) (hM : lows M.length M = true) (hw : tupO w = true) (h : ∀ x, Fs n 1 [.tup [p1, p2, p3]] (M ++ [x]) = .ok w (M ++ [x])) :
    mkE c (Fs (n + 1) 10) [.str s, p1, p2, p3] M = .ok (pp c s w) M := by
  unfold mkE
  rw [init_ok hc h]
  show (match closes M.length [D.cell M.length] (M ++ [pp c s w]) with | some ([d'], M') => R.ok d' M' | _ => R.stk) = _
  have l1 : lows M.length [D.cell M.length] = false := by
    show (decide (M.length < M.length) && true) = false
    simp
  have l2 : lows M.length [D.str s, w] = true := by
    show (true && (low M.length w && true)) = true
    rw [tupO_low _ hw]
    rfl
  have cl : closes M.length [D.cell M.length] (M ++ [pp c s w]) = some ([pp c s w], M) := by
    unfold closes
    rw [if_neg (by simp), List.take_left, if_pos hM]
    unfold frzs
    rw [l1, if_neg (by simp)]
    dsimp only
    have e0 : frzs (M ++ [pp c s w]) M.length 59 [] = some [] := rfl
    rw [e0]
    dsimp only
    rw [if_neg (by simp), get_last]
    dsimp only
    have e1 : frzs (M ++ [pp c s w]) M.length 59 [D.str s, w] = some [D.str s, w] := by
      unfold frzs
      rw [if_pos l2]
    rw [e1]
    rfl
  rw [cl]
theorem mk_ok {n c : Nat} {s : PySem.Str} {p1 p2 p3 w : D} {M : List D} {δ : DEnv} {as : DA} (ha : as δ M = .ok [.str s, p1, p2, p3] M) (hc : kf c "word" = true ∧ kf c "parts" = true) (hM : lows M.length M = true) (hw : tupO w = true) (h : ∀ x, Fs n 1 [.tup [p1, p2, p3]] (M ++ [x]) = .ok w (M ++ [x])) :
    dMk c (fun _ => true) [] (Fs (n + 1) 10) as δ M = .ok (pp c s w) M := by
  unfold dMk
  rw [bnd_at ha]
  exact mkE_ok hc hM hw h
theorem kf0 : kf 0 "word" = true ∧ kf 0 "parts" = true := ⟨by decide +kernel, by decide +kernel⟩
theorem kf1 : kf 1 "word" = true ∧ kf 1 "parts" = true := ⟨by decide +kernel, by decide +kernel⟩
/-! ### papers compared -/
theorem eq_parts (M : List D) {w w' : D} (h : tupO w = true) (h' : tupO w' = true) (hd : depD w ≤ 40) (hd' : depD w' ≤ 40) : eqO M w w' = some (.bl (eqv w w')) := by
  have e : ∀ {x : D}, tupO x = true → valD M x = x := fun h => by
    cases ‹D› <;> first | rfl | cases h
  unfold eqO eqM
  rw [e h, e h']
  dsimp only
  rw [tupO_plain h, tupO_plain h', Nat.ble_eq.mpr hd, Nat.ble_eq.mpr hd']
  rfl
theorem eq12 {n c c' : Nat} {s s' : PySem.Str} {w w' : D} {M : List D} (hc : c = 0 ∨ c = 1) (hc' : c' = 0 ∨ c' = 1) (h : tupO w = true) (h' : tupO w' = true) (hd : depD w ≤ 40) (hd' : depD w' ≤ 40) : Fs (n + 1) 12 [pp c s w, pp c' s' w'] M = .ok (.bl (s == s' && eqv w w')) M := by
  have q := eq_parts M h h' hd hd'
  refine run_rt ?_
  show b12 (Fs n) [some (pp c s w), some (pp c' s' w')] M = _
  unfold b12
  refine ret_ok ?_
  have i1 : dIsi kt [.o 0] (dVar 1) [some (pp c s w), some (pp c' s' w')] M = .ok (.bl true) M := by rcases hc' with rfl | rfl <;> kernel_rfl
  have i2 : dOp (pureO eqO) (dFld kf "word" (dVar 0)) (dFld kf "word" (dVar 1)) [some (pp c s w), some (pp c' s' w')] M = .ok (.bl (s == s')) M := by rcases hc with rfl | rfl <;> rcases hc' with rfl | rfl <;> kernel_rfl
  have f1 : dFld kf "parts" (dVar 0) [some (pp c s w), some (pp c' s' w')] M = .ok w M := by rcases hc with rfl | rfl <;> kernel_rfl
  have f2 : dFld kf "parts" (dVar 1) [some (pp c s w), some (pp c' s' w')] M = .ok w' M := by rcases hc' with rfl | rfl <;> kernel_rfl
  have i3 : dOp (pureO eqO) (dFld kf "parts" (dVar 0)) (dFld kf "parts" (dVar 1)) [some (pp c s w), some (pp c' s' w')] M = .ok (.bl (eqv w w')) M := (op_ok f1 f2).trans (by show optE (eqO M w w') M = _; rw [q]; rfl)
  unfold dAnd
  rw [bnd_at i1]
  show bnd (dOp (pureO eqO) (dFld kf "word" (dVar 0)) (dFld kf "word" (dVar 1)) [some (pp c s w), some (pp c' s' w')]) _ M = _
  rw [bnd_at i2]
  cases hs : (s == s') with
  | false => rfl
  | true => exact i3
/-- nothing else equals a paper -/
theorem eq12_tup {n c : Nat} {s : PySem.Str} {w : D} {xs M : List D} : Fs (n + 1) 12 [pp c s w, .tup xs] M = .ok (.bl false) M := by
  refine run_rt ?_
  kernel_rfl
theorem eq12_str {n c : Nat} {s z : PySem.Str} {w : D} {M : List D} : Fs (n + 1) 12 [pp c s w, .str z] M = .ok (.bl false) M := by
  refine run_rt ?_
  kernel_rfl
theorem eqI_same {n c : Nat} {s s' : PySem.Str} {w w' : D} {M : List D} {b : Bool} (hc : c = 0 ∨ c = 1) (h : Fs n 12 [pp c s w, pp c s' w'] M = .ok (.bl b) M) : eqI kt (tbE (Fs n)) (pp c s w) (pp c s' w') M = .ok (.bl b) M := by
  have e : eqI kt (tbE (Fs n)) (pp c s w) (pp c s' w') M = blR (Fs n 12 [pp c s w, pp c s' w']) M := by rcases hc with rfl | rfl <;> kernel_rfl
  rw [e]
  unfold blR
  rw [bnd_at h]
  rfl
theorem neI_same {n c : Nat} {s s' : PySem.Str} {w w' : D} {M : List D} {b : Bool} (hc : c = 0 ∨ c = 1) (h : Fs n 12 [pp c s w, pp c s' w'] M = .ok (.bl b) M) : neI kt (tbE (Fs n)) (pp c s w) (pp c s' w') M = .ok (.bl (!b)) M := by
  have e : neI kt (tbE (Fs n)) (pp c s w) (pp c s' w') M = ntR (Fs n 12 [pp c s w, pp c s' w']) M := by rcases hc with rfl | rfl <;> kernel_rfl
  rw [e]
  unfold ntR
  rw [bnd_at h]
  rfl
theorem eqI_01 {n : Nat} {s s' : PySem.Str} {w w' : D} {M : List D} {b : Bool} (h : Fs n 12 [pp 1 s' w', pp 0 s w] M = .ok (.bl b) M) : eqI kt (tbE (Fs n)) (pp 0 s w) (pp 1 s' w') M = .ok (.bl b) M := by
  have e : eqI kt (tbE (Fs n)) (pp 0 s w) (pp 1 s' w') M = blR (Fs n 12 [pp 1 s' w', pp 0 s w]) M := by kernel_rfl
  rw [e]
  unfold blR
  rw [bnd_at h]
  rfl
theorem eqI_10 {n : Nat} {s s' : PySem.Str} {w w' : D} {M : List D} {b : Bool} (h : Fs n 12 [pp 1 s w, pp 0 s' w'] M = .ok (.bl b) M) : eqI kt (tbE (Fs n)) (pp 1 s w) (pp 0 s' w') M = .ok (.bl b) M := by
  have e : eqI kt (tbE (Fs n)) (pp 1 s w) (pp 0 s' w') M = blR (Fs n 12 [pp 1 s w, pp 0 s' w']) M := by kernel_rfl
  rw [e]
  unfold blR
  rw [bnd_at h]
  rfl
theorem eqI_tup {n c : Nat} {s : PySem.Str} {w : D} {xs M : List D} {b : Bool} (hc : c = 0 ∨ c = 1) (h : Fs n 12 [pp c s w, .tup xs] M = .ok (.bl b) M) : eqI kt (tbE (Fs n)) (pp c s w) (.tup xs) M = .ok (.bl b) M := by
  have e : eqI kt (tbE (Fs n)) (pp c s w) (.tup xs) M = blR (Fs n 12 [pp c s w, .tup xs]) M := by rcases hc with rfl | rfl <;> kernel_rfl
  rw [e]
  unfold blR
  rw [bnd_at h]
  rfl
theorem eqI_str {n c : Nat} {s z : PySem.Str} {w : D} {M : List D} {b : Bool} (hc : c = 0 ∨ c = 1) (h : Fs n 12 [pp c s w, .str z] M = .ok (.bl b) M) : eqI kt (tbE (Fs n)) (pp c s w) (.str z) M = .ok (.bl b) M := by
  have e : eqI kt (tbE (Fs n)) (pp c s w) (.str z) M = blR (Fs n 12 [pp c s w, .str z]) M := by rcases hc with rfl | rfl <;> kernel_rfl
  rw [e]
  unfold blR
  rw [bnd_at h]
  rfl
/-- repr: once -/
theorem reprs_ok {w : D} {d z : Nat} (h : Pt w d z) (hd : d ≤ 16) (hz : z ≤ 100000) : ∃ r, reprV 16 w = some (.str r) := repr_ok h.t h.s (Nat.le_trans h.d hd) (by have := h.z; have : PySem.sizeLine = 16777216 := rfl; omega)
theorem eqv_self {w : D} (h : tupO w = true) : eqv w w = true := eqv_refl w (tupO_plain h)
end Lw
namespace Lw
open Iv
def s7_1 (F : Nat → List D → Ev D) : DS := dPar [1, 2] (dCons (dCall 2 [] (F 5) (dCons (dVar 0) (dCons (dLit (.int 3)) (dNil)))) (dCons (dCall 2 [] (F 4) (dCons (dVar 0) (dCons (dLst (dCons (dLit (.str "known")) (dCons (dLit (.str "")) (dCons (dLit (.str "wall")) (dCons (dLit (.str "paper")) (dNil)))))) (dNil)))) (dNil)))
def s7_2 (F : Nat → List D → Ev D) : DS := dPar [3, 4] (dCons (dCel (dCons (dVar 1) (dCons (dLst (dCons (dLit (.int 1)) (dNil))) (dNil)))) (dCons (dDispC [(dLit (.str "u"), dLst (dCons (dVar 1) (dNil))), (dLit (.str "a"), dLit (.int 2))]) (dNil)))
def s7_3 (F : Nat → List D → Ev D) : DS := dAsg (dTup (dCons (dCall 1 [] (F 6) (dCons (dVar 1) (dNil))) (dCons (dTup (dCons (dCall 1 [] (F 6) (dCons (dVar 1) (dNil))) (dCons (dTup (dCons (dLit (.int 1)) (dNil))) (dNil)))) (dCons (dTup (dCons (dTup (dCons (dLit (.str "a")) (dCons (dLit (.int 2)) (dNil)))) (dCons (dTup (dCons (dLit (.str "u")) (dCons (dTup (dCons (dCall 1 [] (F 6) (dCons (dVar 1) (dNil))) (dNil))) (dNil)))) (dNil)))) (dNil))))) (gVar 5)
def c7_4_0 (F : Nat → List D → Ev D) : DT := dTru truO (dOp (pureO neO) (dBlt (oneO (reprV 16)) (dCons (dCall 1 [] (F 1) (dCons (dVar 1) (dNil))) (dNil))) (dBlt (oneO (reprV 16)) (dCons (dOp (pureO idxK) (dVar 5) (dLit (.int 0))) (dNil))))
def c7_4_1 (F : Nat → List D → Ev D) : DT := dTru truO (dOp (pureO neO) (dBlt (oneO (reprV 16)) (dCons (dCall 1 [] (F 1) (dCons (dCall 1 [] (F 1) (dCons (dVar 1) (dNil))) (dNil))) (dNil))) (dBlt (oneO (reprV 16)) (dCons (dOp (pureO idxK) (dVar 5) (dLit (.int 0))) (dNil))))
def s7_4 (F : Nat → List D → Ev D) : DS := dIf (dOrT (c7_4_0 F) (c7_4_1 F)) (dRet (dLit (.bl false))) (dNext)
def s7_5 (F : Nat → List D → Ev D) : DS := dPar [6, 7] (dCons (dMk 0 (fun _ => true) [] (F 10) (dCons (dVar 2) (dCons (dVar 1) (dCons (dVar 3) (dCons (dVar 4) (dNil)))))) (dCons (dMk 1 (fun _ => true) [] (F 10) (dCons (dVar 2) (dCons (dVar 1) (dCons (dVar 3) (dCons (dVar 4) (dNil)))))) (dNil)))
def s7_6 (F : Nat → List D → Ev D) : DS := dDrop (dMth isListD appendO (dVar 3) (dCons (dLit (.int 3)) (dNil)))
def s7_7 (F : Nat → List D → Ev D) : DS := dAsg (dLit (.int 4)) (gIxK (dVar 4) (dLit (.str "b")))
def c7_8_0 : DT := dTru truO (dOp (pureO neO) (dBlt (oneO (reprV 16)) (dCons (dFld kf "parts" (dVar 8)) (dNil))) (dBlt (oneO (reprV 16)) (dCons (dVar 5) (dNil))))
def c7_8_1 : DT := dTru truO (dOp (pureO neO) (dFld kf "word" (dVar 8)) (dVar 2))
def s7_8 (F : Nat → List D → Ev D) : DS := dFor (dIt (dTup (dCons (dVar 6) (dCons (dVar 7) (dNil))))) (gVar 8) (dIf (dOrT c7_8_0 c7_8_1) (dRet (dLit (.bl false))) (dNext))
def c7_9_0 (F : Nat → List D → Ev D) : DT := dNotT (dTru truO (dOp (eqI kt (tbE F)) (dVar 6) (dVar 7)))
def c7_9_1 (F : Nat → List D → Ev D) : DT := dNotT (dTru truO (dOp (eqI kt (tbE F)) (dVar 7) (dMk 0 (fun _ => true) [] (F 10) (dCons (dVar 2) (dCons (dOp (pureO idxK) (dVar 5) (dLit (.int 0))) (dCons (dOp (pureO idxK) (dVar 5) (dLit (.int 1))) (dCons (dOp (pureO idxK) (dVar 5) (dLit (.int 2))) (dNil))))))))
def c7_9_2 (F : Nat → List D → Ev D) : DT := dTru truO (dOp (eqI kt (tbE F)) (dVar 6) (dVar 5))
def c7_9_3 (F : Nat → List D → Ev D) : DT := dTru truO (dOp (eqI kt (tbE F)) (dVar 7) (dVar 2))
def s7_9 (F : Nat → List D → Ev D) : DS := dIf (dOrT (c7_9_0 F) (dOrT (c7_9_1 F) (dOrT (c7_9_2 F) (c7_9_3 F)))) (dRet (dLit (.bl false))) (dNext)
def s7_10 (F : Nat → List D → Ev D) : DS := dAsg (dCall 2 [] (F 5) (dCons (dVar 0) (dCons (dLit (.int 2)) (dNil)))) (gVar 9)
def s7_11 (F : Nat → List D → Ev D) : DS := dAsg (dOp (pureO eqO) (dCall 1 [] (F 6) (dCons (dVar 9) (dNil))) (dOp (pureO idxK) (dVar 5) (dLit (.int 0)))) (gVar 10)
def c7_12_0 (F : Nat → List D → Ev D) : DT := dTru truO (dOp (pureO neO) (dOp (eqI kt (tbE F)) (dMk 0 (fun _ => true) [] (F 10) (dCons (dVar 2) (dCons (dVar 9) (dCons (dSli (dVar 3) (dNoP) (dPart (dLit (.int 2)))) (dCons (dDisp [(dLit (.str "a"), dLit (.int 2)), (dLit (.str "u"), dLst (dCons (dVar 1) (dNil)))]) (dNil)))))) (dVar 6)) (dVar 10))
def c7_12_1 (F : Nat → List D → Ev D) : DT := dTru truO (dOp (eqI kt (tbE F)) (dMk 0 (fun _ => true) [] (F 10) (dCons (dVar 2) (dCons (dVar 1) (dCons (dVar 3) (dCons (dVar 4) (dNil)))))) (dVar 6))
def s7_12 (F : Nat → List D → Ev D) : DS := dIf (dOrT (c7_12_0 F) (c7_12_1 F)) (dRet (dLit (.bl false))) (dNext)
def s7_13 (F : Nat → List D → Ev D) : DS := dRet (dAnd truO (dOp (neI kt (tbE F)) (dVar 6) (dMk 0 (fun _ => true) [] (F 10) (dCons (dOp (pureO addO) (dVar 2) (dLit (.str "s"))) (dCons (dVar 1) (dCons (dOp (pureO idxK) (dVar 5) (dLit (.int 1))) (dCons (dDisp [(dLit (.str "a"), dLit (.int 2)), (dLit (.str "u"), dLst (dCons (dVar 1) (dNil)))]) (dNil))))))) (dAnd truO (dBlt (boolI (tbB F)) (dCons (dVar 6) (dNil))) (dNot (truI (tbB F)) (dVar 7))))
theorem b7_eq (F : Nat → List D → Ev D) : b7 F = (dSeq (s7_1 F) (dSeq (s7_2 F) (dSeq (s7_3 F) (dSeq (s7_4 F) (dSeq (s7_5 F) (dSeq (s7_6 F) (dSeq (s7_7 F) (dSeq (s7_8 F) (dSeq (s7_9 F) (dSeq (s7_10 F) (dSeq (s7_11 F) (dSeq (s7_12 F) (s7_13 F))))))))))))) := rfl
/-! ### parts that are due -/
def dueR (V : D) : D := .tup [V, .tup [.int 1]]
def dueT (V : D) : D := .tup [.tup [.str "a", .int 2], .tup [.str "u", .tup [V]]]
def dueD (V : D) : D := .tup [V, dueR V, dueT V]
def dueR3 (V : D) : D := .tup [V, .tup [.int 1], .int 3]
def dueT3 (V : D) : D := .tup [.tup [.str "a", .int 2], .tup [.str "b", .int 4], .tup [.str "u", .tup [V]]]
theorem tupO_cons {x : D} {xs : List D} (h : tupO x = true) (hs : tupOs xs = true) : tupOs (x :: xs) = true := by
  show (tupO x && tupOs xs) = true
  rw [h, hs]
  rfl
theorem tupO_tup {xs : List D} (hl : xs.length ≤ 100) (hs : tupOs xs = true) : tupO (.tup xs) = true := by
  show (Nat.ble xs.length 100 && tupOs xs) = true
  rw [Nat.ble_eq.mpr hl, hs]
  rfl
theorem depT {xs : List D} : depD (.tup xs) = depDs xs + 1 := rfl
theorem szT {xs : List D} : szD (.tup xs) = szDs xs + 2 := rfl
section
variable {V : D} {d z : Nat}
theorem ptI (i : Int) (h : shwD (.int i) = true) (hz : szD (.int i) ≤ z) : Pt (.int i) d z := .leaf rfl h _ _ hz
theorem Pt.tup3 {x y w : D} {D Z : Nat} (hx : Pt x d z) (hy : Pt y d z) (hw : Pt w d z) (h1 : d + 1 ≤ D) (h2 : 3 * (z + 2) + 2 ≤ Z) : Pt (.tup [x, y, w]) D Z :=
  (Pt.tup (xs := [x, y, w]) (by show 3 ≤ 100; decide) fun a ha => by
    simp only [List.mem_cons, List.not_mem_nil, or_false] at ha
    rcases ha with rfl | rfl | rfl <;> assumption).mono h1 h2
theorem Pt.tup2 {x y : D} {D Z : Nat} (hx : Pt x d z) (hy : Pt y d z) (h1 : d + 1 ≤ D) (h2 : 2 * (z + 2) + 2 ≤ Z) : Pt (.tup [x, y]) D Z :=
  (Pt.tup (xs := [x, y]) (by show 2 ≤ 100; decide) fun a ha => by
    simp only [List.mem_cons, List.not_mem_nil, or_false] at ha
    rcases ha with rfl | rfl <;> assumption).mono h1 h2
theorem Pt.tup1 {x : D} {D Z : Nat} (hx : Pt x d z) (h1 : d + 1 ≤ D) (h2 : z + 2 + 2 ≤ Z) : Pt (.tup [x]) D Z :=
  (Pt.tup (xs := [x]) (by show 1 ≤ 100; decide) fun a ha => by
    simp only [List.mem_cons, List.not_mem_nil, or_false] at ha
    rcases ha with rfl; assumption).mono h1 (by simp only [List.length_cons, List.length_nil]; omega)
theorem pti {i : Int} (d z : Nat) (h : shwD (.int i) = true ∧ szD (.int i) ≤ 10) (hz : 10 ≤ z) : Pt (.int i) d z := .leaf rfl h.1 _ _ (Nat.le_trans h.2 hz)
theorem pts {s : PySem.Str} (d z : Nat) (h : szD (.str s) ≤ 10) (hz : 10 ≤ z) : Pt (.str s) d z := .leaf rfl rfl _ _ (Nat.le_trans h hz)
theorem i1 : shwD (.int 1) = true ∧ szD (.int 1) ≤ 10 := ⟨by decide +kernel, by decide +kernel⟩
theorem i2 : shwD (.int 2) = true ∧ szD (.int 2) ≤ 10 := ⟨by decide +kernel, by decide +kernel⟩
theorem i3 : shwD (.int 3) = true ∧ szD (.int 3) ≤ 10 := ⟨by decide +kernel, by decide +kernel⟩
theorem i4 : shwD (.int 4) = true ∧ szD (.int 4) ≤ 10 := ⟨by decide +kernel, by decide +kernel⟩
theorem sa : szD (.str "a") ≤ 10 := by decide +kernel
theorem sb_ : szD (.str "b") ≤ 10 := by decide +kernel
theorem su : szD (.str "u") ≤ 10 := by decide +kernel
theorem dueR_pt (h : Pt V 6 2000) : Pt (dueR V) 9 6000 := .tup2 h (Pt.tup1 (d := 0) (z := 10) (pti _ _ i1 (by decide)) (by decide) (by decide)) (by decide) (by decide)
theorem dueR3_pt (h : Pt V 6 2000) : Pt (dueR3 V) 9 9000 := .tup3 h (Pt.tup1 (d := 0) (z := 10) (pti _ _ i1 (by decide)) (by decide) (by decide)) (pti _ _ i3 (by decide)) (by decide) (by decide)
theorem pairA : Pt (.tup [.str "a", .int 2]) 8 6000 := .tup2 (d := 0) (z := 10) (pts _ _ sa (by decide)) (pti _ _ i2 (by decide)) (by decide) (by decide)
theorem pairB : Pt (.tup [.str "b", .int 4]) 8 6000 := .tup2 (d := 0) (z := 10) (pts _ _ sb_ (by decide)) (pti _ _ i4 (by decide)) (by decide) (by decide)
theorem pairU (h : Pt V 6 2000) : Pt (.tup [.str "u", .tup [V]]) 8 6000 := .tup2 (d := 7) (z := 2100) (pts _ _ su (by decide)) (Pt.tup1 h (by decide) (by decide)) (by decide) (by decide)
theorem dueT_pt (h : Pt V 6 2000) : Pt (dueT V) 9 13000 := .tup2 pairA (pairU h) (by decide) (by decide)
theorem dueT3_pt (h : Pt V 6 2000) : Pt (dueT3 V) 9 19000 := .tup3 pairA pairB (pairU h) (by decide) (by decide)
theorem dueD_pt {U : D} (hU : Pt U 6 2000) (h : Pt V 6 2000) : Pt (.tup [U, dueR V, dueT V]) 10 40000 := .tup3 (d := 9) (z := 13000) (hU.mono (by decide) (by decide)) ((dueR_pt h).mono (by decide) (by decide)) (dueT_pt h) (by decide) (by decide)
theorem due3_pt (h : Pt V 6 2000) : Pt (.tup [V, dueR3 V, dueT3 V]) 10 60000 := .tup3 (d := 9) (z := 19000) (h.mono (by decide) (by decide)) ((dueR3_pt h).mono (by decide) (by decide)) (dueT3_pt h) (by decide) (by decide)
end
/-! ### three at once -/
theorem lc_three {te : DE} {it : DI} {δ : DEnv} {M : List D} {i : Nat} {p1 p2 p3 w1 w2 w3 : D} (hi : it δ M = .ok (.vals [p1, p2, p3]) M) (h1 : te ((wipeD δ [i]).set i (some p1)) M = .ok w1 M) (h2 : te ((wipeD δ [i]).set i (some p2)) M = .ok w2 M) (h3 : te ((wipeD δ [i]).set i (some p3)) M = .ok w3 M) :
    dLc it (gVar i) dYes te [i] δ M = .ok (.lst [w1, w2, w3]) M := by
  unfold dLc
  rw [bnd_at hi]
  show (if ([p1, p2, p3] : List D).length ≤ PySem.sizeLine then noX (bnd (lcs (.vals [p1, p2, p3]) (gVar i) dYes te (wipeD δ [i]) 3 0) fun ys => Iv.ret (D.lst ys)) else stuck) M = _
  rw [if_pos (small3 (show ([p1, p2, p3] : List D).length ≤ 100 from by show 3 ≤ 100; decide))]
  have l3 : lcs (.vals [p1, p2, p3]) (gVar i) dYes te (wipeD δ [i]) 1 2 M = .ok [w3] M := by
    show bnd (te ((wipeD δ [i]).set i (some p3))) (fun y => bnd (lcs (.vals [p1, p2, p3]) (gVar i) dYes te (wipeD δ [i]) 0 3) fun ys => Iv.ret (y :: ys)) M = _
    rw [bnd_at h3]
    rfl
  have l2 : lcs (.vals [p1, p2, p3]) (gVar i) dYes te (wipeD δ [i]) 2 1 M = .ok [w2, w3] M := by
    show bnd (te ((wipeD δ [i]).set i (some p2))) (fun y => bnd (lcs (.vals [p1, p2, p3]) (gVar i) dYes te (wipeD δ [i]) 1 2) fun ys => Iv.ret (y :: ys)) M = _
    rw [bnd_at h2, bnd_at l3]
    rfl
  have l1 : lcs (.vals [p1, p2, p3]) (gVar i) dYes te (wipeD δ [i]) 3 0 M = .ok [w1, w2, w3] M := by
    show bnd (te ((wipeD δ [i]).set i (some p1))) (fun y => bnd (lcs (.vals [p1, p2, p3]) (gVar i) dYes te (wipeD δ [i]) 2 1) fun ys => Iv.ret (y :: ys)) M = _
    rw [bnd_at h1, bnd_at l2]
    rfl
  unfold noX
  rw [bnd_at l1]
  rfl
theorem fix3 {n : Nat} {p1 p2 p3 w1 w2 w3 : D} {M : List D} (h1 : Fs n 1 [p1] M = .ok w1 M) (h2 : Fs n 1 [p2] M = .ok w2 M) (h3 : Fs n 1 [p3] M = .ok w3 M) : Fs (n + 1) 1 [.tup [p1, p2, p3]] M = .ok (.tup [w1, w2, w3]) M := by
  refine run_rt ?_
  show b1 (Fs n) [some (.tup [p1, p2, p3]), none, none] M = _
  unfold b1
  refine (seq_nx ((if_f (M' := M) (by kernel_rfl)).trans rfl)).trans ?_
  have te : ∀ {p w : D}, Fs n 1 [p] M = .ok w M → dCall 1 [] (Fs n 1) (dCons (dVar 2) dNil) ((wipeD [some (.tup [p1, p2, p3]), none, none] [2]).set 2 (some p)) M = .ok w M := fun {p w} h => (call_ok (ds := [p]) (cons_ok rfl rfl) rfl).trans h
  exact seq_rt ((if_t (M' := M) (by kernel_rfl)).trans (ret_ok ((blt_ok (cons_ok (lc_three (i := 2) rfl (te h1) (te h2) (te h3)) rfl)).trans rfl)))
/-! ### the row and the table -/
theorem vI (d : Nat) (i : Int) (h : shwD (.int i) = true ∧ szD (.int i) ≤ 10) : Vw d (.int i) := .leaf rfl h.1 (Nat.le_trans h.2 (by decide))
theorem row_ok {v : D} (hv : Vw 3 v) {p : D} {L : List D} (n : Nat) (hn : 6 ≤ n) : Fs n 1 [.cell 1] (p :: .lst [v, .lst [.int 1]] :: L) = .ok (dueR (fx v)) (p :: .lst [v, .lst [.int 1]] :: L) :=
  fixed_row (d := 3) (by show 2 ≤ 100; decide) (fun x hx => by
    simp only [List.mem_cons, List.not_mem_nil, or_false] at hx
    rcases hx with rfl | rfl
    · exact hv
    · exact .lst (by show 1 ≤ 3; decide) fun y hy => by
        simp only [List.mem_cons, List.not_mem_nil, or_false] at hy
        subst hy
        exact vI _ _ i1) n hn
theorem row3_ok {v : D} (hv : Vw 3 v) {p : D} {L : List D} (n : Nat) (hn : 6 ≤ n) : Fs n 1 [.cell 1] (p :: .lst [v, .lst [.int 1], .int 3] :: L) = .ok (dueR3 (fx v)) (p :: .lst [v, .lst [.int 1], .int 3] :: L) :=
  fixed_row (d := 3) (by show 3 ≤ 100; decide) (fun x hx => by
    simp only [List.mem_cons, List.not_mem_nil, or_false] at hx
    rcases hx with rfl | rfl | rfl
    · exact hv
    · exact .lst (by show 1 ≤ 3; decide) fun y hy => by
        simp only [List.mem_cons, List.not_mem_nil, or_false] at hy
        subst hy
        exact vI _ _ i1
    · exact vI _ _ i3) n hn
theorem srt2 : isort leD [.str "u", .str "a"] = [.str "a", .str "u"] := by kernel_rfl
theorem srt2' : isort leD [.str "a", .str "u"] = [.str "a", .str "u"] := by kernel_rfl
theorem srt3 : isort leD [.str "u", .str "a", .str "b"] = [.str "a", .str "b", .str "u"] := by kernel_rfl
theorem v1 {v : D} (hv : Vw 3 v) : Vw 4 (.lst [v]) := .lst (by show 1 ≤ 3; decide) fun x hx => by
  simp only [List.mem_cons, List.not_mem_nil, or_false] at hx
  subst hx
  exact hv
theorem tbl_ok {v : D} (hv : Vw 3 v) {p q : D} {L : List D} (n : Nat) (hn : 7 ≤ n) : Fs n 1 [.cell 2] (p :: q :: .dct [.str "u", .str "a"] [.lst [v], .int 2] :: L) = .ok (dueT (fx v)) (p :: q :: .dct [.str "u", .str "a"] [.lst [v], .int 2] :: L) := by
  obtain ⟨ss, ix, K⟩ := ky_c
  have e := K.srt
  rw [srt2] at e
  subst e
  exact fixed_tbl (vs := [.lst [v], .int 2]) K rfl (fun m => f0_tbl2 p q _ _ L m) (fun x hx => by
    simp only [List.mem_cons, List.not_mem_nil, or_false] at hx
    rcases hx with rfl | rfl
    · exact v1 hv
    · exact vI _ _ i2) n hn
theorem tbl3_ok {v : D} (hv : Vw 3 v) {p q : D} {L : List D} (n : Nat) (hn : 7 ≤ n) : Fs n 1 [.cell 2] (p :: q :: .dct [.str "u", .str "a", .str "b"] [.lst [v], .int 2, .int 4] :: L) = .ok (dueT3 (fx v)) (p :: q :: .dct [.str "u", .str "a", .str "b"] [.lst [v], .int 2, .int 4] :: L) := by
  obtain ⟨ss, ix, K⟩ := ky_a
  have e := K.srt
  rw [srt3] at e
  subst e
  exact fixed_tbl (vs := [.lst [v], .int 2, .int 4]) K rfl (fun m => f0_tbl3 p q _ _ _ L m) (fun x hx => by
    simp only [List.mem_cons, List.not_mem_nil, or_false] at hx
    rcases hx with rfl | rfl | rfl
    · exact v1 hv
    · exact vI _ _ i2
    · exact vI _ _ i4) n hn
theorem dv_ok {v : D} (hv : Vw 3 v) (n : Nat) (hn : 7 ≤ n) (M : List D) : Fs n 1 [.dct [.str "a", .str "u"] [.int 2, .lst [v]]] M = .ok (dueT (fx v)) M := by
  have h := fixed_ok (d := 5) (v := .dct [.str "a", .str "u"] [.int 2, .lst [v]]) (.dct ky_b rfl fun x hx => by
    simp only [List.mem_cons, List.not_mem_nil, or_false] at hx
    rcases hx with rfl | rfl
    · exact vI _ _ i2
    · exact v1 hv) n M hn
  rw [fx, srt2'] at h
  exact h
theorem rv_ok {v : D} (hv : Vw 3 v) (n : Nat) (hn : 6 ≤ n) (M : List D) : Fs n 1 [.lst [v, .lst [.int 1]]] M = .ok (dueR (fx v)) M :=
  fixed_ok (d := 4) (v := .lst [v, .lst [.int 1]]) (.lst (by show 2 ≤ 3; decide) fun x hx => by
    simp only [List.mem_cons, List.not_mem_nil, or_false] at hx
    rcases hx with rfl | rfl
    · exact hv
    · exact .lst (by show 1 ≤ 3; decide) fun y hy => by
        simp only [List.mem_cons, List.not_mem_nil, or_false] at hy
        subst hy
        exact vI _ _ i1) n M hn
end Lw
namespace Lw
open Iv
theorem lows_all {n : Nat} : ∀ {ds : List D}, (∀ d ∈ ds, low n d = true) → lows n ds = true
  | [], _ => rfl
  | d :: ds, h => by
    show (low n d && lows n ds) = true
    rw [h d List.mem_cons_self, lows_all fun x hx => h x (List.mem_cons_of_mem _ hx)]
    rfl
theorem vw_low (n : Nat) : ∀ {d : Nat} {v : D}, Vw d v → low n v = true
  | _, v, .leaf h _ _ => by cases v <;> first | rfl | cases h
  | d + 1, .lst xs, .lst _ h => lows_all (ds := xs) fun x hx => vw_low n (h x hx)
  | d + 1, .tup xs, .tup _ h => lows_all (ds := xs) fun x hx => vw_low n (h x hx)
  | d + 1, .dct ks vs, .dct _ _ h => lows_all (ds := vs) fun x hx => vw_low n (h x hx)
theorem pn_low (n : Nat) (ns : List Int) (a g : Int) : low n (pn ns a g) = true := by
  show (lows n (ns.map D.int) && true) = true
  rw [lows_all fun d hd => by obtain ⟨i, _, rfl⟩ := List.mem_map.mp hd; rfl]
  rfl
abbrev row1 (v : D) : D := .lst [v, .lst [.int 1]]
abbrev tbl1 (v : D) : D := .dct [.str "u", .str "a"] [.lst [v], .int 2]
abbrev row2 (v : D) : D := .lst [v, .lst [.int 1], .int 3]
abbrev tbl2 (v : D) : D := .dct [.str "u", .str "a", .str "b"] [.lst [v], .int 2, .int 4]
theorem m1_low {v p : D} (hv : Vw 3 v) (hp : low 3 p = true) : lows 3 [p, row1 v, tbl1 v] = true := by
  have h := vw_low 3 hv
  show (low 3 p && ((low 3 v && true) && (((low 3 v && true) && true) && true))) = true
  rw [hp, h]
  rfl
theorem m2_low {v p : D} (hv : Vw 3 v) (hp : low 3 p = true) : lows 3 [p, row2 v, tbl2 v] = true := by
  have h := vw_low 3 hv
  show (low 3 p && ((low 3 v && true) && (((low 3 v && true) && true) && true))) = true
  rw [hp, h]
  rfl
theorem par_ok {is : List Nat} {as : DA} {δ δ' : DEnv} {M M' : List D} {ds : List D} (h : as δ M = .ok ds M') (hs : setAll is ds δ = some δ') : dPar is as δ M = .ok (.nx δ') M' := by
  unfold dPar lft
  rw [h]
  dsimp only
  rw [hs]
  rfl
theorem ne_self (M : List D) (r : PySem.Str) : neO M (.str r) (.str r) = some (.bl false) := by
  show some (D.bl (!(r == r))) = _
  rw [beq_self_eq_true]
  rfl
theorem reprq {e : DE} {δ : DEnv} {M : List D} {w : D} {r : PySem.Str} (h : e δ M = .ok w M) (hr : reprV 16 w = some (.str r)) : dBlt (oneO (reprV 16)) (dCons e dNil) δ M = .ok (.str r) M := by
  rw [blt_ok (cons_ok h rfl)]
  show optE (reprV 16 w) M = _
  rw [hr]
  rfl
/-- the same text twice: no difference -/
theorem ne_repr {e e' : DE} {δ : DEnv} {M : List D} {w : D} {r : PySem.Str} (hr : reprV 16 w = some (.str r)) (h : e δ M = .ok w M) (h' : e' δ M = .ok w M) : dTru truO (dOp (pureO neO) (dBlt (oneO (reprV 16)) (dCons e dNil)) (dBlt (oneO (reprV 16)) (dCons e' dNil))) δ M = .ok false M := by
  refine (tru_ok (x := .bl false) (M' := M) ((op_ok (reprq h hr) (reprq h' hr)).trans ?_)).trans rfl
  show optE (neO M (.str r) (.str r)) M = _
  rw [ne_self]
  rfl
theorem or_ff {a b : DT} {δ : DEnv} {M M1 M2 : List D} (h : a δ M = .ok false M1) (h2 : b δ M1 = .ok false M2) : dOrT a b δ M = .ok false M2 := by
  unfold dOrT
  rw [bnd_at h]
  exact h2
theorem not_t {a : DT} {δ : DEnv} {M M1 : List D} (h : a δ M = .ok true M1) : dNotT a δ M = .ok false M1 := by
  unfold dNotT
  rw [bnd_at h]
  rfl
theorem truB {e : DE} {δ : DEnv} {M M1 : List D} {b : Bool} (h : e δ M = .ok (.bl b) M1) : dTru truO e δ M = .ok b M1 := (tru_ok h).trans rfl
theorem isn_ff {c : DT} {X : DS} {δ : DEnv} {M M1 : List D} (h : c δ M = .ok false M1) : dIf c X dNext δ M = .ok (.nx δ) M1 := (if_f h).trans rfl
section
variable {v : D} {s : PySem.Str} {p pe : D} {n : Nat}
/-- the drawn value and word -/
theorem s1_ok (ns : List Int) (a g : Int) (B : Nat) (hp : Pk a g (B : Int)) (hB : B + 200 < 2 ^ 20) (hn : 14 ≤ n) : ∃ v s a' g', Vw 3 v ∧ s7_1 (Fs n) [some (.cell 0), none, none, none, none, none, none, none, none, none, none] [pn ns a g] = .ok (.nx [some (.cell 0), some v, some (.str s), none, none, none, none, none, none, none, none]) [pn ns a' g'] ∧ Pk a' g' ((B + 121 : Nat) : Int) := by
  obtain ⟨n, rfl⟩ : ∃ m, n = m + 2 := ⟨n - 2, by omega⟩
  obtain ⟨v, a1, g1, hv, e1, p1⟩ := value_ok ns [] 3 (n + 2) a g B (by omega) hp (by simp only [Wv]; omega)
  obtain ⟨d, a2, g2, hd, e2, p2⟩ := pick_lst n ns [.str "known", .str "", .str "wall", .str "paper"] a1 g1 _ [] p1 (by simp only [Wv]; omega) (by decide) (by decide)
  have hs : ∃ s, d = .str s := by
    simp only [List.mem_cons, List.not_mem_nil, or_false] at hd
    rcases hd with rfl | rfl | rfl | rfl <;> exact ⟨_, rfl⟩
  obtain ⟨s, rfl⟩ := hs
  refine ⟨v, s, a2, g2, hv, ?_, p2.up (by simp only [Wv]; omega)⟩
  unfold s7_1
  exact par_ok (cons_ok ((call2_ok (x := .cell 0) (y := .int 3) rfl rfl).trans e1) (cons_ok ((call2_ok (x := .cell 0) (y := .lst [.str "known", .str "", .str "wall", .str "paper"]) rfl (by kernel_rfl)).trans e2) rfl)) rfl
theorem s2_ok : s7_2 (Fs n) [some (.cell 0), some v, some (.str s), none, none, none, none, none, none, none, none] [p] = .ok (.nx [some (.cell 0), some v, some (.str s), some (.cell 1), some (.cell 2), none, none, none, none, none, none]) [p, row1 v, tbl1 v] := by
  unfold s7_2
  kernel_rfl
abbrev δ5 (v : D) (s : PySem.Str) : DEnv := [some (.cell 0), some v, some (.str s), some (.cell 1), some (.cell 2), none, none, none, none, none, none]
theorem tup1_ok {e : DE} {δ : DEnv} {M : List D} {x : D} (h : e δ M = .ok x M) : dTup (dCons e dNil) δ M = .ok (.tup [x]) M := by
  unfold dTup
  rw [bnd_at (cons_ok h rfl)]
  rw [if_pos (small3 (show [x].length ≤ 100 from by show 1 ≤ 100; decide))]
  rfl
theorem tup3_ok {e e2 e3 : DE} {δ : DEnv} {M : List D} {x y z : D} (h : e δ M = .ok x M) (h2 : e2 δ M = .ok y M) (h3 : e3 δ M = .ok z M) : dTup (dCons e (dCons e2 (dCons e3 dNil))) δ M = .ok (.tup [x, y, z]) M := by
  unfold dTup
  rw [bnd_at (cons_ok h (cons_ok h2 (cons_ok h3 rfl)))]
  rw [if_pos (small3 (show [x, y, z].length ≤ 100 from by show 3 ≤ 100; decide))]
  rfl
theorem s3_ok (hv : Vw 3 v) (hp : low 3 p = true) (hn : 14 ≤ n) : s7_3 (Fs n) (δ5 v s) [p, row1 v, tbl1 v] = .ok (.nx [some (.cell 0), some v, some (.str s), some (.cell 1), some (.cell 2), some (dueD (fx v)), none, none, none, none, none]) [p, row1 v, tbl1 v] := by
  have f6 : dCall 1 [] (Fs n 6) (dCons (dVar 1) dNil) (δ5 v s) [p, row1 v, tbl1 v] = .ok (fx v) [p, row1 v, tbl1 v] := (call_ok (ds := [v]) (cons_ok rfl rfl) rfl).trans (lawfixed_ok hv n _ (by omega) (m1_low hv hp))
  unfold s7_3
  exact asgM (tup3_ok f6 (tup2_ok f6 (tup1_ok rfl)) (tup2_ok (tup2_ok rfl rfl) (tup2_ok rfl (tup1_ok f6))))
abbrev δ6 (v : D) (s : PySem.Str) (V : D) : DEnv := [some (.cell 0), some v, some (.str s), some (.cell 1), some (.cell 2), some (dueD V), none, none, none, none, none]
theorem s4_ok (hv : Vw 3 v) (hn : 14 ≤ n) : s7_4 (Fs n) (δ6 v s (fx v)) [p, row1 v, tbl1 v] = .ok (.nx (δ6 v s (fx v))) [p, row1 v, tbl1 v] := by
  have P := fx_pt hv
  obtain ⟨r, hr⟩ := reprs_ok P (by decide) (by decide)
  have f1 : dCall 1 [] (Fs n 1) (dCons (dVar 1) dNil) (δ6 v s (fx v)) [p, row1 v, tbl1 v] = .ok (fx v) [p, row1 v, tbl1 v] := (call_ok (ds := [v]) (cons_ok rfl rfl) rfl).trans (fixed_ok hv n _ (by omega))
  have f2 : dCall 1 [] (Fs n 1) (dCons (dCall 1 [] (Fs n 1) (dCons (dVar 1) dNil)) dNil) (δ6 v s (fx v)) [p, row1 v, tbl1 v] = .ok (fx v) [p, row1 v, tbl1 v] := (call_ok (ds := [fx v]) (cons_ok f1 rfl) rfl).trans (fixed_tup 6 P.t P.d n _ (by omega))
  have ix : dOp (pureO idxK) (dVar 5) (dLit (.int 0)) (δ6 v s (fx v)) [p, row1 v, tbl1 v] = .ok (fx v) [p, row1 v, tbl1 v] := (op_ok rfl rfl).trans (by kernel_rfl)
  unfold s7_4
  exact isn_ff (or_ff (ne_repr hr f1 ix) (ne_repr hr f2 ix))
end
end Lw
namespace Lw
open Iv
section
variable {v : D} {s : PySem.Str} {p pe : D} {n : Nat}
theorem fx6 (hv : Vw 3 v) : Pt (fx v) 6 2000 := (fx_pt hv).mono (by decide) (by decide)
theorem cons0 {e : DE} {as : DA} {δ : DEnv} {M : List D} {d : D} {ds : List D} (h : e δ M = .ok d M) (h2 : as δ M = .ok ds M) : dCons e as δ M = .ok (d :: ds) M := cons_ok h h2
abbrev δ8 (v : D) (s : PySem.Str) (V : D) : DEnv := [some (.cell 0), some v, some (.str s), some (.cell 1), some (.cell 2), some (dueD V), some (pp 0 s (dueD V)), some (pp 1 s (dueD V)), none, none, none]
abbrev δ9 (v : D) (s : PySem.Str) (V : D) : DEnv := [some (.cell 0), some v, some (.str s), some (.cell 1), some (.cell 2), some (dueD V), some (pp 0 s (dueD V)), some (pp 1 s (dueD V)), some (pp 1 s (dueD V)), none, none]
theorem mk7_ok {c : Nat} {m : Nat} {p1 p2 p3 w : D} {M : List D} {δ : DEnv} {as : DA} (hm : 15 ≤ m) (hc : c = 0 ∨ c = 1) (ha : as δ M = .ok [.str s, p1, p2, p3] M) (hM : lows M.length M = true) (hw : tupO w = true) (h : ∀ n x, 12 ≤ n → Fs (n + 1) 1 [.tup [p1, p2, p3]] (M ++ [x]) = .ok w (M ++ [x])) : dMk c (fun _ => true) [] (Fs m 10) as δ M = .ok (pp c s w) M := by
  obtain ⟨m, rfl⟩ : ∃ k, m = k + 1 + 1 := ⟨m - 2, by omega⟩
  rcases hc with rfl | rfl
  · exact mk_ok ha kf0 hM hw fun x => h m x (by omega)
  · exact mk_ok ha kf1 hM hw fun x => h m x (by omega)
theorem s5_ok (hv : Vw 3 v) (hp : low 3 p = true) (hn : 15 ≤ n) : s7_5 (Fs n) (δ6 v s (fx v)) [p, row1 v, tbl1 v] = .ok (.nx (δ8 v s (fx v))) [p, row1 v, tbl1 v] := by
  have W : Pt (dueD (fx v)) 10 40000 := dueD_pt (fx6 hv) (fx6 hv)
  have hM := m1_low hv hp
  have h : ∀ n x, 12 ≤ n → Fs (n + 1) 1 [.tup [v, .cell 1, .cell 2]] ([p, row1 v, tbl1 v] ++ [x]) = .ok (dueD (fx v)) ([p, row1 v, tbl1 v] ++ [x]) := fun n x hn => fix3 (fixed_ok hv n _ (by omega)) (row_ok (L := [tbl1 v, x]) hv n (by omega)) (tbl_ok (L := [x]) hv n (by omega))
  unfold s7_5
  exact par_ok (cons_ok (mk7_ok hn (.inl rfl) rfl hM W.t h) (cons_ok (mk7_ok hn (.inr rfl) rfl hM W.t h) rfl)) rfl
theorem s6_ok : s7_6 (Fs n) (δ8 v s pe) [p, row1 v, tbl1 v] = .ok (.nx (δ8 v s pe)) [p, row2 v, tbl1 v] := by
  unfold s7_6
  kernel_rfl
theorem s7_ok : s7_7 (Fs n) (δ8 v s pe) [p, row2 v, tbl1 v] = .ok (.nx (δ8 v s pe)) [p, row2 v, tbl2 v] := by
  unfold s7_7
  kernel_rfl
theorem ne_word {δ : DEnv} {c : Nat} {w : D} (hc : c = 0 ∨ c = 1) (M : List D) (h2 : δ[2]? = some (some (.str s))) (h8 : δ[8]? = some (some (pp c s w))) : c7_8_1 δ M = .ok false M := by
  have e1 : dFld kf "word" (dVar 8) δ M = .ok (.str s) M := by
    have : dVar 8 δ M = .ok (pp c s w) M := by unfold dVar; rw [h8]; rfl
    unfold dFld
    rw [bnd_at this]
    rcases hc with rfl | rfl <;> kernel_rfl
  have e2 : dVar 2 δ M = .ok (.str s) M := by unfold dVar; rw [h2]; rfl
  refine (tru_ok (x := .bl false) (M' := M) ((op_ok e1 e2).trans ?_)).trans rfl
  show optE (neO M (.str s) (.str s)) M = _
  rw [ne_self]
  rfl
theorem ne_parts {δ : DEnv} {c : Nat} {w : D} {r : PySem.Str} (hr : reprV 16 w = some (.str r)) (hc : c = 0 ∨ c = 1) (M : List D) (h5 : δ[5]? = some (some w)) (h8 : δ[8]? = some (some (pp c s w))) : c7_8_0 δ M = .ok false M := by
  have e1 : dFld kf "parts" (dVar 8) δ M = .ok w M := by
    have : dVar 8 δ M = .ok (pp c s w) M := by unfold dVar; rw [h8]; rfl
    unfold dFld
    rw [bnd_at this]
    rcases hc with rfl | rfl <;> kernel_rfl
  have e2 : dVar 5 δ M = .ok w M := by unfold dVar; rw [h5]; rfl
  exact ne_repr hr e1 e2
theorem s8_ok (hv : Vw 3 v) {M : List D} : s7_8 (Fs n) (δ8 v s (fx v)) M = .ok (.nx (δ9 v s (fx v))) M := by
  have W : Pt (dueD (fx v)) 10 40000 := dueD_pt (fx6 hv) (fx6 hv)
  obtain ⟨r, hr⟩ := reprs_ok W (by decide) (by decide)
  unfold s7_8
  have it : dIt (dTup (dCons (dVar 6) (dCons (dVar 7) dNil))) (δ8 v s (fx v)) M = .ok (.vals [pp 0 s (dueD (fx v)), pp 1 s (dueD (fx v))]) M := by kernel_rfl
  rw [for_ok it]
  have t0 : dIf (dOrT c7_8_0 c7_8_1) (dRet (dLit (.bl false))) dNext ((δ8 v s (fx v)).set 8 (some (pp 0 s (dueD (fx v))))) M = .ok (.nx ((δ8 v s (fx v)).set 8 (some (pp 0 s (dueD (fx v)))))) M := isn_ff (or_ff (ne_parts hr (.inl rfl) M rfl rfl) (ne_word (.inl rfl) M rfl rfl))
  have t1 : dIf (dOrT c7_8_0 c7_8_1) (dRet (dLit (.bl false))) dNext (δ9 v s (fx v)) M = .ok (.nx (δ9 v s (fx v))) M := isn_ff (or_ff (ne_parts hr (.inr rfl) M rfl rfl) (ne_word (.inr rfl) M rfl rfl))
  have u1 : turns (.vals [pp 0 s (dueD (fx v)), pp 1 s (dueD (fx v))]) (gVar 8) (dIf (dOrT c7_8_0 c7_8_1) (dRet (dLit (.bl false))) dNext) 1 1 ((δ8 v s (fx v)).set 8 (some (pp 0 s (dueD (fx v))))) M = .ok (.nx (δ9 v s (fx v))) M := by
    show bnd (dIf (dOrT c7_8_0 c7_8_1) (dRet (dLit (.bl false))) dNext (δ9 v s (fx v))) _ M = _
    rw [bnd_at t1]
    rfl
  show bnd (dIf (dOrT c7_8_0 c7_8_1) (dRet (dLit (.bl false))) dNext ((δ8 v s (fx v)).set 8 (some (pp 0 s (dueD (fx v)))))) _ M = _
  rw [bnd_at t0]
  exact u1
theorem or_4 {a b c d : DT} {δ : DEnv} {M : List D} (h1 : a δ M = .ok false M) (h2 : b δ M = .ok false M) (h3 : c δ M = .ok false M) (h4 : d δ M = .ok false M) : dOrT a (dOrT b (dOrT c d)) δ M = .ok false M := or_ff h1 (or_ff h2 (or_ff h3 h4))
theorem s9_ok (hv : Vw 3 v) (hp : low 3 p = true) (hn : 15 ≤ n) : s7_9 (Fs n) (δ9 v s (fx v)) [p, row2 v, tbl2 v] = .ok (.nx (δ9 v s (fx v))) [p, row2 v, tbl2 v] := by
  have P := fx6 hv
  have W : Pt (dueD (fx v)) 10 40000 := dueD_pt P P
  have hM := m2_low hv hp
  obtain ⟨m, rfl⟩ : ∃ m, n = m + 1 := ⟨n - 1, by omega⟩
  have self : ∀ (c c' : Nat) (M : List D), (c = 0 ∨ c = 1) → (c' = 0 ∨ c' = 1) → Fs (m + 1) 12 [pp c s (dueD (fx v)), pp c' s (dueD (fx v))] M = .ok (.bl true) M := fun c c' M h h' => by
    rw [eq12 h h' W.t W.t (Nat.le_trans W.d (by decide)) (Nat.le_trans W.d (by decide)), eqv_self W.t, beq_self_eq_true]
    rfl
  have k0 : c7_9_0 (Fs (m + 1)) (δ9 v s (fx v)) [p, row2 v, tbl2 v] = .ok false [p, row2 v, tbl2 v] :=
    not_t (truB ((op_ok rfl rfl).trans (eqI_01 (self 1 0 _ (.inr rfl) (.inl rfl)))))
  have mk : dMk 0 (fun _ => true) [] (Fs (m + 1) 10) (dCons (dVar 2) (dCons (dOp (pureO idxK) (dVar 5) (dLit (.int 0))) (dCons (dOp (pureO idxK) (dVar 5) (dLit (.int 1))) (dCons (dOp (pureO idxK) (dVar 5) (dLit (.int 2))) (dNil))))) (δ9 v s (fx v)) [p, row2 v, tbl2 v] = .ok (pp 0 s (dueD (fx v))) [p, row2 v, tbl2 v] := by
    refine mk7_ok (p1 := fx v) (p2 := dueR (fx v)) (p3 := dueT (fx v)) hn (.inl rfl) (cons0 rfl (cons0 ((op_ok rfl rfl).trans (by kernel_rfl)) (cons0 ((op_ok rfl rfl).trans (by kernel_rfl)) (cons0 ((op_ok rfl rfl).trans (by kernel_rfl)) rfl)))) hM W.t fun n x hn => ?_
    exact fix3 (fixed_tup 9 P.t (Nat.le_trans P.d (by decide)) n _ (by omega)) (fixed_tup 9 (dueR_pt P).t (dueR_pt P).d n _ (by omega)) (fixed_tup 9 (dueT_pt P).t (dueT_pt P).d n _ (by omega))
  have k1 : c7_9_1 (Fs (m + 1)) (δ9 v s (fx v)) [p, row2 v, tbl2 v] = .ok false [p, row2 v, tbl2 v] :=
    not_t (truB ((op_ok rfl mk).trans (eqI_10 (self 1 0 _ (.inr rfl) (.inl rfl)))))
  have k2 : c7_9_2 (Fs (m + 1)) (δ9 v s (fx v)) [p, row2 v, tbl2 v] = .ok false [p, row2 v, tbl2 v] :=
    truB ((op_ok rfl rfl).trans (eqI_tup (.inl rfl) eq12_tup))
  have k3 : c7_9_3 (Fs (m + 1)) (δ9 v s (fx v)) [p, row2 v, tbl2 v] = .ok false [p, row2 v, tbl2 v] :=
    truB ((op_ok rfl rfl).trans (eqI_str (.inr rfl) eq12_str))
  unfold s7_9
  exact isn_ff (or_4 k0 k1 k2 k3)
end
end Lw
namespace Lw
open Iv
section
variable {v o : D} {s : PySem.Str} {p pe : D} {n : Nat}
abbrev δA (v : D) (s : PySem.Str) (V o : D) : DEnv := [some (.cell 0), some v, some (.str s), some (.cell 1), some (.cell 2), some (dueD V), some (pp 0 s (dueD V)), some (pp 1 s (dueD V)), some (pp 1 s (dueD V)), some o, none]
abbrev δB (v : D) (s : PySem.Str) (V o : D) (b : Bool) : DEnv := [some (.cell 0), some v, some (.str s), some (.cell 1), some (.cell 2), some (dueD V), some (pp 0 s (dueD V)), some (pp 1 s (dueD V)), some (pp 1 s (dueD V)), some o, some (.bl b)]
theorem s10_ok (ns : List Int) (a g : Int) (B : Nat) (L : List D) (hp : Pk a g (B : Int)) (hB : B + 200 < 2 ^ 20) (hn : 15 ≤ n) : ∃ o a' g', Vw 2 o ∧ s7_10 (Fs n) (δ9 v s pe) (pn ns a g :: L) = .ok (.nx (δA v s pe o)) (pn ns a' g' :: L) ∧ Pk a' g' ((B + 21 : Nat) : Int) := by
  obtain ⟨o, a1, g1, ho, e1, p1⟩ := value_ok ns L 2 n a g B (by omega) hp (by simp only [Wv]; omega)
  refine ⟨o, a1, g1, ho, ?_, p1.up (by simp only [Wv]; omega)⟩
  unfold s7_10
  exact asgM ((call2_ok (x := .cell 0) (y := .int 2) rfl rfl).trans e1)
theorem vw_up : ∀ {d : Nat} {v : D}, Vw d v → tupO (fx v) = true ∧ depD (fx v) ≤ 2 * d := fun h => ⟨(fx_pt h).t, (fx_pt h).d⟩
theorem s11_ok (hv : Vw 3 v) (ho : Vw 2 o) (hp : low 3 p = true) (hn : 15 ≤ n) : s7_11 (Fs n) (δA v s (fx v) o) [p, row2 v, tbl2 v] = .ok (.nx (δB v s (fx v) o (eqv (fx o) (fx v)))) [p, row2 v, tbl2 v] := by
  have P := fx6 hv
  have f6 : dCall 1 [] (Fs n 6) (dCons (dVar 9) dNil) (δA v s (fx v) o) [p, row2 v, tbl2 v] = .ok (fx o) [p, row2 v, tbl2 v] := (call_ok (ds := [o]) (cons_ok rfl rfl) rfl).trans (lawfixed_ok ho n _ (by omega) (m2_low hv hp))
  have ix : dOp (pureO idxK) (dVar 5) (dLit (.int 0)) (δA v s (fx v) o) [p, row2 v, tbl2 v] = .ok (fx v) [p, row2 v, tbl2 v] := (op_ok rfl rfl).trans (by kernel_rfl)
  unfold s7_11
  refine asgM ((op_ok f6 ix).trans ?_)
  show optE (eqO _ (fx o) (fx v)) _ = _
  rw [eq_parts _ (vw_up ho).1 P.t (Nat.le_trans (vw_up ho).2 (by decide)) (Nat.le_trans P.d (by decide))]
  rfl
theorem nvd_low (hv : Vw 3 v) : True := trivial
theorem s12_ok (hv : Vw 3 v) (ho : Vw 2 o) (hp : low 3 p = true) (hn : 15 ≤ n) : s7_12 (Fs n) (δB v s (fx v) o (eqv (fx o) (fx v))) [p, row2 v, tbl2 v] = .ok (.nx (δB v s (fx v) o (eqv (fx o) (fx v)))) [p, row2 v, tbl2 v] := by
  have P := fx6 hv
  have Q : Pt (fx o) 6 2000 := (fx_pt ho).mono (by decide) (by decide)
  have W : Pt (dueD (fx v)) 10 40000 := dueD_pt P P
  have W1 : Pt (.tup [fx o, dueR (fx v), dueT (fx v)]) 10 40000 := dueD_pt Q P
  have W3 : Pt (.tup [fx v, dueR3 (fx v), dueT3 (fx v)]) 10 60000 := due3_pt P
  have hM := m2_low hv hp
  obtain ⟨m, rfl⟩ : ∃ m, n = m + 1 := ⟨n - 1, by omega⟩
  have mk0 : dMk 0 (fun _ => true) [] (Fs (m + 1) 10) (dCons (dVar 2) (dCons (dVar 9) (dCons (dSli (dVar 3) (dNoP) (dPart (dLit (.int 2)))) (dCons (dDisp [(dLit (.str "a"), dLit (.int 2)), (dLit (.str "u"), dLst (dCons (dVar 1) (dNil)))]) (dNil))))) (δB v s (fx v) o (eqv (fx o) (fx v))) [p, row2 v, tbl2 v] = .ok (pp 0 s (.tup [fx o, dueR (fx v), dueT (fx v)])) [p, row2 v, tbl2 v] := by
    refine mk7_ok (p1 := o) (p2 := row1 v) (p3 := .dct [.str "a", .str "u"] [.int 2, .lst [v]]) hn (.inl rfl) (cons0 rfl (cons0 rfl (cons0 (by kernel_rfl) (cons0 (by kernel_rfl) rfl)))) hM W1.t fun n x hn => ?_
    exact fix3 (fixed_ok ho n _ (by omega)) (rv_ok hv n (by omega) _) (dv_ok hv n (by omega) _)
  have mk1 : dMk 0 (fun _ => true) [] (Fs (m + 1) 10) (dCons (dVar 2) (dCons (dVar 1) (dCons (dVar 3) (dCons (dVar 4) (dNil))))) (δB v s (fx v) o (eqv (fx o) (fx v))) [p, row2 v, tbl2 v] = .ok (pp 0 s (.tup [fx v, dueR3 (fx v), dueT3 (fx v)])) [p, row2 v, tbl2 v] := by
    refine mk7_ok (p1 := v) (p2 := .cell 1) (p3 := .cell 2) hn (.inl rfl) rfl hM W3.t fun n x hn => ?_
    exact fix3 (fixed_ok hv n _ (by omega)) (row3_ok (L := [tbl2 v, x]) hv n (by omega)) (tbl3_ok (L := [x]) hv n (by omega))
  have q0 : (s == s && eqv (.tup [fx o, dueR (fx v), dueT (fx v)]) (dueD (fx v))) = eqv (fx o) (fx v) := by
    rw [beq_self_eq_true]
    show (true && (eqv (fx o) (fx v) && (eqv (dueR (fx v)) (dueR (fx v)) && (eqv (dueT (fx v)) (dueT (fx v)) && true)))) = _
    rw [eqv_self (dueR_pt P).t, eqv_self (dueT_pt P).t]
    cases eqv (fx o) (fx v) <;> rfl
  have q1 : (s == s && eqv (.tup [fx v, dueR3 (fx v), dueT3 (fx v)]) (dueD (fx v))) = false := by
    rw [beq_self_eq_true]
    show (true && (eqv (fx v) (fx v) && ((eqv (fx v) (fx v) && (eqv (.tup [.int 1]) (.tup [.int 1]) && false)) && eqvs [dueT3 (fx v)] [dueT (fx v)]))) = _
    rw [Bool.and_false, Bool.and_false, Bool.false_and, Bool.and_false, Bool.and_false]
  have k0 : c7_12_0 (Fs (m + 1)) (δB v s (fx v) o (eqv (fx o) (fx v))) [p, row2 v, tbl2 v] = .ok false [p, row2 v, tbl2 v] := by
    refine truB ((op_ok ((op_ok mk0 rfl).trans (eqI_same (.inl rfl) (eq12 (.inl rfl) (.inl rfl) W1.t W.t (Nat.le_trans W1.d (by decide)) (Nat.le_trans W.d (by decide))))) rfl).trans ?_)
    rw [q0]
    generalize eqv (fx o) (fx v) = b
    cases b <;> kernel_rfl
  have k1 : c7_12_1 (Fs (m + 1)) (δB v s (fx v) o (eqv (fx o) (fx v))) [p, row2 v, tbl2 v] = .ok false [p, row2 v, tbl2 v] := by
    refine truB ((op_ok mk1 rfl).trans ((eqI_same (.inl rfl) (eq12 (.inl rfl) (.inl rfl) W3.t W.t (Nat.le_trans W3.d (by decide)) (Nat.le_trans W.d (by decide)))).trans ?_))
    rw [q1]
  unfold s7_12
  exact isn_ff (or_ff k0 k1)
def wd (s : PySem.Str) : Prop := s = "known" ∨ s = "" ∨ s = "wall" ∨ s = "paper"
theorem wd_s {M : List D} (h : wd s) : ∃ s', addO M (.str s) (.str "s") = some (.str s') ∧ (s == s') = false := by
  rcases h with rfl | rfl | rfl | rfl
  · exact ⟨"knowns", by kernel_rfl, by decide +kernel⟩
  · exact ⟨"s", by kernel_rfl, by decide +kernel⟩
  · exact ⟨"walls", by kernel_rfl, by decide +kernel⟩
  · exact ⟨"papers", by kernel_rfl, by decide +kernel⟩
theorem and_t {a b : DE} {δ : DEnv} {M M1 : List D} (h : a δ M = .ok (.bl true) M1) : dAnd truO a b δ M = b δ M1 := by
  unfold dAnd
  rw [bnd_at h]
  rfl
theorem s13_ok (hs : wd s) {b : Bool} (hv : Vw 3 v) (hp : low 3 p = true) (hn : 15 ≤ n) : s7_13 (Fs n) (δB v s (fx v) o b) [p, row2 v, tbl2 v] = .ok (.rt (.bl true)) [p, row2 v, tbl2 v] := by
  have P := fx6 hv
  have W : Pt (dueD (fx v)) 10 40000 := dueD_pt P P
  have hM := m2_low hv hp
  obtain ⟨m, rfl⟩ : ∃ m, n = m + 1 := ⟨n - 1, by omega⟩
  obtain ⟨s', ea, es⟩ := wd_s (M := [p, row2 v, tbl2 v]) hs
  have mk0 : dMk 0 (fun _ => true) [] (Fs (m + 1) 10) (dCons (dOp (pureO addO) (dVar 2) (dLit (.str "s"))) (dCons (dVar 1) (dCons (dOp (pureO idxK) (dVar 5) (dLit (.int 1))) (dCons (dDisp [(dLit (.str "a"), dLit (.int 2)), (dLit (.str "u"), dLst (dCons (dVar 1) (dNil)))]) (dNil))))) (δB v s (fx v) o b) [p, row2 v, tbl2 v] = .ok (pp 0 s' (dueD (fx v))) [p, row2 v, tbl2 v] := by
    refine mk7_ok (p1 := v) (p2 := dueR (fx v)) (p3 := .dct [.str "a", .str "u"] [.int 2, .lst [v]]) hn (.inl rfl) (cons0 ((op_ok rfl rfl).trans ?_) (cons0 rfl (cons0 ((op_ok rfl rfl).trans (by kernel_rfl)) (cons0 (by kernel_rfl) rfl)))) hM W.t fun n x hn => ?_
    · show optE (addO _ (.str s) (.str "s")) _ = _
      rw [ea]
      rfl
    · exact fix3 (fixed_ok hv n _ (by omega)) (fixed_tup 9 (dueR_pt P).t (dueR_pt P).d n _ (by omega)) (dv_ok hv n (by omega) _)
  unfold s7_13
  refine ret_ok ((and_t (M1 := [p, row2 v, tbl2 v]) ((op_ok rfl mk0).trans ((neI_same (.inl rfl) (eq12 (.inl rfl) (.inl rfl) W.t W.t (Nat.le_trans W.d (by decide)) (Nat.le_trans W.d (by decide)))).trans ?_))).trans ?_)
  · rw [es]
    rfl
  · exact (and_t (M1 := [p, row2 v, tbl2 v]) (by kernel_rfl)).trans (by kernel_rfl)
theorem s1_okW (ns : List Int) (a g : Int) (B : Nat) (hp : Pk a g (B : Int)) (hB : B + 200 < 2 ^ 20) (hn : 14 ≤ n) : ∃ v s a' g', Vw 3 v ∧ wd s ∧ s7_1 (Fs n) [some (.cell 0), none, none, none, none, none, none, none, none, none, none] [pn ns a g] = .ok (.nx [some (.cell 0), some v, some (.str s), none, none, none, none, none, none, none, none]) [pn ns a' g'] ∧ Pk a' g' ((B + 121 : Nat) : Int) := by
  obtain ⟨n, rfl⟩ : ∃ m, n = m + 2 := ⟨n - 2, by omega⟩
  obtain ⟨v, a1, g1, hv, e1, p1⟩ := value_ok ns [] 3 (n + 2) a g B (by omega) hp (by simp only [Wv]; omega)
  obtain ⟨d, a2, g2, hd, e2, p2⟩ := pick_lst n ns [.str "known", .str "", .str "wall", .str "paper"] a1 g1 _ [] p1 (by simp only [Wv]; omega) (by decide) (by decide)
  have hs : ∃ s, d = .str s ∧ wd s := by
    simp only [List.mem_cons, List.not_mem_nil, or_false] at hd
    rcases hd with rfl | rfl | rfl | rfl
    · exact ⟨_, rfl, .inl rfl⟩
    · exact ⟨_, rfl, .inr (.inl rfl)⟩
    · exact ⟨_, rfl, .inr (.inr (.inl rfl))⟩
    · exact ⟨_, rfl, .inr (.inr (.inr rfl))⟩
  obtain ⟨s, rfl, w⟩ := hs
  refine ⟨v, s, a2, g2, hv, w, ?_, p2.up (by simp only [Wv]; omega)⟩
  unfold s7_1
  exact par_ok (cons_ok ((call2_ok (x := .cell 0) (y := .int 3) rfl rfl).trans e1) (cons_ok ((call2_ok (x := .cell 0) (y := .lst [.str "known", .str "", .str "wall", .str "paper"]) rfl (by kernel_rfl)).trans e2) rfl)) rfl
theorem seq_e {a b : DS} {δ δ' : DEnv} {M M' : List D} {r : R Fl} (h : a δ M = .ok (.nx δ') M') (h2 : b δ' M' = r) : dSeq a b δ M = r := (seq_nx h).trans h2
/-- the law of the drawn papers: true, with the pen moved -/
theorem kept_ok (ns : List Int) (a g : Int) (B n : Nat) (hp : Pk a g (B : Int)) (hB : B + 400 < 2 ^ 20) (hn : 15 ≤ n) : ∃ a' g', Fs (n + 1) 7 [.cell 0] [pn ns a g] = .ok (.bl true) [pn ns a' g'] ∧ Pk a' g' ((B + 200 : Nat) : Int) := by
  obtain ⟨v, s, a1, g1, hv, hs, e1, p1⟩ := s1_okW (n := n) ns a g B hp (by omega) (by omega)
  have lo := fun a g => pn_low 3 ns a g
  obtain ⟨o, a2, g2, ho, e2, p2⟩ := s10_ok (s := s) (v := v) (pe := fx v) (n := n) ns a1 g1 _ [row2 v, tbl2 v] p1 (by omega) hn
  refine ⟨a2, g2, ?_, p2.up (by omega)⟩
  have r : b7 (Fs n) [some (.cell 0), none, none, none, none, none, none, none, none, none, none] [pn ns a g] = .ok (.rt (.bl true)) [pn ns a2 g2, row2 v, tbl2 v] := by
    rw [b7_eq]
    exact seq_e e1 (seq_e s2_ok (seq_e (s3_ok hv (lo _ _) (by omega)) (seq_e (s4_ok hv (by omega)) (seq_e (s5_ok hv (lo _ _) hn) (seq_e s6_ok (seq_e s7_ok (seq_e (s8_ok hv) (seq_e (s9_ok hv (lo _ _) hn) (seq_e e2 (seq_e (s11_ok hv ho (lo _ _) hn) (seq_e (s12_ok hv ho (lo _ _) hn) (s13_ok hs hv (lo _ _) hn))))))))))))
  show Iv.fin false 1 (b7 (Fs n) [some (.cell 0), none, none, none, none, none, none, none, none, none, none] [pn ns a g]) = _
  rw [r]
  show (match closes 1 [D.bl true] [pn ns a2 g2, row2 v, tbl2 v] with | some ([d'], M') => R.ok d' M' | _ => R.stk) = _
  have l1 : lows 1 [pn ns a2 g2] = true := by
    show (low 1 (pn ns a2 g2) && true) = true
    rw [pn_low]
    rfl
  have cl : closes 1 [D.bl true] [pn ns a2 g2, row2 v, tbl2 v] = some ([.bl true], [pn ns a2 g2]) := by
    unfold closes
    rw [if_neg (by show ¬ (3 = 1); decide)]
    show (if lows 1 [pn ns a2 g2] = true then _ else _) = _
    rw [if_pos l1]
    rfl
  rw [cl]
end
end Lw
namespace Lw
open Iv
def s8_1 (F : Nat → List D → Ev D) : DS := dAsg (dLc (dRng1 (dCall 2 [] (F 3) (dCons (dVar 0) (dCons (dLit (.int 4)) (dNil))))) (gVar 5) (dYes) (dCall 2 [] (F 4) (dCons (dVar 0) (dCons (dLst (dCons (dLit (.str "u")) (dCons (dLit (.str "v")) (dCons (dLit (.str "w")) (dNil))))) (dNil)))) [5]) (gVar 1)
def s8_2 (F : Nat → List D → Ev D) : DS := dPar [2, 3] (dCons (dMk 3 (fun _ => true) [] (pG 2 [] (F 15)) (dCons (dVar 1) (dNil))) (dCons (dMkK 4 [0] [] (F 16) (dCons (dVar 1) (dNil))) (dNil)))
def s8_3 (F : Nat → List D → Ev D) : DS := dIf (dOrT (dTru truO (dOp (pureO neO) (dFld kf "word" (dVar 2)) (dLit (.str "known")))) (dOrT (dTru truO (dOp (pureO neO) (dFld kf "parts" (dVar 2)) (dTup (dCons (dBlt tupleO (dCons (dVar 1) (dNil))) (dNil))))) (dOrT (dTru truO (dOp (pureO neO) (dFld kf "worlds" (dVar 2)) (dBlt tupleO (dCons (dVar 1) (dNil))))) (dNotT (dTru (truI (tbB F)) (dVar 2)))))) (dRet (dLit (.bl false))) (dNext)
def s8_4 (F : Nat → List D → Ev D) : DS := dIf (dOrT (dTru truO (dOp (pureO neO) (dFld kf "word" (dVar 3)) (dLit (.str "doubted")))) (dOrT (dTru truO (dOp (pureO neO) (dFld kf "world" (dVar 3)) (dBlt tupleO (dCons (dVar 1) (dNil))))) (dOrT (dTru (truI (tbB F)) (dVar 3)) (dNotT (dTru truO (dIsi kt [.o 1] (dVar 3))))))) (dRet (dLit (.bl false))) (dNext)
def c8_5_0 (F : Nat → List D → Ev D) : DT := dTru truO (dOp (eqI kt (tbE F)) (dVar 2) (dVar 3))
def c8_5_1 (F : Nat → List D → Ev D) : DT := dNotT (dTru truO (dOp (eqI kt (tbE F)) (dVar 2) (dMk 0 (fun _ => true) [] (F 10) (dCons (dLit (.str "known")) (dCons (dVar 1) (dNil))))))
def c8_5_2 (F : Nat → List D → Ev D) : DT := dTru truO (dIsi kt [.o 3] (dMk 0 (fun _ => true) [] (F 10) (dCons (dLit (.str "known")) (dCons (dVar 1) (dNil)))))
def s8_5 (F : Nat → List D → Ev D) : DS := dIf (dOrT (c8_5_0 F) (dOrT (c8_5_1 F) (c8_5_2 F))) (dRet (dLit (.bl false))) (dNext)
def s8_6 (F : Nat → List D → Ev D) : DS := dAsg (dMkK 2 [1, 0] [] (F 14) (dCons (dDisp [(dLit (.int 2), dDisp [(dLit (.str "v"), dLit (.int 1)), (dLit (.str "u"), dLit (.int 0))])]) (dCons (dLst (dCons (dVar 1) (dCons (dLst (dNil)) (dNil)))) (dNil)))) (gVar 4)
def s8_7 (F : Nat → List D → Ev D) : DS := dIf (dOrT (dTru truO (dOp (pureO neO) (dFld kf "sets" (dVar 4)) (dTup (dCons (dBlt tupleO (dCons (dVar 1) (dNil))) (dCons (dTup (dNil)) (dNil)))))) (dOrT (dTru truO (dOp (pureO neO) (dFld kf "ranks" (dVar 4)) (dTup (dCons (dTup (dCons (dLit (.int 2)) (dCons (dTup (dCons (dTup (dCons (dLit (.str "u")) (dCons (dLit (.int 0)) (dNil)))) (dCons (dTup (dCons (dLit (.str "v")) (dCons (dLit (.int 1)) (dNil)))) (dNil)))) (dNil)))) (dNil))))) (dTru truO (dOp (pureO neO) (dFld kf "parts" (dVar 4)) (dTup (dCons (dFld kf "sets" (dVar 4)) (dCons (dFld kf "ranks" (dVar 4)) (dNil)))))))) (dRet (dLit (.bl false))) (dNext)
def c8_8_0 (F : Nat → List D → Ev D) : DE := dOp (pureO eqO) (dFld kf "hops" (dMkK 6 [0] [] (F 18) (dCons (dLst (dCons (dLst (dCons (dLit (.str "a")) (dCons (dLit (.str "u")) (dNil)))) (dNil))) (dNil)))) (dTup (dCons (dTup (dCons (dLit (.str "a")) (dCons (dLit (.str "u")) (dNil)))) (dNil)))
def c8_8_1 (F : Nat → List D → Ev D) : DE := dNot (truI (tbB F)) (dMk 6 (fun _ => true) [] (pG 2 [] (F 18)) (dCons (dLst (dNil)) (dNil)))
def c8_8_2 (F : Nat → List D → Ev D) : DE := dBlt (boolI (tbB F)) (dCons (dMk 5 (fun _ => true) [] (pG 2 [] (F 17)) (dCons (dLst (dNil)) (dNil))) (dNil))
def c8_8_3 (F : Nat → List D → Ev D) : DE := dOp (pureO eqO) (dFld kf "word" (dMkK 5 [0] [] (F 17) (dCons (dTup (dNil)) (dNil)))) (dLit (.str "shut"))
def s8_8 (F : Nat → List D → Ev D) : DS := dRet (dAnd truO (c8_8_0 F) (dAnd truO (c8_8_1 F) (dAnd truO (c8_8_2 F) (c8_8_3 F))))
theorem b8_eq (F : Nat → List D → Ev D) : b8 F = (dSeq (s8_1 F) (dSeq (s8_2 F) (dSeq (s8_3 F) (dSeq (s8_4 F) (dSeq (s8_5 F) (dSeq (s8_6 F) (dSeq (s8_7 F) (s8_8 F)))))))) := rfl
def uvw : List D := [.str "u", .str "v", .str "w"]
def wsL : List (List D) := [] :: (uvw.map (fun a => [a]) ++ (uvw.flatMap fun a => uvw.map fun b => [a, b]) ++ (uvw.flatMap fun a => uvw.flatMap fun b => uvw.map fun c => [a, b, c]))
theorem mkE_gen {c : Nat} {g : List D → Ev D} {ds M vs : List D} {ns : List PySem.Str} (h : g (.cell M.length :: ds) (M ++ [.ins c [] []]) = .ok .non (M ++ [.ins c ns vs])) (hM : lows M.length M = true) (hv : tupOs vs = true) : mkE c g ds M = .ok (.ins c ns vs) M := by
  unfold mkE
  rw [h]
  show (match closes M.length [D.cell M.length] (M ++ [.ins c ns vs]) with | some ([d'], M') => R.ok d' M' | _ => R.stk) = _
  have l1 : lows M.length [D.cell M.length] = false := by
    show (decide (M.length < M.length) && true) = false
    simp
  have l2 : lows M.length vs = true := tupOs_low _ hv
  have cl : closes M.length [D.cell M.length] (M ++ [.ins c ns vs]) = some ([.ins c ns vs], M) := by
    unfold closes
    rw [if_neg (by simp), List.take_left, if_pos hM]
    unfold frzs
    rw [l1, if_neg (by simp)]
    dsimp only
    have e0 : frzs (M ++ [.ins c ns vs]) M.length 59 [] = some [] := rfl
    rw [e0]
    dsimp only
    rw [if_neg (by simp), get_last]
    dsimp only
    have e1 : frzs (M ++ [.ins c ns vs]) M.length 59 vs = some vs := by
      unfold frzs
      rw [if_pos l2]
    rw [e1]
    rfl
  rw [cl]
theorem mk1 {c : Nat} {g : List D → Ev D} {ds vs : List D} {ns : List PySem.Str} {p : D} {as : DA} {δ : DEnv} (ha : as δ [p] = .ok ds [p]) (h : g (.cell 1 :: ds) [p, .ins c [] []] = .ok .non [p, .ins c ns vs]) (hM : low 1 p = true) (hv : tupOs vs = true) : dMk c (fun _ => true) [] g as δ [p] = .ok (.ins c ns vs) [p] := by
  unfold dMk
  rw [bnd_at ha]
  show mkE c g (ds ++ []) [p] = _
  rw [List.append_nil]
  exact mkE_gen h (by show (low 1 p && true) = true; rw [hM]; rfl) hv
theorem mk1K {c : Nat} {pi : List Nat} {g : List D → Ev D} {ds vs : List D} {ns : List PySem.Str} {p : D} {as : DA} {δ : DEnv} (ha : as δ [p] = .ok ds [p]) (hl : ds.length = pi.length) (h : g (.cell 1 :: (perD pi ds ++ [])) [p, .ins c [] []] = .ok .non [p, .ins c ns vs]) (hM : low 1 p = true) (hv : tupOs vs = true) : dMkK c pi [] g as δ [p] = .ok (.ins c ns vs) [p] := by
  unfold dMkK
  rw [bnd_at ha]
  rw [if_pos hl]
  exact mkE_gen h (by show (low 1 p && true) = true; rw [hM]; rfl) hv
abbrev kn (ws : List D) : D := .ins 3 ["word", "parts", "worlds"] [.str "known", .tup [.tup ws], .tup ws]
abbrev db (ws : List D) : D := .ins 4 ["word", "parts", "world"] [.str "doubted", .tup [.tup ws], .tup ws]
abbrev pk (ws : List D) : D := .ins 0 ["word", "parts"] [.str "known", .tup [.tup ws]]
abbrev rk2 : D := .tup [.tup [.int 2, .tup [.tup [.str "u", .int 0], .tup [.str "v", .int 1]]]]
abbrev tr (ws : List D) : D := .ins 2 ["word", "parts", "sets", "ranks"] [.str "truth", .tup [.tup [.tup ws, .tup []], rk2], .tup [.tup ws, .tup []], rk2]
abbrev ε (ws : List D) : DEnv := [some (.cell 0), some (.lst ws), none, none, none, none]
abbrev ε3 (ws : List D) : DEnv := [some (.cell 0), some (.lst ws), some (kn ws), some (db ws), none, none]
abbrev ε4 (ws : List D) : DEnv := [some (.cell 0), some (.lst ws), some (kn ws), some (db ws), some (tr ws), none]
theorem from_map {α β : Type} {f g : α → β} {l : List α} (h : l.map f = l.map g) : ∀ a ∈ l, f a = g a := List.map_inj_left.mp h
section
variable (p : D) (n : Nat)
theorem m3 : ∀ ws ∈ wsL, Fs (n + 9) 15 [.cell 1, .lst ws] [p, .ins 3 [] []] = .ok .non [p, kn ws] := from_map (by kernel_rfl)
theorem m4 : ∀ ws ∈ wsL, Fs (n + 9) 16 [.cell 1, .lst ws] [p, .ins 4 [] []] = .ok .non [p, db ws] := from_map (by kernel_rfl)
theorem m0 : ∀ ws ∈ wsL, Fs (n + 9) 10 [.cell 1, .str "known", .lst ws] [p, .ins 0 [] []] = .ok .non [p, pk ws] := from_map (by kernel_rfl)
theorem m2 : ∀ ws ∈ wsL, Fs (n + 9) 14 [.cell 1, .lst [.lst ws, .lst []], .dct [.int 2] [.dct [.str "v", .str "u"] [.int 1, .int 0]]] [p, .ins 2 [] []] = .ok .non [p, tr ws] := from_map (by kernel_rfl)
abbrev ch (hs : D) : D := .ins 6 ["word", "parts", "hops"] [.str "chain", .tup [hs], hs]
abbrev sh (hs : D) : D := .ins 5 ["word", "parts", "worlds"] [.str "shut", .tup [hs], hs]
theorem m6 : Fs (n + 9) 18 [.cell 1, .lst [.lst [.str "a", .str "u"]]] [p, .ins 6 [] []] = .ok .non [p, ch (.tup [.tup [.str "a", .str "u"]])] := by kernel_rfl
theorem m6' : Fs (n + 9) 18 [.cell 1, .lst []] [p, .ins 6 [] []] = .ok .non [p, ch (.tup [])] := by kernel_rfl
theorem m5 : Fs (n + 9) 17 [.cell 1, .lst []] [p, .ins 5 [] []] = .ok .non [p, sh (.tup [])] := by kernel_rfl
theorem m5' : Fs (n + 9) 17 [.cell 1, .tup []] [p, .ins 5 [] []] = .ok .non [p, sh (.tup [])] := by kernel_rfl
theorem tws : ∀ ws ∈ wsL, (tupOs [.str "known", .tup [.tup ws]] && tupOs [.str "known", .tup [.tup ws], .tup ws] && tupOs [.str "doubted", .tup [.tup ws], .tup ws] && tupOs [.str "truth", .tup [.tup [.tup ws, .tup []], rk2], .tup [.tup ws, .tup []], rk2]) = true := List.all_eq_true.mp (by decide +kernel : wsL.all (fun ws => tupOs [.str "known", .tup [.tup ws]] && tupOs [.str "known", .tup [.tup ws], .tup ws] && tupOs [.str "doubted", .tup [.tup ws], .tup ws] && tupOs [.str "truth", .tup [.tup [.tup ws, .tup []], rk2], .tup [.tup ws, .tup []], rk2]) = true)
theorem t8 {ws : List D} (h : ws ∈ wsL) : tupOs [.str "known", .tup [.tup ws]] = true ∧ tupOs [.str "known", .tup [.tup ws], .tup ws] = true ∧ tupOs [.str "doubted", .tup [.tup ws], .tup ws] = true ∧ tupOs [.str "truth", .tup [.tup [.tup ws, .tup []], rk2], .tup [.tup ws, .tup []], rk2] = true := by
  have q := tws ws h
  obtain ⟨q, d⟩ := He.ba q
  obtain ⟨q, c⟩ := He.ba q
  obtain ⟨a, b⟩ := He.ba q
  exact ⟨a, b, c, d⟩
variable {p : D} {n : Nat} (hp : low 1 p = true)
theorem s82_ok (hp : low 1 p = true) {ws : List D} (h : ws ∈ wsL) : s8_2 (Fs (n + 9)) (ε ws) [p] = .ok (.nx (ε3 ws)) [p] := by
  unfold s8_2
  exact par_ok (cons_ok (mk1 (ds := [.lst ws]) (cons_ok rfl rfl) (m3 p n ws h) hp (t8 h).2.1) (cons_ok (mk1K (ds := [.lst ws]) (cons_ok rfl rfl) rfl (m4 p n ws h) hp (t8 h).2.2.1) rfl)) rfl
theorem s83_all (p : D) (n : Nat) : ∀ ws ∈ wsL, s8_3 (Fs (n + 9)) (ε3 ws) [p] = .ok (.nx (ε3 ws)) [p] := from_map (by kernel_rfl)
theorem s84_all (p : D) (n : Nat) : ∀ ws ∈ wsL, s8_4 (Fs (n + 9)) (ε3 ws) [p] = .ok (.nx (ε3 ws)) [p] := from_map (by kernel_rfl)
theorem s87_all (p : D) (n : Nat) : ∀ ws ∈ wsL, s8_7 (Fs (n + 9)) (ε4 ws) [p] = .ok (.nx (ε4 ws)) [p] := from_map (by kernel_rfl)
theorem e50 (p : D) (n : Nat) : ∀ ws ∈ wsL, c8_5_0 (Fs (n + 9)) (ε3 ws) [p] = .ok false [p] := from_map (by kernel_rfl)
theorem e51 (p : D) (n : Nat) : ∀ ws ∈ wsL, bnd (eqI kt (tbE (Fs (n + 9))) (kn ws) (pk ws)) truO [p] = .ok true [p] := from_map (by kernel_rfl)
theorem e52 (p : D) : ∀ ws ∈ wsL, bnd (fun M => optE (isiM kt [.o 3] M (pk ws)) M) truO [p] = .ok false [p] := from_map (by kernel_rfl)
theorem mkp {δ : DEnv} (hp : low 1 p = true) {ws : List D} (h : ws ∈ wsL) (hd : δ[1]? = some (some (.lst ws))) : dMk 0 (fun _ => true) [] (Fs (n + 9) 10) (dCons (dLit (.str "known")) (dCons (dVar 1) (dNil))) δ [p] = .ok (pk ws) [p] := by
  have e : dVar 1 δ [p] = .ok (.lst ws) [p] := by unfold dVar; rw [hd]; rfl
  exact mk1 (ds := [.str "known", .lst ws]) (cons_ok rfl (cons_ok e rfl)) (m0 p n ws h) hp (t8 h).1
theorem s85_ok (hp : low 1 p = true) {ws : List D} (h : ws ∈ wsL) : s8_5 (Fs (n + 9)) (ε3 ws) [p] = .ok (.nx (ε3 ws)) [p] := by
  have q1 : c8_5_1 (Fs (n + 9)) (ε3 ws) [p] = .ok false [p] := by
    refine not_t ?_
    unfold dTru
    have e := e51 p n ws h
    unfold bnd at e ⊢
    rw [op_ok (M' := [p]) (M2 := [p]) rfl (mkp hp h rfl)]
    exact e
  have q2 : c8_5_2 (Fs (n + 9)) (ε3 ws) [p] = .ok false [p] := by
    unfold c8_5_2 dTru dIsi
    have e := e52 p ws h
    unfold bnd at e ⊢
    rw [mkp hp h rfl]
    exact e
  unfold s8_5
  exact isn_ff (or_ff (e50 p n ws h) (or_ff q1 q2))
theorem s86_ok (hp : low 1 p = true) {ws : List D} (h : ws ∈ wsL) : s8_6 (Fs (n + 9)) (ε3 ws) [p] = .ok (.nx (ε4 ws)) [p] := by
  unfold s8_6
  exact asgM (mk1K (ds := [.dct [.int 2] [.dct [.str "v", .str "u"] [.int 1, .int 0]], .lst [.lst ws, .lst []]]) (cons_ok (by kernel_rfl) (cons_ok rfl rfl)) rfl (m2 p n ws h) hp (t8 h).2.2.2)
theorem s88_ok (hp : low 1 p = true) {δ : DEnv} : s8_8 (Fs (n + 9)) δ [p] = .ok (.rt (.bl true)) [p] := by
  have k0 : dMkK 6 [0] [] (Fs (n + 9) 18) (dCons (dLst (dCons (dLst (dCons (dLit (.str "a")) (dCons (dLit (.str "u")) (dNil)))) (dNil))) (dNil)) δ [p] = .ok (ch (.tup [.tup [.str "a", .str "u"]])) [p] :=
    mk1K (ds := [.lst [.lst [.str "a", .str "u"]]]) rfl rfl (m6 p n) hp (by kernel_rfl)
  have k1 : dMk 6 (fun _ => true) [] (pG 2 [] (Fs (n + 9) 18)) (dCons (dLst (dNil)) (dNil)) δ [p] = .ok (ch (.tup [])) [p] := mk1 (ds := [.lst []]) rfl (m6' p n) hp (by kernel_rfl)
  have k2 : dMk 5 (fun _ => true) [] (pG 2 [] (Fs (n + 9) 17)) (dCons (dLst (dNil)) (dNil)) δ [p] = .ok (sh (.tup [])) [p] := mk1 (ds := [.lst []]) rfl (m5 p n) hp (by kernel_rfl)
  have k3 : dMkK 5 [0] [] (Fs (n + 9) 17) (dCons (dTup (dNil)) (dNil)) δ [p] = .ok (sh (.tup [])) [p] := mk1K (ds := [.tup []]) rfl rfl (m5' p n) hp (by kernel_rfl)
  have fld : ∀ {e : DE} {f : PySem.Str} {x : D}, e δ [p] = .ok x [p] → dFld kf f e δ [p] = dFld kf f (dLit x) δ [p] := fun h => by
    unfold dFld
    rw [bnd_at h]
    rfl
  have a0 : c8_8_0 (Fs (n + 9)) δ [p] = .ok (.bl true) [p] := (op_ok (x := .tup [.tup [.str "a", .str "u"]]) (y := .tup [.tup [.str "a", .str "u"]]) (M' := [p]) (M2 := [p]) ((fld k0).trans (by kernel_rfl)) (by kernel_rfl)).trans (by kernel_rfl)
  have a1 : c8_8_1 (Fs (n + 9)) δ [p] = .ok (.bl true) [p] := by
    unfold c8_8_1 dNot
    rw [bnd_at k1]
    kernel_rfl
  have a2 : c8_8_2 (Fs (n + 9)) δ [p] = .ok (.bl true) [p] := (blt_ok (cons_ok k2 rfl)).trans (by kernel_rfl)
  have a3 : c8_8_3 (Fs (n + 9)) δ [p] = .ok (.bl true) [p] := (op_ok (x := .str "shut") (y := .str "shut") (M' := [p]) (M2 := [p]) ((fld k3).trans (by kernel_rfl)) (by kernel_rfl)).trans (by kernel_rfl)
  unfold s8_8
  exact ret_ok ((and_t a0).trans ((and_t a1).trans ((and_t a2).trans a3)))
end
end Lw
namespace Lw
open Iv
theorem uvw_ws : ∀ {xs : List D}, xs.length ≤ 3 → (∀ x ∈ xs, x ∈ uvw) → xs ∈ wsL := by
  intro xs hl h
  have e : ∀ x ∈ xs, x = .str "u" ∨ x = .str "v" ∨ x = .str "w" := fun x hx => by
    have q := h x hx
    simp only [uvw, List.mem_cons, List.not_mem_nil, or_false] at q
    exact q
  match xs, hl, e with
  | [], _, _ => exact List.mem_cons_self
  | [a], _, e =>
    rcases e a (by simp) with rfl | rfl | rfl <;> simp [wsL, uvw]
  | [a, b], _, e =>
    rcases e a (by simp) with rfl | rfl | rfl <;> rcases e b (by simp) with rfl | rfl | rfl <;> simp [wsL, uvw]
  | [a, b, c], _, e =>
    rcases e a (by simp) with rfl | rfl | rfl <;> rcases e b (by simp) with rfl | rfl | rfl <;> rcases e c (by simp) with rfl | rfl | rfl <;> simp [wsL, uvw]
  | _ :: _ :: _ :: _ :: _, hl, _ => exact absurd hl (by simp)
theorem s81_ok (ns : List Int) (a g : Int) (B n : Nat) (hp : Pk a g (B : Int)) (hB : B + 10 < 2 ^ 20) : ∃ ws a' g', ws ∈ wsL ∧ s8_1 (Fs (n + 9)) [some (.cell 0), none, none, none, none, none] [pn ns a g] = .ok (.nx (ε ws)) [pn ns a' g'] ∧ Pk a' g' ((B + 4 : Nat) : Int) := by
  obtain ⟨c, a2, g2, e2, c0, c4, p2⟩ := draw (n + 8) ns a g 4 B [] hp (by omega) (by decide) (by decide)
  have p2 : Pk a2 g2 ((B + 1 : Nat) : Int) := p2.up (by omega)
  obtain ⟨c, rfl⟩ : ∃ m : Nat, c = m := ⟨c.toNat, by omega⟩
  obtain ⟨xs, a3, g3, l3, v3, e3, p3⟩ := lc_drawn ns (te := dCall 2 [] (Fs (n + 9) 4) (dCons (dVar 0) (dCons (dLst (dCons (dLit (.str "u")) (dCons (dLit (.str "v")) (dCons (dLit (.str "w")) (dNil))))) (dNil)))) (it := dRng1 (dCall 2 [] (Fs (n + 9) 3) (dCons (dVar 0) (dCons (dLit (.int 4)) (dNil))))) (δ := [some (.cell 0), none, none, none, none, none]) (M0 := [pn ns a g]) (N := c) (W := 1) (L := []) (C := fun x => x ∈ uvw) 5 (B + 1)
    (rng_ok ((call2_ok rfl rfl).trans e2) (by omega)) (by omega) p2 fun i a g b hb hi pb => by
      obtain ⟨x, a', g', h1, h2, h3⟩ := pick_lst (n + 7) ns uvw a g b [] pb (by omega) (by decide) (by decide)
      exact ⟨x, a', g', h1, (call2_ok (x := .cell 0) (y := .lst uvw) rfl (by kernel_rfl)).trans h2, h3.up (by omega)⟩
  refine ⟨xs, a3, g3, uvw_ws (by omega) v3, ?_, p3.up (by omega)⟩
  unfold s8_1
  exact asgM e3
theorem classes_ok (ns : List Int) (a g : Int) (B n : Nat) (hp : Pk a g (B : Int)) (hB : B + 10 < 2 ^ 20) : ∃ a' g', Fs (n + 10) 8 [.cell 0] [pn ns a g] = .ok (.bl true) [pn ns a' g'] ∧ Pk a' g' ((B + 4 : Nat) : Int) := by
  obtain ⟨ws, a1, g1, hw, e1, p1⟩ := s81_ok ns a g B n hp hB
  have lo : low 1 (pn ns a1 g1) = true := pn_low 1 ns a1 g1
  refine ⟨a1, g1, run_rtK ?_ rfl, p1⟩
  show b8 (Fs (n + 9)) [some (.cell 0), none, none, none, none, none] _ = _
  rw [b8_eq]
  exact seq_e e1 (seq_e (s82_ok lo hw) (seq_e (s83_all _ n ws hw) (seq_e (s84_all _ n ws hw) (seq_e (s85_ok lo hw) (seq_e (s86_ok lo hw) (seq_e (s87_all _ n ws hw) (s88_ok lo)))))))
theorem lcs_map {ds : List D} {v : Nat} {te : DE} {δ : DEnv} {M : List D} {f : D → D} (h : ∀ d ∈ ds, te (δ.set v (some d)) M = .ok (f d) M) : ∀ (n i : Nat), i + n = ds.length → lcs (.vals ds) (gVar v) dYes te δ n i M = .ok ((ds.drop i).map f) M
  | 0, i, e => by
    have e2 : ds.drop i = [] := List.drop_eq_nil_of_le (by omega)
    rw [e2]
    rfl
  | n + 1, i, e => by
    have hi : i < ds.length := by omega
    have ih := lcs_map h n (i + 1) (by omega)
    have e2 : ds.drop i = ds[i] :: ds.drop (i + 1) := List.drop_eq_getElem_cons hi
    unfold lcs
    simp only [Src.get, List.getElem?_eq_getElem hi, gVar, bnd, Iv.ret, dYes, if_true, h ds[i] (List.getElem_mem hi), ih, e2, List.map_cons]
theorem pen_ok (k : Nat) (ns : List Int) (hn : ns.length ≤ 63) : Fs (k + 1) 2 [.scr (ns.map .int)] [] = .ok (.cell 0) [pn (ns.take 60) 0 0] := by
  have sl : PySem.sizeLine = 16777216 := rfl
  have cu : cutD (ns.map D.int) none (some 60) = (ns.take 60).map .int := by
    have h1 : HT.sIx (ns.map D.int).length 0 none = 0 := rfl
    have h2 : HT.sIx (ns.map D.int).length (ns.map D.int).length (some ((60 : Nat) : Int)) = min 60 ns.length := by
      rw [HT.sIx_nat, List.length_map]
    unfold cutD
    rw [h1, show (60 : Int) = ((60 : Nat) : Int) from rfl, h2, List.drop_zero, Nat.sub_zero, List.map_take]
    rw [show min 60 ns.length = min 60 (ns.map D.int).length from by rw [List.length_map], ← List.take_eq_take_min]
  have it : dIt (dSli (dVar 0) dNoP (dPart (dLit (.int 60)))) [some (.scr (ns.map .int)), none] [] = .ok (.vals ((ns.take 60).map .int)) [] := by
    rw [← cu]
    rfl
  have lc := lc_map (i := 1) (te := dBlt (oneO Iv.intD) (dCons (dVar 1) dNil)) (fun d => d) it (by simp; omega) (fun d hd => by
    obtain ⟨i, _, rfl⟩ := List.mem_map.mp hd
    rfl)
  rw [List.map_id''] at lc
  · show runF true 2 (b2 (Fs k)) _ _ = _
    have n3 : 3 ≤ PySem.sizeLine := by omega
    simp [runF, entry, b2, dRet, lft, bnd, Iv.ret, dCel, dCons, dNil, dLit, Iv.fin, lc, n3]
  · exact fun _ => rfl
theorem law_plain (ns : List Int) (h : ns.length ≤ 63) : ∃ M', Fs 40 9 [.scr (ns.map .int)] [] = .ok (.bl true) M' := by
  have pe := pen_ok 38 ns h
  generalize ns.take 60 = zs at pe
  obtain ⟨a1, g1, e1, p1⟩ := kept_ok zs 0 0 0 38 ⟨by omega, by omega, by omega⟩ (by decide) (by decide)
  obtain ⟨a2, g2, e2, p2⟩ := classes_ok zs a1 g1 _ 29 p1 (by decide)
  obtain ⟨a3, g3, e3, p3⟩ := kept_ok zs a2 g2 _ 38 p2 (by decide) (by decide)
  obtain ⟨a4, g4, e4, p4⟩ := classes_ok zs a3 g3 _ 29 p3 (by decide)
  obtain ⟨a5, g5, e5, p5⟩ := kept_ok zs a4 g4 _ 38 p4 (by decide) (by decide)
  obtain ⟨a6, g6, e6, p6⟩ := classes_ok zs a5 g5 _ 29 p5 (by decide)
  obtain ⟨a7, g7, e7, p7⟩ := kept_ok zs a6 g6 _ 38 p6 (by decide) (by decide)
  obtain ⟨a8, g8, e8, p8⟩ := classes_ok zs a7 g7 _ 29 p7 (by decide)
  have bd : ∀ {i : Int} {a g a' g' a2 g2 : Int}, Fs 39 7 [.cell 0] [pn zs a g] = .ok (.bl true) [pn zs a' g'] → Fs 39 8 [.cell 0] [pn zs a' g'] = .ok (.bl true) [pn zs a2 g2] →
      dIf (dOrT (dNotT (dTru truO (dCall 1 [] (Fs 39 7) (dCons (dVar 1) (dNil))))) (dNotT (dTru truO (dCall 1 [] (Fs 39 8) (dCons (dVar 1) (dNil)))))) (dRet (dLit (.bl false))) (dNext) [some (.scr (ns.map .int)), some (.cell 0), some (.int i)] [pn zs a g] = .ok (.nx [some (.scr (ns.map .int)), some (.cell 0), some (.int i)]) [pn zs a2 g2] := fun h h2 =>
    isn_ff (or_ff (not_t (truB ((call_ok (ds := [.cell 0]) (cons_ok rfl rfl) rfl).trans h))) (not_t (truB ((call_ok (ds := [.cell 0]) (cons_ok rfl rfl) rfl).trans h2))))
  have body : b9 (Fs 39) [some (.scr (ns.map .int)), none, none] [] = .ok (.rt (.bl true)) [pn zs a8 g8] := by
    unfold b9
    refine (seq_nx (asgM ((call_ok (ds := [.scr (ns.map .int)]) (cons_ok rfl rfl) rfl).trans pe))).trans ?_
    refine (seq_nx (δ' := [some (.scr (ns.map .int)), some (.cell 0), some (.int 3)]) (M' := [pn zs a8 g8]) ?_).trans (ret_ok rfl)
    refine (for_ok (z := .rng 0 4) (M' := [pn zs 0 0]) rfl).trans ?_
    show turns (.rng 0 4) (gVar 2) _ 4 0 _ _ = _
    have tn : ∀ {n i : Nat} {body : DS} {δ δ2 : DEnv} {M M2 : List D}, body (δ.set 2 (some (.int (0 + (i : Nat))))) M = .ok (.nx δ2) M2 → turns (.rng 0 4) (gVar 2) body (n + 1) i δ M = turns (.rng 0 4) (gVar 2) body n (i + 1) δ2 M2 := fun {n i body δ δ2 M M2} h => by
      simp only [turns, Src.get, gVar, lft, Iv.ret, bnd, h]
    exact (tn (bd e1 e2)).trans ((tn (bd e3 e4)).trans ((tn (bd e5 e6)).trans ((tn (bd e7 e8)).trans rfl)))
  refine ⟨[], ?_⟩
  show runF false 3 (b9 (Fs 39)) _ _ = _
  unfold runF
  show Iv.fin false 0 (b9 (Fs 39) [some (.scr (ns.map .int)), none, none] []) = _
  rw [body]
  have c : closes 0 [.bl true] [pn zs a8 g8] = some ([.bl true], []) := by
    unfold closes
    rw [if_neg (by simp)]
    rfl
  simp only [Iv.fin, Bool.false_eq_true, if_false, c]
end Lw
open PySem PySem.W PySem.Calls PyProof.Rows
theorem PySem.Challenge.cw_saidenough_k03_papers_keep_what_they_tel_holds : PySem.Challenge.rw_saidenough_k03_papers_keep_what_they_tel.Holds := by
  w_on; o_law
  refine HandSHeadRun.head_any (r := Lw.Rw) (q := view Lw.Rw.prog [20]) (H := Lw.hk) (ob := Lw.ob) (M := 2500) (loose := Lw.names) (d := HandSHeadRun.topDef Lw.Rw.prog 20) (kwd := []) Lw.ob_eq
    (by kernel_rfl) (fun s => by kernel_rfl) Lw.run (by kernel_rfl) (by kernel_rfl) (by kernel_rfl) (by rfl) (by first | assumption | decide +kernel) (by decide +kernel) ⟨rfl, rfl, rfl, rfl, rfl, by decide +kernel⟩ ?hw ?hc
  case hw => w_witness2
  case hc =>
    refine Iv.walkIv (l := PySem.Challenge.rw_saidenough_k03_papers_keep_what_they_tel) (n := 63) (k := 123) (x := "_law_script") rfl (by decide) (by kernel_rfl) ⟨rfl, by decide, by decide⟩ ?F
    intro w mg fa h Y Nm hmg0
    obtain ⟨K, KX, c⟩ := Y
    have hmg : mg ("law" : PySem.Str) = some (.ref fa) := by
      have e : (HandSHeadRun.topDef Lw.Rw.prog 20).name = ("law" : PySem.Str) := by kernel_rfl
      rw [← e]
      exact hmg0
    obtain ⟨fd, F⟩ := c.d.def_ 9 (d := Lw.d9) rfl
    have e := hmg.symm.trans (He.glo_ok (x := "law") KX Nm (c.d.fact 9 rfl))
    cases e
    have b := L2.FunD.bindsA (ps := ["_law_script"]) F fun _ _ _ _ _ _ us hl => match us, hl with | [_], _ => rfl
    exact ⟨Lw.G0 K, fd, Lw.Fs 40 9, rfl, KX, fun s v => b s [v] rfl, fun ns hl => Lw.law_plain ns hl, fun base X N => Lw.all_ok X N c 40 9 [] fd F.fdAt⟩
