import PyProof.Rows.All
import Wide.All
import OpenK.AllK
import Wide.FinOn
import HandS.ForMost
import HandS.Walk
import HandS.Wide
import HandS.TupAny
import HandS.Zip
import HandS.IsInst
import HandS.Defaults
import HandS.RaiseMore
import HandS.HeadEnd
import HandS.HeadHook1
import HandS.HeadHook2
import HandS.Head0
import HandS.Head1
import HandS.Head2
import HandS.WordsExc
import HandS.MakeKwOnly
import PySem.Challenge.RW_hiddenturns_k09_steps_and_their_signs
set_option Elab.async false
set_option linter.all false
set_option maxRecDepth 100000
set_option maxHeartbeats 4000000
set_option autoImplicit false
namespace Y
open PySem PySem.Spec PyProof.Rows L2

/-- data: what a value is, without the heap -/
inductive D where
  | non | bl (b : Bool) | int (i : Int) | str (x : Str) | lst (xs : List D) | tup (xs : List D) | obj (C : Addr) (fs : List (Str × D)) | ref (a : Addr) | ty (n : String)

mutual
inductive Rep (K : PySem.W.Frag) (B : Hp) : V → D → Prop where
  | non : Rep K B .non .non
  | bl {b : Bool} : Rep K B (.bl b) (.bl b)
  | int {i : Int} : Rep K B (.int i) (.int i)
  | str {x : Str} : Rep K B (.str x) (.str x)
  | ref {a : Addr} : Rep K B (.ref a) (.ref a)
  | ty {n : String} : Rep K B (.ty n) (.ty n)
  | lst {a : Addr} {xs : List V} {ds : List D} : B a = some (.lst xs) → Reps K B xs ds → Rep K B (.ref a) (.lst ds)
  | tup {a : Addr} {xs : List V} {ds : List D} : SqT K B a xs → Reps K B xs ds → Rep K B (.ref a) (.tup ds)
  | obj {a C dx : Addr} {fs : List (Str × V)} {gs : List (Str × D)} : B a = some (.ins C dx fs) → RepF K B fs gs → Rep K B (.ref a) (.obj C gs)
inductive Reps (K : PySem.W.Frag) (B : Hp) : List V → List D → Prop where
  | nil : Reps K B [] []
  | cons {x : V} {xs : List V} {d : D} {ds : List D} : Rep K B x d → Reps K B xs ds → Reps K B (x :: xs) (d :: ds)
inductive RepF (K : PySem.W.Frag) (B : Hp) : List (Str × V) → List (Str × D) → Prop where
  | nil : RepF K B [] []
  | cons {f : Str} {x : V} {xs : List (Str × V)} {d : D} {ds : List (Str × D)} : Rep K B x d → RepF K B xs ds → RepF K B ((f, x) :: xs) ((f, d) :: ds)
end

def Ex (H H' : Hp) : Prop := ∀ a o, H a = some o → H' a = some o
theorem Ex.refl (H : Hp) : Ex H H := fun _ _ h => h
theorem Ex.trans {H H1 H2 : Hp} (a : Ex H H1) (b : Ex H1 H2) : Ex H H2 := fun x o h => b x o (a x o h)
theorem Ex.new {H : Hp} {p : Addr} {o : HO} (h : H p = none) : Ex H (upd H p o) := fun a u e => by
  rw [upd_ne (ne_of_none e h)]; exact e
theorem ex_rd {H H' : Hp} {a : Addr} {u : HO} (e : Ex H H') (h : Rd H a u) : Rd H' a u := by
  rcases h with h | ⟨o, h⟩
  · exact Or.inl (e a _ h)
  · exact Or.inr ⟨o, e a _ h⟩
theorem ex_l {K : PySem.W.Frag} {H H' : Hp} {a : Addr} {xs : List V} (e : Ex H H') (h : SqL K H a xs) : SqL K H' a xs := by
  rcases h with h | h
  · exact Or.inl (ex_rd e h)
  · exact Or.inr h
theorem ex_t {K : PySem.W.Frag} {H H' : Hp} {a : Addr} {xs : List V} (e : Ex H H') (h : SqT K H a xs) : SqT K H' a xs := by
  rcases h with h | h
  · exact Or.inl (ex_rd e h)
  · exact Or.inr h
theorem sq_of {K : PySem.W.Frag} {H : Hp} {a : Addr} {xs : List V} (h : H a = some (.lst xs)) : SqL K H a xs := Or.inl (Or.inl h)
theorem st_of {K : PySem.W.Frag} {H : Hp} {a : Addr} {xs : List V} (h : H a = some (.tup xs)) : SqT K H a xs := Or.inl (Or.inl h)

section
variable {K : PySem.W.Frag} {B B' : Hp}
mutual
theorem Rep.mono (e : Ex B B') : ∀ {v : V} {d : D}, Rep K B v d → Rep K B' v d
  | _, _, .non => .non
  | _, _, .bl => .bl
  | _, _, .int => .int
  | _, _, .str => .str
  | _, _, .ref => .ref
  | _, _, .ty => .ty
  | _, _, .lst h r => .lst (e _ _ h) (Reps.mono e r)
  | _, _, .tup h r => .tup (ex_t e h) (Reps.mono e r)
  | _, _, .obj h r => .obj (e _ _ h) (RepF.mono e r)
theorem Reps.mono (e : Ex B B') : ∀ {v : List V} {d : List D}, Reps K B v d → Reps K B' v d
  | _, _, .nil => .nil
  | _, _, .cons h r => .cons (Rep.mono e h) (Reps.mono e r)
theorem RepF.mono (e : Ex B B') : ∀ {v : List (Str × V)} {d : List (Str × D)}, RepF K B v d → RepF K B' v d
  | _, _, .nil => .nil
  | _, _, .cons h r => .cons (Rep.mono e h) (RepF.mono e r)
end
theorem Reps.length : ∀ {v : List V} {d : List D}, Reps K B v d → v.length = d.length
  | _, _, .nil => rfl
  | _, _, .cons _ r => by simp [Reps.length r]
theorem Reps.append : ∀ {v w : List V} {d e : List D}, Reps K B v d → Reps K B w e → Reps K B (v ++ w) (d ++ e)
  | _, _, _, _, .nil, s => s
  | _, _, _, _, .cons h r, s => .cons h (Reps.append r s)
theorem Reps.get : ∀ {v : List V} {d : List D} {i : Nat} {x : V}, Reps K B v d → v[i]? = some x → ∃ y, d[i]? = some y ∧ Rep K B x y
  | _, _, _, _, .nil, h => by simp at h
  | _, _, 0, _, .cons h r, e => by simp at e; subst e; exact ⟨_, rfl, h⟩
  | _, _, i + 1, x, .cons h r, e => by
    obtain ⟨y, h1, h2⟩ := Reps.get (i := i) (x := x) r (by simpa using e)
    exact ⟨y, by simpa using h1, h2⟩
theorem Reps.get' : ∀ {v : List V} {d : List D} {i : Nat} {y : D}, Reps K B v d → d[i]? = some y → ∃ x, v[i]? = some x ∧ Rep K B x y
  | _, _, _, _, .nil, h => by simp at h
  | _, _, 0, _, .cons h r, e => by simp at e; subst e; exact ⟨_, rfl, h⟩
  | _, _, i + 1, x, .cons h r, e => by
    obtain ⟨y, h1, h2⟩ := Reps.get' (i := i) r (by simpa using e)
    exact ⟨y, by simpa using h1, h2⟩
theorem Reps.set {x : V} {y : D} (h : Rep K B x y) : ∀ {v : List V} {d : List D} (i : Nat), Reps K B v d → Reps K B (v.set i x) (d.set i y)
  | _, _, _, .nil => .nil
  | _, _, 0, .cons _ r => .cons h r
  | _, _, i + 1, .cons q r => .cons q (Reps.set h i r)
theorem Reps.take : ∀ {v : List V} {d : List D} (n : Nat), Reps K B v d → Reps K B (v.take n) (d.take n)
  | _, _, 0, _ => .nil
  | _, _, _ + 1, .nil => .nil
  | _, _, n + 1, .cons h r => .cons h (Reps.take n r)
theorem Reps.drop : ∀ {v : List V} {d : List D} (n : Nat), Reps K B v d → Reps K B (v.drop n) (d.drop n)
  | _, _, 0, r => r
  | _, _, _ + 1, .nil => .nil
  | _, _, n + 1, .cons _ r => Reps.drop n r
theorem RepF.lookup {f : Str} : ∀ {v : List (Str × V)} {d : List (Str × D)} {y : D}, RepF K B v d → d.lookup f = some y → ∃ x, v.lookup f = some x ∧ Rep K B x y
  | _, _, _, .nil, h => by simp at h
  | _, _, y, .cons (f := g) h r, e => by
    by_cases q : f = g
    · subst q; simp at e; subst e; exact ⟨_, by simp, h⟩
    · have q' : (f == g) = false := by simpa using q
      simp only [List.lookup, q'] at e ⊢
      exact RepF.lookup r e
theorem RepF.none {f : Str} : ∀ {v : List (Str × V)} {d : List (Str × D)}, RepF K B v d → d.lookup f = none → v.lookup f = none
  | _, _, .nil, h => by simp
  | _, _, .cons (f := g) h r, e => by
    by_cases q : f = g
    · subst q; simp at e
    · have q' : (f == g) = false := by simpa using q
      simp only [List.lookup, q'] at e ⊢
      exact RepF.none r e
end

/-! ### growth -/
structure Gr (p : Option Addr) (H B H' B' : Hp) : Prop where
  eh : ∀ a o, H a = some o → p ≠ some a → H' a = some o
  al : ∀ a, H a ≠ none → H' a ≠ none
  eb : Ex B B'
  bn : ∀ a, H a ≠ none → B' a = B a
  bh : Ex B' H'
section
variable {p : Option Addr} {H B H' B' H2 B2 : Hp} {a : Addr} {o : HO}
theorem Gr.refl (e : Ex B H) : Gr p H B H B := ⟨fun _ _ h _ => h, fun _ h => h, Ex.refl _, fun _ _ => rfl, e⟩
theorem Gr.trans (g : Gr p H B H' B') (k : Gr p H' B' H2 B2) : Gr p H B H2 B2 :=
  ⟨fun a o h n => k.eh a o (g.eh a o h n) n, fun a h => k.al a (g.al a h), g.eb.trans k.eb, fun a h => (k.bn a (g.al a h)).trans (g.bn a h), k.bh⟩
theorem Gr.weak (g : Gr none H B H' B') : Gr p H B H' B' := ⟨fun a o h _ => g.eh a o h (by simp), g.al, g.eb, g.bn, g.bh⟩
theorem Gr.ex (g : Gr none H B H' B') : Ex H H' := fun a o h => g.eh a o h (by simp)
theorem ne_none_of {H : Hp} {a : Addr} {o : HO} (h : H a = some o) : H a ≠ none := by rw [h]; simp
/-- a new object, known from now on -/
theorem Gr.new (e : Ex B H) (h : H a = none) : Gr p H B (upd H a o) (upd B a o) := by
  have hb : B a = none := by
    cases q : B a with
    | none => rfl
    | some u => rw [e a u q] at h; cases h
  refine ⟨fun b u q _ => Ex.new h b u q, fun b q => ?_, Ex.new hb, fun b q => ?_, fun b u q => ?_⟩
  · by_cases z : b = a
    · subst z; rw [upd_same]; simp
    · rw [upd_ne z]; exact q
  · have z : b ≠ a := fun z => q (z ▸ h)
    rw [upd_ne z]
  · by_cases z : b = a
    · subst z; rw [upd_same] at q ⊢; exact q
    · rw [upd_ne z] at q ⊢; exact e b u q
/-- a new object, not (yet) among the known ones -/
theorem Gr.laid (e : Ex B H) (h : H a = none) : Gr p H B (upd H a o) B := by
  refine ⟨fun b u q _ => Ex.new h b u q, fun b q => ?_, Ex.refl _, fun b q => rfl, fun b u q => Ex.new h b u (e b u q)⟩
  by_cases z : b = a
  · subst z; rw [upd_same]; simp
  · rw [upd_ne z]; exact q
end

/-! ### what may change -/
inductive MO where
  | lst (ds : List D)
  | pen (c : Addr) (ns : List Int) (t g : Int)
/-- the cells as data -/
def cellsD (ns : List Int) : D := .lst (ns.map D.int)
theorem reps_ints {K : PySem.W.Frag} {B : Hp} : ∀ ns : List Int, Reps K B (ns.map V.int) (ns.map D.int)
  | [] => .nil
  | n :: ns => .cons .int (reps_ints ns)
def MO.items : MO → List D
  | .lst ds => ds
  | .pen _ ns t g => [cellsD ns, .int t, .int g]
def MO.d (m : MO) : D := .lst m.items
def MO.put : MO → Nat → D → Option MO
  | .lst ds, j, v => some (.lst (ds.set j v))
  | .pen c ns _ g, 1, .int t => some (.pen c ns t g)
  | .pen c ns t _, 2, .int g => some (.pen c ns t g)
  | .pen _ _ _ _, _, _ => none
inductive RepM (K : PySem.W.Frag) (B : Hp) : MO → HO → Prop where
  | lst {ds : List D} {xs : List V} : Reps K B xs ds → RepM K B (.lst ds) (.lst xs)
  | pen {c : Addr} {ns : List Int} {t g : Int} : B c = some (.lst (ns.map V.int)) → RepM K B (.pen c ns t g) (.lst [.ref c, .int t, .int g])
theorem RepM.mono {K : PySem.W.Frag} {B B' : Hp} (e : Ex B B') {m : MO} {o : HO} (h : RepM K B m o) : RepM K B' m o := by
  cases h with
  | lst r => exact .lst (r.mono e)
  | pen h => exact .pen (e _ _ h)
theorem RepM.get {K : PySem.W.Frag} {B : Hp} {m : MO} {o : HO} (h : RepM K B m o) : ∃ xs, o = .lst xs ∧ Reps K B xs m.items := by
  cases h with
  | lst r => exact ⟨_, rfl, r⟩
  | pen h => exact ⟨_, rfl, .cons (.lst h (reps_ints _)) (.cons .int (.cons .int .nil))⟩
theorem RepM.rep {K : PySem.W.Frag} {B : Hp} {m : MO} {o : HO} {a : Addr} (h : RepM K B m o) (hb : B a = some o) : Rep K B (.ref a) m.d := by
  obtain ⟨xs, rfl, r⟩ := h.get
  exact .lst hb r
theorem RepM.put {K : PySem.W.Frag} {B : Hp} {m m' : MO} {xs : List V} {j : Nat} {v : V} {d : D} (h : RepM K B m (.lst xs)) (r : Rep K B v d) (e : m.put j d = some m') : RepM K B m' (.lst (xs.set j v)) := by
  cases h with
  | lst rs => cases e; exact .lst (rs.set r j)
  | pen h =>
    unfold MO.put at e
    split at e
    · next q => cases q
    · next q => cases q; cases e; cases r; exact .pen h
    · next q => cases q; cases e; cases r; exact .pen h
    · cases e

/-- the pen: a list of the cells' list, of how many were used (at most A), of the rest of a great one -/
def PenAt (K : PySem.W.Frag) (p c : Addr) (A : Nat) (H B : Hp) : Prop :=
  ∃ (ns : List Int) (at' g : Int), H p = some (.lst [.ref c, .int at', .int g]) ∧ B c = some (.lst (ns.map V.int)) ∧ ns.length ≤ 63 ∧ 0 ≤ at' ∧ at' ≤ (A : Int)
theorem PenAt.mono {K : PySem.W.Frag} {p c : Addr} {A : Nat} {H B H' B' : Hp} (h : PenAt K p c A H B) (e : H' p = H p) (eb : Ex B B') : PenAt K p c A H' B' := by
  obtain ⟨ns, t, g, h1, h2, h3, h4, h5⟩ := h
  exact ⟨ns, t, g, by rw [e]; exact h1, eb _ _ h2, h3, h4, h5⟩

/-- what is fixed through a def's run -/
structure Fx where
  pen : Option Addr
  H0 : Hp
  B0 : Hp
  cl : Addr := 0

inductive Sl where
  | no | sh (d : D) | own (t : Option Addr) (m : MO)
abbrev En := List Sl

structure RelH (K : PySem.W.Frag) (F : Fx) (A : Nat) (H B : Hp) : Prop where
  gr : Gr F.pen F.H0 F.B0 H B
  pn : ∀ p, F.pen = some p → F.H0 p ≠ none ∧ B p = none ∧ PenAt K p F.cl A H B

def SlOk (K : PySem.W.Frag) (F : Fx) (H B : Hp) (sv : Option V) : Sl → Prop
  | .no => True
  | .sh d => ∃ v, sv = some v ∧ Rep K B v d
  | .own t m => ∃ a o, sv = some (.ref a) ∧ F.H0 a = none ∧ B a = none ∧ H a = some o ∧ RepM K B m o ∧ ∀ b, t = some b → a = b

structure Rel (K : PySem.W.Frag) (F : Fx) (ρ : En) (A : Nat) (σ : L2.St) (H B : Hp) : Prop where
  h : RelH K F A H B
  len : σ.length = ρ.length
  sl : ∀ (i : Nat) (s : Sl), ρ[i]? = some s → ∃ sv, σ[i]? = some sv ∧ SlOk K F H B sv s
  dj : ∀ (i j : Nat) (t t' : Option Addr) (m m' : MO), i ≠ j → ρ[i]? = some (.own t m) → ρ[j]? = some (.own t' m') → σ[i]? ≠ σ[j]?

section
variable {K : PySem.W.Frag} {F : Fx} {ρ : En} {A A' : Nat} {σ : L2.St} {H B H' B' : Hp}
theorem RelH.grow (r : RelH K F A H B) (g : Gr none H B H' B') : RelH K F A H' B' :=
  ⟨r.gr.trans g.weak, fun p hp => by
    obtain ⟨h0, h1, h2⟩ := r.pn p hp
    refine ⟨h0, by rw [g.bn p (r.gr.al p h0)]; exact h1, h2.mono ?_ g.eb⟩
    obtain ⟨ns, t, q, e, _⟩ := h2
    rw [g.ex p _ e, e]⟩
theorem SlOk.grow {sv : Option V} {s : Sl} (r : RelH K F A H B) (g : Gr none H B H' B') (h : SlOk K F H B sv s) : SlOk K F H' B' sv s := by
  cases s with
  | no => trivial
  | sh d => obtain ⟨v, e, q⟩ := h; exact ⟨v, e, q.mono g.eb⟩
  | own t m =>
    obtain ⟨a, o, e, h0, hb, ha, q, ht⟩ := h
    exact ⟨a, o, e, h0, by rw [g.bn a (ne_none_of ha)]; exact hb, g.ex a o ha, q.mono g.eb, ht⟩
theorem Rel.grow (r : Rel K F ρ A σ H B) (g : Gr none H B H' B') : Rel K F ρ A σ H' B' :=
  ⟨r.h.grow g, r.len, fun i s e => let ⟨sv, e1, q⟩ := r.sl i s e; ⟨sv, e1, q.grow r.h g⟩, r.dj⟩
theorem Rel.bh (r : Rel K F ρ A σ H B) : Ex B H := r.h.gr.bh
/-- behind a call that may have turned the pen -/
theorem Rel.turned (r : Rel K F ρ A σ H B) (g : Gr F.pen H B H' B') (hp : ∀ p, F.pen = some p → PenAt K p F.cl A' H' B') : Rel K F ρ A' σ H' B' := by
  refine ⟨⟨r.h.gr.trans g, fun p e => ?_⟩, r.len, fun i s e => ?_, r.dj⟩
  · obtain ⟨h0, h1, h2⟩ := r.h.pn p e
    exact ⟨h0, by rw [g.bn p (r.h.gr.al p h0)]; exact h1, hp p e⟩
  · obtain ⟨sv, e1, q⟩ := r.sl i s e
    refine ⟨sv, e1, ?_⟩
    cases s with
    | no => trivial
    | sh d => obtain ⟨v, e, q⟩ := q; exact ⟨v, e, q.mono g.eb⟩
    | own t m =>
      obtain ⟨a, o, e, h0, hb, ha, q, ht⟩ := q
      refine ⟨a, o, e, h0, by rw [g.bn a (ne_none_of ha)]; exact hb, g.eh a o ha ?_, q.mono g.eb, ht⟩
      intro z
      exact (r.h.pn a z).1 h0
theorem get_set {α : Type} {l : List α} {i j : Nat} {x y : α} (h : (l.set i x)[j]? = some y) : (j = i ∧ y = x ∧ i < l.length) ∨ (j ≠ i ∧ l[j]? = some y) := by
  by_cases q : j = i
  · subst q
    have hl : j < l.length := by
      have := (List.getElem?_eq_some_iff.mp h).1
      simpa using this
    rw [List.getElem?_set_self hl] at h
    exact .inl ⟨rfl, (Option.some.inj h).symm, hl⟩
  · rw [List.getElem?_set_ne (Ne.symm q)] at h
    exact .inr ⟨q, h⟩
/-- a slot gets a shared value -/
theorem Rel.setSh {i : Nat} {v : V} {d : D} (r : Rel K F ρ A σ H B) (h : Rep K B v d) : Rel K F (ρ.set i (.sh d)) A (σ.set i (some v)) H B := by
  refine ⟨r.h, by simp [r.len], fun j s e => ?_, fun j k t t' m m' hjk e1 e2 => ?_⟩
  · rcases get_set e with ⟨rfl, rfl, hl⟩ | ⟨hj, e⟩
    · exact ⟨some v, by rw [List.getElem?_set_self (by rw [r.len]; exact hl)], v, rfl, h⟩
    · obtain ⟨sv, e1, q⟩ := r.sl j s e
      exact ⟨sv, by rw [List.getElem?_set_ne (Ne.symm hj)]; exact e1, q⟩
  · rcases get_set e1 with ⟨_, q, _⟩ | ⟨hj, e1⟩
    · cases q
    · rcases get_set e2 with ⟨_, q, _⟩ | ⟨hk, e2⟩
      · cases q
      · rw [List.getElem?_set_ne (Ne.symm hj), List.getElem?_set_ne (Ne.symm hk)]
        exact r.dj j k t t' m m' hjk e1 e2
/-- no slot owns a -/
def NoOwn (ρ : En) (σ : L2.St) (a : Addr) : Prop := ∀ (i : Nat) (t : Option Addr) (m : MO), ρ[i]? = some (.own t m) → σ[i]? ≠ some (some (.ref a))
theorem Rel.noOwn {a : Addr} (r : Rel K F ρ A σ H B) (h : H a = none) : NoOwn ρ σ a := fun i t m e z => by
  obtain ⟨sv, e1, b, o, e2, _, _, hb, _⟩ := r.sl i _ e
  rw [e1, e2] at z
  have : b = a := by simpa using z
  rw [this, h] at hb; cases hb
theorem Rel.setOwn {i : Nat} {a : Addr} {t : Option Addr} {m : MO} {o : HO} (r : Rel K F ρ A σ H B) (h0 : F.H0 a = none) (hb : B a = none) (ha : H a = some o) (q : RepM K B m o) (no : ∀ (j : Nat) (t : Option Addr) (m : MO), j ≠ i → ρ[j]? = some (.own t m) → σ[j]? ≠ some (some (.ref a))) (ht : ∀ b, t = some b → a = b) :
    Rel K F (ρ.set i (.own t m)) A (σ.set i (some (.ref a))) H B := by
  refine ⟨r.h, by simp [r.len], fun j s e => ?_, fun j k t1 t2 m1 m2 hjk e1 e2 => ?_⟩
  · rcases get_set e with ⟨rfl, rfl, hl⟩ | ⟨hj, e⟩
    · exact ⟨some (.ref a), by rw [List.getElem?_set_self (by rw [r.len]; exact hl)], a, o, rfl, h0, hb, ha, q, ht⟩
    · obtain ⟨sv, e1, q⟩ := r.sl j s e
      exact ⟨sv, by rw [List.getElem?_set_ne (Ne.symm hj)]; exact e1, q⟩
  · rcases get_set e1 with ⟨rfl, _, hl⟩ | ⟨hj, e1⟩
    · rcases get_set e2 with ⟨rfl, _, _⟩ | ⟨hk, e2⟩
      · exact absurd rfl hjk
      · rw [List.getElem?_set_self (by rw [r.len]; exact hl), List.getElem?_set_ne (Ne.symm hk)]
        exact fun z => no k _ _ hk e2 z.symm
    · rcases get_set e2 with ⟨hki, _, hl⟩ | ⟨hk, e2⟩
      · rw [hki, List.getElem?_set_self (by rw [r.len]; exact hl), List.getElem?_set_ne (Ne.symm hj)]
        exact fun z => no j _ _ hj e1 z
      · rw [List.getElem?_set_ne (Ne.symm hj), List.getElem?_set_ne (Ne.symm hk)]
        exact r.dj j k t1 t2 m1 m2 hjk e1 e2
/-- an owned object is known from now on -/
theorem Rel.share {i : Nat} {t : Option Addr} {m : MO} (r : Rel K F ρ A σ H B) (e : ρ[i]? = some (.own t m)) : ∃ B', Rel K F (ρ.set i (.sh m.d)) A σ H B' ∧ Ex B B' := by
  obtain ⟨sv, e1, a, o, rfl, h0, hb, ha, q, ht⟩ := r.sl i _ e
  have eb : Ex B (upd B a o) := Ex.new hb
  have hi : i < ρ.length := (List.getElem?_eq_some_iff.mp e).1
  refine ⟨upd B a o, ⟨⟨⟨r.h.gr.eh, r.h.gr.al, r.h.gr.eb.trans eb, fun b hb' => ?_, fun b u hu => ?_⟩, fun p hp => ?_⟩, by simp [r.len], fun j s ej => ?_, fun j k t1 t2 m1 m2 hjk ej ek => ?_⟩, eb⟩
  · have : b ≠ a := fun z => hb' (z ▸ h0)
    rw [upd_ne this]; exact r.h.gr.bn b hb'
  · by_cases z : b = a
    · subst z; rw [upd_same] at hu; rw [ha]; exact hu
    · rw [upd_ne z] at hu; exact r.h.gr.bh b u hu
  · obtain ⟨h1, h2, h3⟩ := r.h.pn p hp
    have : p ≠ a := fun z => h1 (z ▸ h0)
    exact ⟨h1, by rw [upd_ne this]; exact h2, h3.mono rfl eb⟩
  · rcases get_set ej with ⟨rfl, rfl, _⟩ | ⟨hj, ej⟩
    · exact ⟨_, e1, _, rfl, (q.mono eb).rep upd_same⟩
    · obtain ⟨sv, ej1, qj⟩ := r.sl j s ej
      refine ⟨sv, ej1, ?_⟩
      cases s with
      | no => trivial
      | sh d => obtain ⟨v, z, qj⟩ := qj; exact ⟨v, z, qj.mono eb⟩
      | own t' m' =>
        obtain ⟨b, ob, z, z0, zb, zh, qj, ht'⟩ := qj
        have : b ≠ a := fun y => r.dj j i t' t m' m hj ej e (by rw [ej1, e1, z, y])
        exact ⟨b, ob, z, z0, by rw [upd_ne this]; exact zb, zh, qj.mono eb, ht'⟩
  · rcases get_set ej with ⟨_, q, _⟩ | ⟨hj, ej⟩
    · cases q
    · rcases get_set ek with ⟨_, q, _⟩ | ⟨hk, ek⟩
      · cases q
      · exact r.dj j k t1 t2 m1 m2 hjk ej ek
/-- an owned object is changed -/
theorem Rel.change {i : Nat} {t : Option Addr} {m m' : MO} {a : Addr} {o' : HO} (r : Rel K F ρ A σ H B) (e : ρ[i]? = some (.own t m)) (ea : σ[i]? = some (some (.ref a))) (q' : RepM K B m' o') : Rel K F (ρ.set i (.own t m')) A σ (upd H a o') B := by
  obtain ⟨sv, e1, a', o, rfl, h0, hb, ha, q, ht⟩ := r.sl i _ e
  have : a' = a := by rw [e1] at ea; simpa using ea
  subst this
  have hi : i < ρ.length := (List.getElem?_eq_some_iff.mp e).1
  refine ⟨⟨⟨fun b u hu np => ?_, fun b hb' => ?_, r.h.gr.eb, r.h.gr.bn, fun b u hu => ?_⟩, fun p hp => ?_⟩, by simp [r.len], fun j s ej => ?_, fun j k t1 t2 m1 m2 hjk ej ek => ?_⟩
  · have : b ≠ a' := fun z => by rw [z, h0] at hu; cases hu
    rw [upd_ne this]; exact r.h.gr.eh b u hu np
  · by_cases z : b = a'
    · subst z; rw [upd_same]; simp
    · rw [upd_ne z]; exact r.h.gr.al b hb'
  · have : b ≠ a' := fun z => by rw [z, hb] at hu; cases hu
    rw [upd_ne this]; exact r.h.gr.bh b u hu
  · obtain ⟨h1, h2, h3⟩ := r.h.pn p hp
    have : p ≠ a' := fun z => h1 (z ▸ h0)
    exact ⟨h1, h2, h3.mono (upd_ne this) (Ex.refl _)⟩
  · rcases get_set ej with ⟨rfl, rfl, _⟩ | ⟨hj, ej⟩
    · exact ⟨_, e1, a', o', rfl, h0, hb, upd_same, q', ht⟩
    · obtain ⟨sv, ej1, qj⟩ := r.sl j s ej
      refine ⟨sv, ej1, ?_⟩
      cases s with
      | no => trivial
      | sh d => exact qj
      | own t2 m2 =>
        obtain ⟨b, ob, z, z0, zb, zh, qj, ht'⟩ := qj
        have : b ≠ a' := fun y => r.dj j i t2 t m2 m hj ej e (by rw [ej1, e1, z, y])
        exact ⟨b, ob, z, z0, zb, by rw [upd_ne this]; exact zh, qj, ht'⟩
  · have nn : ∀ {l : Nat} {tl : Option Addr} {ml : MO}, (ρ.set i (.own t m'))[l]? = some (.own tl ml) → ∃ tl' ml', ρ[l]? = some (.own tl' ml') := fun {l tl ml} h => by
      rcases get_set h with ⟨rfl, _, _⟩ | ⟨_, h⟩
      · exact ⟨_, _, e⟩
      · exact ⟨_, _, h⟩
    obtain ⟨s1, x1, y1⟩ := nn ej
    obtain ⟨s2, x2, y2⟩ := nn ek
    exact r.dj j k s1 s2 x1 x2 hjk y1 y2
/-- slots forgotten -/
def wipeD (ρ : En) : List Nat → En
  | [] => ρ
  | v :: vs => (wipeD ρ vs).set v .no
theorem Rel.setNo {i : Nat} {sv : Option V} (r : Rel K F ρ A σ H B) : Rel K F (ρ.set i .no) A (σ.set i sv) H B := by
  refine ⟨r.h, by simp [r.len], fun j s e => ?_, fun j k t t' m m' hjk e1 e2 => ?_⟩
  · rcases get_set e with ⟨rfl, rfl, hl⟩ | ⟨hj, e⟩
    · exact ⟨sv, by rw [List.getElem?_set_self (by rw [r.len]; exact hl)], trivial⟩
    · obtain ⟨sv, e1, q⟩ := r.sl j s e
      exact ⟨sv, by rw [List.getElem?_set_ne (Ne.symm hj)]; exact e1, q⟩
  · rcases get_set e1 with ⟨_, q, _⟩ | ⟨hj, e1⟩
    · cases q
    · rcases get_set e2 with ⟨_, q, _⟩ | ⟨hk, e2⟩
      · cases q
      · rw [List.getElem?_set_ne (Ne.symm hj), List.getElem?_set_ne (Ne.symm hk)]
        exact r.dj j k t t' m m' hjk e1 e2
theorem Rel.wipe (r : Rel K F ρ A σ H B) : ∀ vs : List Nat, Rel K F (wipeD ρ vs) A (L2.wipe σ vs) H B
  | [] => r
  | v :: vs => by
    unfold wipeD L2.wipe
    exact (Rel.wipe r vs).setNo
end
end Y
set_option Elab.async false
set_option linter.all false
set_option maxRecDepth 100000
set_option maxHeartbeats 4000000
set_option autoImplicit false
namespace Y
open PySem PySem.Spec PyProof.Rows L2

/-! ### readings over data -/
abbrev DE := En → Nat → (D → Nat → Prop) → Prop
abbrev DL := En → Nat → (List D → Nat → Prop) → Prop
abbrev DT := En → Nat → (Bool → Nat → Prop) → Prop
abbrev DA := En → Nat → (List D → Nat → Prop) → Prop
inductive R where
  | sh (d : D) | own (m : MO)
def R.d : R → D
  | .sh d => d
  | .own m => m.d
structure DEnds where
  nx : En → Nat → Prop
  rt : R → En → Nat → Prop
  bk : En → Nat → Prop := fun _ _ => False
  ct : En → Nat → Prop := fun _ _ => False
abbrev DS := DEnds → En → Nat → Prop

def liftE (K : PySem.W.Frag) (F : Fx) (d : DE) : TE := fun σ H Q => ∃ ρ A B q, Rel K F ρ A σ H B ∧ d ρ A q ∧ ∀ x A' v H' B', q x A' → Rel K F ρ A' σ H' B' → Gr F.pen H B H' B' → Rep K B' v x → Q v H'
def liftL (K : PySem.W.Frag) (F : Fx) (d : DL) : TE := fun σ H Q => ∃ ρ A B q, Rel K F ρ A σ H B ∧ d ρ A q ∧ ∀ ds A' a xs H' B', q ds A' → Rel K F ρ A' σ H' B' → Gr F.pen H B H' B' → H' a = some (.lst xs) → H a = none → B' a = none → Reps K B' xs ds → Q (.ref a) H'
def liftT (K : PySem.W.Frag) (F : Fx) (d : DT) : TT := fun σ H Q => ∃ ρ A B q, Rel K F ρ A σ H B ∧ d ρ A q ∧ ∀ b A' H' B', q b A' → Rel K F ρ A' σ H' B' → Gr F.pen H B H' B' → Q b H'
def liftA (K : PySem.W.Frag) (F : Fx) (d : DA) : TA := fun σ H Q => ∃ ρ A B q, Rel K F ρ A σ H B ∧ d ρ A q ∧ ∀ ds A' vs H' B', q ds A' → Rel K F ρ A' σ H' B' → Gr F.pen H B H' B' → Reps K B' vs ds → Q vs H'

/-- how a result lies behind a run -/
def RetOk (K : PySem.W.Frag) (H0 : Hp) (r : R) (v : V) (H' B' : Hp) : Prop := match r with
  | .sh d => Rep K B' v d
  | .own m => ∃ a o, v = .ref a ∧ H0 a = none ∧ B' a = none ∧ H' a = some o ∧ RepM K B' m o
structure EndsOk (K : PySem.W.Frag) (F : Fx) (B0 : Hp) (E : DEnds) (D : Ends) : Prop where
  nx : ∀ ρ A σ H B, Rel K F ρ A σ H B → Ex B0 B → E.nx ρ A → D.nx σ H
  bk : ∀ ρ A σ H B, Rel K F ρ A σ H B → Ex B0 B → E.bk ρ A → D.bk σ H
  ct : ∀ ρ A σ H B, Rel K F ρ A σ H B → Ex B0 B → E.ct ρ A → D.ct σ H
  rt : ∀ r ρ A σ v H B, Rel K F ρ A σ H B → RetOk K F.H0 r v H B → E.rt r ρ A → D.rt v H
theorem EndsOk.mono {K : PySem.W.Frag} {F : Fx} {B0 B1 : Hp} {E : DEnds} {D : Ends} (k : EndsOk K F B0 E D) (e : Ex B0 B1) : EndsOk K F B1 E D :=
  ⟨fun ρ A σ H B r x h => k.nx ρ A σ H B r (e.trans x) h, fun ρ A σ H B r x h => k.bk ρ A σ H B r (e.trans x) h, fun ρ A σ H B r x h => k.ct ρ A σ H B r (e.trans x) h, k.rt⟩
def liftS (K : PySem.W.Frag) (F : Fx) (d : DS) : TS := fun D σ H => ∃ ρ A B E, Rel K F ρ A σ H B ∧ EndsOk K F B E D ∧ d E ρ A

def PDE (X : Cx) (F : Fx) (e : Expr) (d : DE) : Prop := PE X e (liftE X.K F d)
def PDL (X : Cx) (F : Fx) (e : Expr) (d : DL) : Prop := PE X e (liftL X.K F d)
def PDT (X : Cx) (F : Fx) (e : Expr) (d : DT) : Prop := PT X e (liftT X.K F d)
def PDW (X : Cx) (F : Fx) (e : Expr) (d : DT) : Prop := PW X e (liftT X.K F d)
def PDA (X : Cx) (F : Fx) (es : List Expr) (d : DA) : Prop := PA X es (liftA X.K F d)
def PDS (X : Cx) (F : Fx) (st : Stmt) (d : DS) : Prop := PS X st (liftS X.K F d)
def PDSs (X : Cx) (F : Fx) (st : List Stmt) (d : DS) : Prop := PSs X st (liftS X.K F d)

section
variable {X : Cx} {F : Fx}
theorem PE.weak {e : Expr} {t t' : TE} (h : PE X e t) (w : ∀ σ H Q, t' σ H Q → t σ H Q) : PE X e t' := ⟨fun pins s σ H Q I q => h.run pins s σ H Q I (w σ H Q q)⟩
theorem PT.weak {e : Expr} {t t' : TT} (h : PT X e t) (w : ∀ σ H Q, t' σ H Q → t σ H Q) : PT X e t' := ⟨fun pins s σ H Q I q => h.run pins s σ H Q I (w σ H Q q)⟩
theorem PW.weak {e : Expr} {t t' : TT} (h : PW X e t) (w : ∀ σ H Q, t' σ H Q → t σ H Q) : PW X e t' := ⟨fun wh pins s σ H Q I q => h.run wh pins s σ H Q I (w σ H Q q)⟩
theorem PA.weak {e : List Expr} {t t' : TA} (h : PA X e t) (w : ∀ σ H Q, t' σ H Q → t σ H Q) : PA X e t' := ⟨fun p pins s σ H Q I q => h.run p pins s σ H Q I (w σ H Q q)⟩
theorem PS.weak {e : Stmt} {t t' : TS} (h : PS X e t) (w : ∀ D σ H, t' D σ H → t D σ H) : PS X e t' := ⟨fun pins s σ H D I q => h.run pins s σ H D I (w D σ H q)⟩
theorem PSs.weak {e : List Stmt} {t t' : TS} (h : PSs X e t) (w : ∀ D σ H, t' D σ H → t D σ H) : PSs X e t' := ⟨fun pins s σ H D I q => h.run pins s σ H D I (w D σ H q)⟩

section
variable {K : PySem.W.Frag} {ρ : En} {A : Nat} {σ : L2.St} {H B : Hp}
/-- a new list is known from now on -/
theorem Rel.known {a : Addr} {o : HO} (r : Rel K F ρ A σ H B) (ha : H a = some o) (h0 : F.H0 a = none) (hb : B a = none) (no : NoOwn ρ σ a) : Rel K F ρ A σ H (upd B a o) := by
  have eb : Ex B (upd B a o) := Ex.new hb
  refine ⟨⟨⟨r.h.gr.eh, r.h.gr.al, r.h.gr.eb.trans eb, fun b hb' => ?_, fun b u hu => ?_⟩, fun p hp => ?_⟩, r.len, fun i s e => ?_, r.dj⟩
  · have : b ≠ a := fun z => hb' (z ▸ h0)
    rw [upd_ne this]; exact r.h.gr.bn b hb'
  · by_cases z : b = a
    · subst z; rw [upd_same] at hu; rw [ha]; exact hu
    · rw [upd_ne z] at hu; exact r.h.gr.bh b u hu
  · obtain ⟨h1, h2, h3⟩ := r.h.pn p hp
    have : p ≠ a := fun z => h1 (z ▸ h0)
    exact ⟨h1, by rw [upd_ne this]; exact h2, h3.mono rfl eb⟩
  · obtain ⟨sv, e1, q⟩ := r.sl i s e
    refine ⟨sv, e1, ?_⟩
    cases s with
    | no => trivial
    | sh d => obtain ⟨v, z, q⟩ := q; exact ⟨v, z, q.mono eb⟩
    | own t m =>
      obtain ⟨b, ob, z, z0, zb, zh, q, ht⟩ := q
      have : b ≠ a := fun y => no i t m e (by rw [e1, z, y])
      exact ⟨b, ob, z, z0, by rw [upd_ne this]; exact zb, zh, q.mono eb, ht⟩
end
theorem RelH.h0 {K : PySem.W.Frag} {A : Nat} {H B : Hp} {a : Addr} (r : RelH K F A H B) (h : H a = none) : F.H0 a = none := by
  cases z : F.H0 a with
  | none => rfl
  | some u => exact absurd h (r.gr.al a (by rw [z]; simp))
theorem Gr.known {p : Option Addr} {H B H' B' : Hp} {a : Addr} {o : HO} (g : Gr p H B H' B') (ha : H' a = some o) (hb : B' a = none) (hn : H a = none) : Gr p H B H' (upd B' a o) := by
  refine ⟨g.eh, g.al, g.eb.trans (Ex.new hb), fun b q => ?_, fun b u q => ?_⟩
  · have z : b ≠ a := fun z => q (z ▸ hn)
    rw [upd_ne z]; exact g.bn b q
  · by_cases z : b = a
    · subst z; rw [upd_same] at q; rw [ha]; exact q
    · rw [upd_ne z] at q; exact g.bh b u q
theorem b_none {B H : Hp} {p : Addr} (e : Ex B H) (h : H p = none) : B p = none := by
  cases q : B p with
  | none => rfl
  | some u => rw [e p u q] at h; cases h
theorem Gr.back {p : Option Addr} {H B H' B' : Hp} {a : Addr} (g : Gr p H B H' B') (h : H' a = none) : H a = none := by
  cases z : H a with
  | none => rfl
  | some u => exact absurd h (g.al a (by rw [z]; simp))
def dOfL (dl : DL) : DE := fun ρ A Q => dl ρ A fun ds A' => Q (.lst ds) A'
theorem pd_ofL {e : Expr} {dl : DL} (h : PDL X F e dl) : PDE X F e (dOfL dl) := PE.weak h fun σ H Q ⟨ρ, A, B, q, r, hd, k⟩ =>
  ⟨ρ, A, B, _, r, hd, fun ds A' a xs H' B' hq r' e ha hn hb rs =>
    k _ _ _ H' _ hq (r'.known ha (r.h.h0 hn) hb (r.noOwn hn)) (e.known ha hb hn) (.lst upd_same (rs.mono (Ex.new hb)))⟩

/-! ### expressions -/
def dC (x : D) : DE := fun _ A q => q x A
def dVar (i : Nat) : DE := fun ρ A q => match ρ[i]? with
  | some (.sh d) => q d A
  | _ => False
theorem pd_c {e : Expr} {v : V} {x : D} (h : PE X e (tC v)) (hr : ∀ B, Rep X.K B v x) : PDE X F e (dC x) := PE.weak h fun σ H Q ⟨ρ, A, B, q, r, hd, k⟩ => k x A v H B hd r (Gr.refl r.bh) (hr B)
theorem pd_int {i : Int} {j : Nat} {pos : Pos} : PDE X F (.Constant (.int i) j pos) (dC (.int i)) := pd_c pe_int fun _ => .int
theorem pd_bl {b : Bool} {j : Nat} {pos : Pos} : PDE X F (.Constant (.bool b) j pos) (dC (.bl b)) := pd_c pe_bl fun _ => .bl
theorem pd_non {j : Nat} {pos : Pos} : PDE X F (.Constant .none j pos) (dC .non) := pd_c pe_non fun _ => .non
theorem pd_str {x : Str} {j : Nat} {pos : Pos} : PDE X F (.Constant (.str x) j pos) (dC (.str x)) := pd_c pe_str fun _ => .str
theorem pd_ty {x : Str} {n : String} {pos : Pos} (hg : Gl X x) (hm : X.mg x = none) (hv : bootBuiltins x = some (.type n)) (hn : x ≠ "__name__" := by decide) (hd : (x == ("__debug__" : Str)) = false := by decide) : PDE X F (.Name x pos) (dC (.ty n)) :=
  pd_c (pe_bltn (v := .ty n) hg hm hv rfl hn hd) fun _ => .ty
theorem pd_var (i : Nat) {x : Str} {pos : Pos} (hN : X.N[i]? = some x := by rfl) (hv : Vis X.env.scope x := by first | exact Or.inl rfl | exact Or.inr (Or.inl rfl) | exact Or.inr (Or.inr rfl)) (hd : (x == ("__debug__" : Str)) = false := by decide)
    (hcd : (x == ("__classdict__" : Str)) = false := by decide) : PDE X F (.Name x pos) (dVar i) := PE.weak (pe_var hN hv hd hcd) fun σ H Q ⟨ρ, A, B, q, r, hd, k⟩ => by
  unfold dVar at hd
  cases e : ρ[i]? with
  | none => rw [e] at hd; exact hd.elim
  | some s =>
    rw [e] at hd
    cases s with
    | sh d =>
      obtain ⟨sv, e1, v, rfl, hr⟩ := r.sl i _ e
      exact ⟨v, e1, k d A v H B hd r (Gr.refl r.bh) hr⟩
    | no => exact hd.elim
    | own t m => exact hd.elim

/-- a two-place operation over data -/
def OpD (K : PySem.W.Frag) (r : R2) (dr : D → D → (D → Prop) → Prop) : Prop := ∀ (x y : D) (v w : V) (H B : Hp) (q : D → Prop) (Q : VK), Rep K B v x → Rep K B w y → Ex B H → dr x y q →
  (∀ z u H' B', q z → Gr none H B H' B' → Rep K B' u z → Q u H') → r v w H Q
def dOp (dr : D → D → (D → Prop) → Prop) (da db : DE) : DE := fun ρ A q => da ρ A fun x A1 => db ρ A1 fun y A2 => dr x y fun z => q z A2
theorem top_lift {K : PySem.W.Frag} {r : R2} {dr : D → D → (D → Prop) → Prop} {da db : DE} (o : OpD K r dr) (σ : L2.St) (H : Hp) (Q : VK) (h : liftE K F (dOp dr da db) σ H Q) : tOp r (liftE K F da) (liftE K F db) σ H Q := by
  obtain ⟨ρ, A, B, q, rl, hd, k⟩ := h
  refine ⟨ρ, A, B, _, rl, hd, fun x A1 v H1 B1 h1 r1 e1 p1 => ⟨ρ, A1, B1, _, r1, h1, fun y A2 w H2 B2 h2 r2 e2 p2 => ?_⟩⟩
  exact o x y v w H2 B2 _ Q (p1.mono e2.eb) p2 r2.bh h2 fun z u H' B' hz g p => k z A2 u H' B' hz (r2.grow g) ((e1.trans e2).trans g.weak) p
theorem pd_op {a b : Expr} {op : Operator} {pos : Pos} {r : R2} {dr : D → D → (D → Prop) → Prop} {da db : DE} (ho : OpR X (binaryOp op) r) (o : OpD X.K r dr) (ha : PDE X F a da) (hb : PDE X F b db) : PDE X F (.BinOp a op b pos) (dOp dr da db) :=
  PE.weak (pe_op ho ha hb) (top_lift o)
theorem pd_cmp {a b : Expr} {op : CmpOp} {pos : Pos} {r : R2} {dr : D → D → (D → Prop) → Prop} {da db : DE} (ho : OpR X (compareOp op) r) (o : OpD X.K r dr) (ha : PDE X F a da) (hb : PDE X F b db) (hm : behindInMarks op b = false) : PDE X F (.Compare a [op] [b] pos) (dOp dr da db) :=
  PE.weak (pe_cmpR ho ha hb hm) (top_lift o)
/-- a value as a test: it must be a bool -/
def dTst (d : DE) : DT := fun ρ A q => d ρ A fun x A' => match x with
  | .bl b => q b A'
  | _ => False
theorem Rep.bl_inv {K : PySem.W.Frag} {B : Hp} {v : V} {b : Bool} (h : Rep K B v (.bl b)) : v = .bl b := by cases h; rfl
theorem Rep.int_inv {K : PySem.W.Frag} {B : Hp} {v : V} {b : Int} (h : Rep K B v (.int b)) : v = .int b := by cases h; rfl
theorem Rep.str_inv {K : PySem.W.Frag} {B : Hp} {v : V} {b : Str} (h : Rep K B v (.str b)) : v = .str b := by cases h; rfl
theorem Rep.non_inv {K : PySem.W.Frag} {B : Hp} {v : V} (h : Rep K B v .non) : v = .non := by cases h; rfl
theorem Rep.ty_inv {K : PySem.W.Frag} {B : Hp} {v : V} {n : String} (h : Rep K B v (.ty n)) : v = .ty n := by cases h; rfl
theorem Rep.ref_inv {K : PySem.W.Frag} {B : Hp} {v : V} {a : Addr} (h : Rep K B v (.ref a)) : v = .ref a := by cases h; rfl
theorem Rep.lst_inv {K : PySem.W.Frag} {B : Hp} {v : V} {ds : List D} (h : Rep K B v (.lst ds)) : ∃ a xs, v = .ref a ∧ B a = some (.lst xs) ∧ Reps K B xs ds := by
  cases h with
  | lst h r => exact ⟨_, _, rfl, h, r⟩
theorem Rep.tup_inv {K : PySem.W.Frag} {B : Hp} {v : V} {ds : List D} (h : Rep K B v (.tup ds)) : ∃ a xs, v = .ref a ∧ SqT K B a xs ∧ Reps K B xs ds := by
  cases h with
  | tup h r => exact ⟨_, _, rfl, h, r⟩
theorem Rep.obj_inv {K : PySem.W.Frag} {B : Hp} {v : V} {C : Addr} {gs : List (Str × D)} (h : Rep K B v (.obj C gs)) : ∃ a dx fs, v = .ref a ∧ B a = some (.ins C dx fs) ∧ RepF K B fs gs := by
  cases h with
  | obj h r => exact ⟨_, _, _, rfl, h, r⟩
theorem dTst_lift {K : PySem.W.Frag} {d : DE} {σ : L2.St} {H : Hp} {Q : Bool → Hp → Prop} (h : liftT K F (dTst d) σ H Q) : liftE K F d σ H fun x H1 => ∃ c, x = .bl c ∧ Q c H1 := by
  obtain ⟨ρ, A, B, q, rl, hd, k⟩ := h
  refine ⟨ρ, A, B, _, rl, hd, fun x A' v H' B' hx r' e p => ?_⟩
  cases x with
  | bl b => exact ⟨b, p.bl_inv, k b A' H' B' hx r' e⟩
  | _ => exact hx.elim
theorem pdt_cmp {a b : Expr} {op : CmpOp} {pos : Pos} {r : R2} {dr : D → D → (D → Prop) → Prop} {da db : DE} (ho : OpR X (compareOp op) r) (o : OpD X.K r dr) (ha : PDE X F a da) (hb : PDE X F b db) (hm : behindInMarks op b = false) : PDT X F (.Compare a [op] [b] pos) (dTst (dOp dr da db)) :=
  PT.weak (pt_cmpR ho ha hb hm) fun σ H Q h => top_lift o σ H _ (dTst_lift h)
theorem pdt_val {e : Expr} {d : DE} (h : PDE X F e d) (he : ∀ whole, isTrue e X.env whole = (do let v ← whole; standAt e.pos; holding [v] (truthy v)) := by intro _; rfl) : PDT X F e (dTst d) :=
  PT.weak (pt_val h he) fun σ H Q h => dTst_lift h
/-- chains -/
def dChain (dr dr' : D → D → (D → Prop) → Prop) (da db dc : DE) : DE := fun ρ A q => da ρ A fun x A1 => db ρ A1 fun y A2 => dr x y fun z => match z with
  | .bl true => dc ρ A2 fun w A3 => dr' y w fun u => q u A3
  | .bl false => q (.bl false) A2
  | _ => False
theorem chain_lift {K : PySem.W.Frag} {r r' : R2} {dr dr' : D → D → (D → Prop) → Prop} {da db dc : DE} (o : OpD K r dr) (o' : OpD K r' dr') (σ : L2.St) (H : Hp) (Q : VK) (h : liftE K F (dChain dr dr' da db dc) σ H Q) :
    tChain r r' (liftE K F da) (liftE K F db) (liftE K F dc) σ H Q := by
  obtain ⟨ρ, A, B, q, rl, hd, k⟩ := h
  refine ⟨ρ, A, B, _, rl, hd, fun x A1 v H1 B1 h1 r1 e1 p1 => ⟨ρ, A1, B1, _, r1, h1, fun y A2 w H2 B2 h2 r2 e2 p2 => ?_⟩⟩
  refine o x y v w H2 B2 _ _ (p1.mono e2.eb) p2 r2.bh h2 fun z u H3 B3 hz g p => ?_
  cases z with
  | bl b =>
    refine ⟨b, p.bl_inv, ?_⟩
    cases b with
    | true =>
      rw [if_pos rfl]
      refine ⟨ρ, A2, B3, _, r2.grow g, hz, fun c A3 w3 H4 B4 h4 r4 e4 p4 => ?_⟩
      exact o' y c w w3 H4 B4 _ Q (p2.mono (g.eb.trans e4.eb)) p4 r4.bh h4 fun z' u' H' B' hz' g' p' => k z' A3 u' H' B' hz' (r4.grow g') ((((e1.trans e2).trans g.weak).trans e4).trans g'.weak) p'
    | false =>
      rw [if_neg (by decide)]
      exact k _ A2 _ H3 B3 hz (r2.grow g) ((e1.trans e2).trans g.weak) .bl
  | _ => exact hz.elim
theorem pd_chain {a b c : Expr} {op op' : CmpOp} {pos : Pos} {r r' : R2} {dr dr' : D → D → (D → Prop) → Prop} {da db dc : DE} (ho : OpR X (compareOp op) r) (ho' : OpR X (compareOp op') r') (o : OpD X.K r dr) (o' : OpD X.K r' dr')
    (ha : PDE X F a da) (hb : PDE X F b db) (hc : PDE X F c dc) (hm : lastMarks [op, op'] [b, c] = false := by rfl) : PDE X F (.Compare a [op, op'] [b, c] pos) (dChain dr dr' da db dc) :=
  PE.weak (pe_chain ho ho' ha hb hc hm) (chain_lift o o')
theorem pdt_chain {a b c : Expr} {op op' : CmpOp} {pos : Pos} {r r' : R2} {dr dr' : D → D → (D → Prop) → Prop} {da db dc : DE} (ho : OpR X (compareOp op) r) (ho' : OpR X (compareOp op') r') (o : OpD X.K r dr) (o' : OpD X.K r' dr')
    (ha : PDE X F a da) (hb : PDE X F b db) (hc : PDE X F c dc) (hm : lastMarks [op, op'] [b, c] = false := by rfl) : PDT X F (.Compare a [op, op'] [b, c] pos) (dTst (dChain dr dr' da db dc)) :=
  PT.weak (pt_chain ho ho' ha hb hc hm) fun σ H Q h => chain_lift o o' σ H _ (dTst_lift h)
/-- one-place operations -/
def UnD (K : PySem.W.Frag) (r : V → Hp → VK → Prop) (dr : D → (D → Prop) → Prop) : Prop := ∀ (x : D) (v : V) (H B : Hp) (q : D → Prop) (Q : VK), Rep K B v x → Ex B H → dr x q →
  (∀ z u H' B', q z → Gr none H B H' B' → Rep K B' u z → Q u H') → r v H Q
def dUn (dr : D → (D → Prop) → Prop) (da : DE) : DE := fun ρ A q => da ρ A fun x A1 => dr x fun z => q z A1
theorem pd_un {a : Expr} {op : UnaryOp} {pos : Pos} {r : V → Hp → VK → Prop} {dr : D → (D → Prop) → Prop} {da : DE} (ho : UnR X (unaryOp op) r) (o : UnD X.K r dr) (ha : PDE X F a da) : PDE X F (.UnaryOp op a pos) (dUn dr da) :=
  PE.weak (pe_un ho ha) fun σ H Q ⟨ρ, A, B, q, rl, hd, k⟩ => ⟨ρ, A, B, _, rl, hd, fun x A1 v H1 B1 h1 r1 e1 p1 => o x v H1 B1 _ Q p1 r1.bh h1 fun z u H' B' hz g p => k z A1 u H' B' hz (r1.grow g) (e1.trans g.weak) p⟩
/-- and, or, not as tests -/
def dAnd (a b : DT) : DT := fun ρ A q => a ρ A fun c A1 => if c = true then b ρ A1 q else q false A1
def dOr (a b : DT) : DT := fun ρ A q => a ρ A fun c A1 => if c = true then q true A1 else b ρ A1 q
def dNot (a : DT) : DT := fun ρ A q => a ρ A fun c A1 => q (!c) A1
theorem dAnd_lift {K : PySem.W.Frag} {a b : DT} (σ : L2.St) (H : Hp) (Q : Bool → Hp → Prop) (h : liftT K F (dAnd a b) σ H Q) : tAnd (liftT K F a) (liftT K F b) σ H Q := by
  obtain ⟨ρ, A, B, q, rl, hd, k⟩ := h
  refine ⟨ρ, A, B, _, rl, hd, fun c A1 H1 B1 h1 r1 e1 => ?_⟩
  cases c with
  | true =>
    rw [if_pos rfl] at h1 ⊢
    exact ⟨ρ, A1, B1, _, r1, h1, fun c A2 H2 B2 h2 r2 e2 => k c A2 H2 B2 h2 r2 (e1.trans e2)⟩
  | false =>
    rw [if_neg (by decide)] at h1 ⊢
    exact k false A1 H1 B1 h1 r1 e1
theorem dOr_lift {K : PySem.W.Frag} {a b : DT} (σ : L2.St) (H : Hp) (Q : Bool → Hp → Prop) (h : liftT K F (dOr a b) σ H Q) : tOr (liftT K F a) (liftT K F b) σ H Q := by
  obtain ⟨ρ, A, B, q, rl, hd, k⟩ := h
  refine ⟨ρ, A, B, _, rl, hd, fun c A1 H1 B1 h1 r1 e1 => ?_⟩
  cases c with
  | false =>
    rw [if_neg (by decide)] at h1 ⊢
    exact ⟨ρ, A1, B1, _, r1, h1, fun c A2 H2 B2 h2 r2 e2 => k c A2 H2 B2 h2 r2 (e1.trans e2)⟩
  | true =>
    rw [if_pos rfl] at h1 ⊢
    exact k true A1 H1 B1 h1 r1 e1
theorem pdw_and1 {a : Expr} {pos : Pos} {d : DT} (h : PDT X F a d) : PDW X F (.BoolOp .And [a] pos) d := pw_and1 h
theorem pdw_or1 {a : Expr} {pos : Pos} {d : DT} (h : PDT X F a d) : PDW X F (.BoolOp .Or [a] pos) d := pw_or1 h
theorem pdw_and {a b : Expr} {rest : List Expr} {pos : Pos} {d e : DT} (h : PDT X F a d) (h2 : PDW X F (.BoolOp .And (b :: rest) pos) e) : PDW X F (.BoolOp .And (a :: b :: rest) pos) (dAnd d e) := PW.weak (pw_and h h2) dAnd_lift
theorem pdw_or {a b : Expr} {rest : List Expr} {pos : Pos} {d e : DT} (h : PDT X F a d) (h2 : PDW X F (.BoolOp .Or (b :: rest) pos) e) : PDW X F (.BoolOp .Or (a :: b :: rest) pos) (dOr d e) := PW.weak (pw_or h h2) dOr_lift
theorem pdt_w {e : Expr} {d : DT} (h : PDW X F e d) : PDT X F e d := PW.pt h
theorem pdt_not {a : Expr} {pos : Pos} {d : DT} (h : PDT X F a d) : PDT X F (.UnaryOp .Not a pos) (dNot d) := PT.weak (pt_not h) fun σ H Q ⟨ρ, A, B, q, rl, hd, k⟩ => ⟨ρ, A, B, _, rl, hd, fun c A1 H1 B1 h1 r1 e1 => k (!c) A1 H1 B1 h1 r1 e1⟩
/-- .. as values, of bools -/
def dAndV (a b : DE) : DE := fun ρ A q => a ρ A fun x A1 => match x with
  | .bl true => b ρ A1 q
  | .bl false => q (.bl false) A1
  | _ => False
def dOrV (a b : DE) : DE := fun ρ A q => a ρ A fun x A1 => match x with
  | .bl true => q (.bl true) A1
  | .bl false => b ρ A1 q
  | _ => False
def dNotV (a : DE) : DE := fun ρ A q => a ρ A fun x A1 => match x with
  | .bl c => q (.bl (!c)) A1
  | _ => False
theorem pd_one {a : Expr} {op : BoolOp} {pos : Pos} {d : DE} (h : PDE X F a d) : PDE X F (.BoolOp op [a] pos) d := pe_one h
theorem pd_and {a b : Expr} {rest : List Expr} {pos : Pos} {d e : DE} (h : PDE X F a d) (h2 : PDE X F (.BoolOp .And (b :: rest) pos) e) : PDE X F (.BoolOp .And (a :: b :: rest) pos) (dAndV d e) := PE.weak (pe_and h h2) fun σ H Q ⟨ρ, A, B, q, rl, hd, k⟩ => by
  refine ⟨ρ, A, B, _, rl, hd, fun x A1 v H1 B1 h1 r1 e1 p1 => ?_⟩
  cases x with
  | bl c =>
    refine ⟨c, p1.bl_inv, ?_⟩
    cases c with
    | true => rw [if_pos rfl]; exact ⟨ρ, A1, B1, _, r1, h1, fun y A2 w H2 B2 h2 r2 e2 p2 => k y A2 w H2 B2 h2 r2 (e1.trans e2) p2⟩
    | false => rw [if_neg (by decide)]; exact k _ A1 _ H1 B1 h1 r1 e1 .bl
  | _ => exact h1.elim
theorem pd_or {a b : Expr} {rest : List Expr} {pos : Pos} {d e : DE} (h : PDE X F a d) (h2 : PDE X F (.BoolOp .Or (b :: rest) pos) e) : PDE X F (.BoolOp .Or (a :: b :: rest) pos) (dOrV d e) := PE.weak (pe_or h h2) fun σ H Q ⟨ρ, A, B, q, rl, hd, k⟩ => by
  refine ⟨ρ, A, B, _, rl, hd, fun x A1 v H1 B1 h1 r1 e1 p1 => ?_⟩
  cases x with
  | bl c =>
    refine ⟨c, p1.bl_inv, ?_⟩
    cases c with
    | false => rw [if_neg (by decide)]; exact ⟨ρ, A1, B1, _, r1, h1, fun y A2 w H2 B2 h2 r2 e2 p2 => k y A2 w H2 B2 h2 r2 (e1.trans e2) p2⟩
    | true => rw [if_pos rfl]; exact k _ A1 _ H1 B1 h1 r1 e1 .bl
  | _ => exact h1.elim
theorem pd_not {a : Expr} {pos : Pos} {d : DE} (h : PDE X F a d) : PDE X F (.UnaryOp .Not a pos) (dNotV d) := PE.weak (pe_not h) fun σ H Q ⟨ρ, A, B, q, rl, hd, k⟩ => by
  refine ⟨ρ, A, B, _, rl, hd, fun x A1 v H1 B1 h1 r1 e1 p1 => ?_⟩
  cases x with
  | bl c => exact ⟨c, p1.bl_inv, k _ A1 _ H1 B1 h1 r1 e1 .bl⟩
  | _ => exact h1.elim
/-- a if t else b -/
def dIfE (t : DT) (a b : DE) : DE := fun ρ A q => t ρ A fun c A1 => if c = true then a ρ A1 q else b ρ A1 q
theorem pd_if {c a b : Expr} {pos : Pos} {t : DT} {da db : DE} (hc : PDT X F c t) (ha : PDE X F a da) (hb : PDE X F b db) : PDE X F (.IfExp c a b pos) (dIfE t da db) := PE.weak (pe_ifExp hc ha hb) fun σ H Q ⟨ρ, A, B, q, rl, hd, k⟩ => by
  refine ⟨ρ, A, B, _, rl, hd, fun c A1 H1 B1 h1 r1 e1 => ?_⟩
  cases c with
  | true => rw [if_pos rfl] at h1 ⊢; exact ⟨ρ, A1, B1, _, r1, h1, fun y A2 w H2 B2 h2 r2 e2 p2 => k y A2 w H2 B2 h2 r2 (e1.trans e2) p2⟩
  | false => rw [if_neg (by decide)] at h1 ⊢; exact ⟨ρ, A1, B1, _, r1, h1, fun y A2 w H2 B2 h2 r2 e2 p2 => k y A2 w H2 B2 h2 r2 (e1.trans e2) p2⟩
/-- arguments -/
def dNil : DA := fun _ A q => q [] A
def dCons (a : DE) (r : DA) : DA := fun ρ A q => a ρ A fun x A1 => r ρ A1 fun xs A2 => q (x :: xs) A2
theorem pda_nil : PDA X F [] dNil := PA.weak pa_nil fun σ H Q ⟨ρ, A, B, q, rl, hd, k⟩ => k [] A [] H B hd rl (Gr.refl rl.bh) .nil
theorem pda_cons {e : Expr} {es : List Expr} {a : DE} {r : DA} (ha : PDE X F e a) (hr : PDA X F es r) (hs : starEach (e :: es) X.env = (false, eval e X.env) :: starEach es X.env := by rfl) : PDA X F (e :: es) (dCons a r) :=
  PA.weak (pa_cons ha hr hs) fun σ H Q ⟨ρ, A, B, q, rl, hd, k⟩ => ⟨ρ, A, B, _, rl, hd, fun x A1 v H1 B1 h1 r1 e1 p1 => ⟨ρ, A1, B1, _, r1, h1, fun xs A2 vs H2 B2 h2 r2 e2 p2 => k _ A2 _ H2 B2 h2 r2 (e1.trans e2) (.cons (p1.mono e2.eb) p2)⟩⟩
/-- displays -/
def dTup (a : DA) : DE := fun ρ A q => a ρ A fun ds A1 => ds.length ≤ 100000 ∧ q (.tup ds) A1
def dLst (a : DA) : DL := fun ρ A q => a ρ A fun ds A1 => ds.length ≤ 100000 ∧ q ds A1
theorem sz_of {n : Nat} (h : n ≤ 100000) : n ≤ sizeLine := Nat.le_trans h (by decide)
theorem pd_tup {es : List Expr} {k : Nat} {pos : Pos} {a : DA} (h : PDA X F es a) : PDE X F (.Tuple es k pos) (dTup a) := PE.weak (pe_tup h) fun σ H Q ⟨ρ, A, B, q, rl, hd, k⟩ =>
  ⟨ρ, A, B, _, rl, hd, fun xs A1 vs H1 B1 h1 r1 e1 p1 => ⟨by rw [p1.length]; exact sz_of h1.1, fun p hp => by
    have hb : B1 p = none := by
      cases z : B1 p with
      | none => rfl
      | some u => rw [r1.bh p u z] at hp; cases hp
    exact k _ A1 _ _ (upd B1 p (.tup vs)) h1.2 (r1.grow (Gr.new r1.bh hp)) (e1.trans (Gr.new r1.bh hp)) (.tup (st_of upd_same) (p1.mono (Ex.new hb)))⟩⟩
theorem pdl_lst {es : List Expr} {pos : Pos} {a : DA} (h : PDA X F es a) : PDL X F (.List es pos) (dLst a) := PE.weak (pe_lst h) fun σ H Q ⟨ρ, A, B, q, rl, hd, k⟩ =>
  ⟨ρ, A, B, _, rl, hd, fun xs A1 vs H1 B1 h1 r1 e1 p1 => ⟨by rw [p1.length]; exact sz_of h1.1, fun p hp =>
    k _ A1 p vs _ B1 h1.2 (r1.grow (Gr.laid r1.bh hp)) (e1.trans (Gr.laid r1.bh hp)) upd_same (e1.back hp) (b_none r1.bh hp) p1⟩⟩
end
end Y
set_option Elab.async false
set_option linter.all false
set_option maxRecDepth 100000
set_option maxHeartbeats 4000000
set_option autoImplicit false
namespace Y
open PySem PySem.Spec PyProof.Rows L2

/-! ### operators over data -/
def dI (C : Int → Int → Prop) (g : Int → Int → D) : D → D → (D → Prop) → Prop := fun x y q => match x, y with
  | .int i, .int j => C i j ∧ q (g i j)
  | _, _ => False
def dI0 (g : Int → Int → D) : D → D → (D → Prop) → Prop := fun x y q => match x, y with
  | .int i, .int j => q (g i j)
  | _, _ => False
section
variable {K : PySem.W.Frag}
theorem opD_I {C : Int → Int → Prop} {g : Int → Int → V} {g' : Int → Int → D} (h : ∀ i j B, Rep K B (g i j) (g' i j)) : OpD K (rI C g) (dI C g') := fun x y v w H B q Q rx ry e hd k => by
  cases x with
  | int i =>
    cases y with
    | int j => exact ⟨i, j, rx.int_inv, ry.int_inv, hd.1, k _ _ H B hd.2 (Gr.refl e) (h i j B)⟩
    | _ => exact hd.elim
  | _ => cases y <;> exact hd.elim
theorem opD_I0 {g : Int → Int → V} {g' : Int → Int → D} (h : ∀ i j B, Rep K B (g i j) (g' i j)) : OpD K (rI0 g) (dI0 g') := fun x y v w H B q Q rx ry e hd k => by
  cases x with
  | int i =>
    cases y with
    | int j => exact ⟨i, j, rx.int_inv, ry.int_inv, k _ _ H B hd (Gr.refl e) (h i j B)⟩
    | _ => exact hd.elim
  | _ => cases y <;> exact hd.elim
theorem unD_I {g : Int → V} {g' : Int → D} (h : ∀ i B, Rep K B (g i) (g' i)) : UnD K (rU g) (fun x q => match x with
  | .int i => q (g' i)
  | _ => False) := fun x v H B q Q rx e hd k => by
  cases x with
  | int i => exact ⟨i, rx.int_inv, k _ _ H B hd (Gr.refl e) (h i B)⟩
  | _ => exact hd.elim
end
section
variable {X : Cx} {F : Fx}
theorem opr_or {f : Value → Value → Sem Value} {r r' : R2} (h : OpR X f r) (h' : OpR X f r') : OpR X f (fun x y H Q => r x y H Q ∨ r' x y H Q) := fun pins s σ H x y v u Q I rx ry q =>
  q.elim (fun q => h pins s σ H x y v u Q I rx ry q) (fun q => h' pins s σ H x y v u Q I rx ry q)
/-- + -/
def kAdd (x y : D) (q : D → Prop) : Prop := match x, y with
  | .int i, .int j => q (.int (i + j))
  | .str a, .str b => a.length + b.length ≤ 100000 ∧ q (.str (a ++ b))
  | .lst a, .lst b => a.length + b.length ≤ 100000 ∧ q (.lst (a ++ b))
  | .tup a, .tup b => a.length + b.length ≤ 100000 ∧ q (.tup (a ++ b))
  | _, _ => False
def rStrAdd : R2 := fun x y H Q => ∃ i j, x = .str i ∧ y = .str j ∧ i.length + j.length ≤ sizeLine ∧ Q (.str (i ++ j)) H
def rAddA (K : PySem.W.Frag) : R2 := fun x y H Q => (rI0 fun i j => .int (i + j)) x y H Q ∨ rStrAdd x y H Q ∨ rCat x y H Q ∨ rCatA K x y H Q
theorem op_addA : OpR X (binaryOp .Add) (rAddA X.K) := opr_or op_add (opr_or op_add_str (opr_or op_cat op_catA))
theorem opD_add {K : PySem.W.Frag} : OpD K (rAddA K) kAdd := fun x y v w H B q Q rx ry e hd k => by
  cases x with
  | int i =>
    cases y with
    | int j => exact .inl ⟨i, j, rx.int_inv, ry.int_inv, k _ _ H B hd (Gr.refl e) .int⟩
    | _ => exact hd.elim
  | str a =>
    cases y with
    | str b => exact .inr (.inl ⟨a, b, rx.str_inv, ry.str_inv, sz_of hd.1, k _ _ H B hd.2 (Gr.refl e) .str⟩)
    | _ => exact hd.elim
  | lst a =>
    cases y with
    | lst b =>
      obtain ⟨p, xs, rfl, hp, px⟩ := rx.lst_inv
      obtain ⟨p', ys, rfl, hp', py⟩ := ry.lst_inv
      refine .inr (.inr (.inl ⟨p, p', xs, ys, rfl, rfl, e _ _ hp, e _ _ hp', by rw [px.length, py.length]; exact sz_of hd.1, fun z hz => ?_⟩))
      have eb := Ex.new (o := .lst (xs ++ ys)) (b_none e hz)
      exact k _ _ _ _ hd.2 (Gr.new e hz) (.lst upd_same ((px.append py).mono eb))
    | _ => exact hd.elim
  | tup a =>
    cases y with
    | tup b =>
      obtain ⟨p, xs, rfl, hp, px⟩ := rx.tup_inv
      obtain ⟨p', ys, rfl, hp', py⟩ := ry.tup_inv
      refine .inr (.inr (.inr ⟨p, p', xs, ys, rfl, rfl, ex_t e hp, ex_t e hp', by rw [px.length, py.length]; exact sz_of hd.1, fun z => ?_, fun _ z => ?_, fun _ _ z hz => ?_⟩))
      · subst z
        cases px
        exact k _ _ H B hd.2 (Gr.refl e) (by simpa using Rep.tup hp' py)
      · subst z
        cases py
        exact k _ _ H B hd.2 (Gr.refl e) (by simpa using Rep.tup hp px)
      · have eb := Ex.new (o := .tup (xs ++ ys)) (b_none e hz)
        exact k _ _ _ _ hd.2 (Gr.new e hz) (.tup (st_of upd_same) ((px.append py).mono eb))
    | _ => exact hd.elim
  | _ => cases y <;> exact hd.elim
theorem pd_add {a b : Expr} {pos : Pos} {da db : DE} (ha : PDE X F a da) (hb : PDE X F b db) : PDE X F (.BinOp a .Add b pos) (dOp kAdd da db) := pd_op op_addA opD_add ha hb
/-- - -/
def kSub (x y : D) (q : D → Prop) : Prop := dI0 (fun i j => .int (i - j)) x y q
theorem pd_sub {a b : Expr} {pos : Pos} {da db : DE} (ha : PDE X F a da) (hb : PDE X F b db) : PDE X F (.BinOp a .Sub b pos) (dOp kSub da db) := pd_op op_sub (opD_I0 fun _ _ _ => .int) ha hb
/-- * of ints -/
def MulOk (i j : Int) : Prop := i.natAbs.log2 + j.natAbs.log2 < 1000000
theorem MulOk.of {i j : Int} {a b : Nat} (ha : i.natAbs < 2 ^ a) (hb : j.natAbs < 2 ^ b) (h : a + b ≤ 1000000) (h0 : 0 < a := by decide) (h1 : 0 < b := by decide) : MulOk i j := wide_mul ha hb h0 h1 h
/-- one factor small, the other of whatever size -/
def MulOk' (i j : Int) : Prop := MulOk i j ∨ (i.natAbs < 2 ^ 64) ∨ j.natAbs < 2 ^ 64
theorem op_mulG : OpR X (binaryOp .Mult) (rI MulOk' fun i j => .int (i * j)) := opI fun i j _ _ _ _ _ hc q => by
  refine mul_int q ?_
  rcases hc with h | h | h
  · exact CMulW.ok h
  · exact .of_left (intBits_le_64 (by omega) (by omega))
  · exact .of_right (intBits_le_64 (by omega) (by omega))
def kMul (x y : D) (q : D → Prop) : Prop := match x, y with
  | .int i, .int j => MulOk' i j ∧ q (.int (i * j))
  | .lst a, .int j => -(2 ^ 63) ≤ j ∧ j < 2 ^ 63 ∧ a.length * j.toNat ≤ 100000 ∧ q (.lst (List.replicate j.toNat a).flatten)
  | _, _ => False
def rMulA : R2 := fun x y H Q => rI MulOk' (fun i j => .int (i * j)) x y H Q ∨ rRep x y H Q
theorem op_mulA : OpR X (binaryOp .Mult) rMulA := opr_or op_mulG op_rep
theorem reps_rep {K : PySem.W.Frag} {B : Hp} {xs : List V} {ds : List D} (h : Reps K B xs ds) : ∀ n : Nat, Reps K B (List.replicate n xs).flatten (List.replicate n ds).flatten
  | 0 => .nil
  | n + 1 => by
    rw [List.replicate_succ, List.replicate_succ, List.flatten_cons, List.flatten_cons]
    exact h.append (reps_rep h n)
theorem opD_mul {K : PySem.W.Frag} : OpD K rMulA kMul := fun x y v w H B q Q rx ry e hd k => by
  cases x with
  | int i =>
    cases y with
    | int j => exact .inl ⟨i, j, rx.int_inv, ry.int_inv, hd.1, k _ _ H B hd.2 (Gr.refl e) .int⟩
    | _ => exact hd.elim
  | lst a =>
    cases y with
    | int j =>
      obtain ⟨p, xs, rfl, hp, px⟩ := rx.lst_inv
      refine .inr ⟨p, j, xs, rfl, ry.int_inv, e _ _ hp, hd.1, hd.2.1, by rw [px.length]; exact sz_of hd.2.2.1, fun z hz => ?_⟩
      have eb := Ex.new (o := .lst (List.replicate j.toNat xs).flatten) (b_none e hz)
      exact k _ _ _ _ hd.2.2.2 (Gr.new e hz) (.lst upd_same ((reps_rep px _).mono eb))
    | _ => exact hd.elim
  | _ => cases y <;> exact hd.elim
theorem pd_mul {a b : Expr} {pos : Pos} {da db : DE} (ha : PDE X F a da) (hb : PDE X F b db) : PDE X F (.BinOp a .Mult b pos) (dOp kMul da db) := pd_op op_mulA opD_mul ha hb
/-- // and % -/
def DivOk (_ j : Int) : Prop := j ≠ 0 ∧ j.natAbs.log2 < 9000
theorem op_fdivG : OpR X (binaryOp .FloorDiv) (rI DivOk fun i j => .int (i.fdiv j)) := opI fun i j _ _ _ _ _ hc q => floordiv_int hc.1 q (.inl (PyProof.noPylong_of_log2 hc.2))
def kDiv (x y : D) (q : D → Prop) : Prop := dI DivOk (fun i j => .int (i.fdiv j)) x y q
def kMod (x y : D) (q : D → Prop) : Prop := dI (fun _ j => j ≠ 0) (fun i j => .int (i.fmod j)) x y q
theorem pd_fdiv {a b : Expr} {pos : Pos} {da db : DE} (ha : PDE X F a da) (hb : PDE X F b db) : PDE X F (.BinOp a .FloorDiv b pos) (dOp kDiv da db) := pd_op op_fdivG (opD_I fun _ _ _ => .int) ha hb
theorem pd_mod {a b : Expr} {pos : Pos} {da db : DE} (ha : PDE X F a da) (hb : PDE X F b db) : PDE X F (.BinOp a .Mod b pos) (dOp kMod da db) := pd_op op_modN (opD_I fun _ _ _ => .int) ha hb
def PowOk (i j : Int) : Prop := 0 ≤ j ∧ j ≤ 1000000 ∧ i.natAbs < 2 ^ 64
theorem op_powG : OpR X (binaryOp .Pow) (rI PowOk fun i j => .int (i ^ j.toNat)) := opI fun _ _ _ _ _ _ _ hc q => pow_int_small hc.1 hc.2.1 hc.2.2 q
def kPow (x y : D) (q : D → Prop) : Prop := dI PowOk (fun i j => .int (i ^ j.toNat)) x y q
theorem pd_pow {a b : Expr} {pos : Pos} {da db : DE} (ha : PDE X F a da) (hb : PDE X F b db) : PDE X F (.BinOp a .Pow b pos) (dOp kPow da db) := pd_op op_powG (opD_I fun _ _ _ => .int) ha hb
def kNeg (x : D) (q : D → Prop) : Prop := match x with
  | .int i => q (.int (-i))
  | _ => False
theorem pd_neg {a : Expr} {pos : Pos} {da : DE} (ha : PDE X F a da) : PDE X F (.UnaryOp .USub a pos) (dUn kNeg da) := pd_un un_neg (unD_I fun _ _ => .int) ha
/-! comparisons -/
def kLt (x y : D) (q : D → Prop) : Prop := dI0 (fun i j => .bl (decide (i < j))) x y q
def kLe (x y : D) (q : D → Prop) : Prop := dI0 (fun i j => .bl (decide (i ≤ j))) x y q
def kGt (x y : D) (q : D → Prop) : Prop := dI0 (fun i j => .bl (decide (j < i))) x y q
def kGe (x y : D) (q : D → Prop) : Prop := dI0 (fun i j => .bl (decide (j ≤ i))) x y q
theorem oLt {K : PySem.W.Frag} : OpD K (rI0 fun i j => .bl (decide (i < j))) kLt := opD_I0 fun _ _ _ => .bl
theorem oLe {K : PySem.W.Frag} : OpD K (rI0 fun i j => .bl (decide (i ≤ j))) kLe := opD_I0 fun _ _ _ => .bl
theorem oGt {K : PySem.W.Frag} : OpD K (rI0 fun i j => .bl (decide (j < i))) kGt := opD_I0 fun _ _ _ => .bl
theorem oGe {K : PySem.W.Frag} : OpD K (rI0 fun i j => .bl (decide (j ≤ i))) kGe := opD_I0 fun _ _ _ => .bl
/-! plain data: none, bools, ints, texts, lists, tuples -/
mutual
def D.py : D → PyData
  | .non => .none
  | .bl b => .bool b
  | .int i => .int i
  | .str x => .str x
  | .lst xs => .list (D.pys xs)
  | .tup xs => .tuple (D.pys xs)
  | .obj _ _ => .none
  | .ref _ => .none
  | .ty _ => .none
def D.pys : List D → List PyData
  | [] => []
  | x :: xs => D.py x :: D.pys xs
end
mutual
def D.pl : D → Bool
  | .non => true
  | .bl _ => true
  | .int _ => true
  | .str _ => true
  | .lst xs => D.pla xs
  | .tup xs => D.pla xs
  | .obj _ _ => false
  | .ref _ => false
  | .ty _ => false
def D.pla : List D → Bool
  | [] => true
  | x :: xs => D.pl x && D.pla xs
end
section
variable {K : PySem.W.Frag} {B H : Hp}
mutual
theorem Rep.dp (e : Ex B H) : ∀ {v : V} {d : D}, Rep K B v d → d.pl = true → Dp K H v d.py
  | _, _, .non, _ => by unfold D.py; exact .non
  | _, _, .bl, _ => by unfold D.py; exact .bl _
  | _, _, .int, _ => by unfold D.py; exact .int _
  | _, _, .str, _ => by unfold D.py; exact .str _
  | _, _, .ref, h => by unfold D.pl at h; cases h
  | _, _, .ty, h => by unfold D.pl at h; cases h
  | _, _, .obj _ _, h => by unfold D.pl at h; cases h
  | _, _, .lst h r, p => by
    unfold D.pl at p
    unfold D.py
    exact .lst (sq_of (e _ _ h)) (Reps.dp e r p)
  | _, _, .tup h r, p => by
    unfold D.pl at p
    unfold D.py
    exact .tup (ex_t e h) (Reps.dp e r p)
theorem Reps.dp (e : Ex B H) : ∀ {v : List V} {d : List D}, Reps K B v d → D.pla d = true → DpAll K H v (D.pys d)
  | _, _, .nil, _ => by unfold D.pys; exact .nil
  | _, _, .cons h r, p => by
    unfold D.pla at p
    rw [Bool.and_eq_true] at p
    unfold D.pys
    exact .cons (Rep.dp e h p.1) (Reps.dp e r p.2)
end
end
/-- ==, != of plain data -/
def kEq (x y : D) (q : D → Prop) : Prop := (x.pl = true ∧ SeqAt.shaped x.py = true) ∧ (y.pl = true ∧ SeqAt.shaped y.py = true) ∧ q (.bl (PyData.eqv x.py y.py))
def kNe (x y : D) (q : D → Prop) : Prop := (x.pl = true ∧ SeqAt.shaped x.py = true) ∧ (y.pl = true ∧ SeqAt.shaped y.py = true) ∧ q (.bl (!PyData.eqv x.py y.py))
theorem oEq {K : PySem.W.Frag} : OpD K (rEqD K) kEq := fun x y v w H B q Q rx ry e ⟨h1, h2, hd⟩ k => ⟨x.py, y.py, rx.dp e h1.1, ry.dp e h2.1, h1.2, h2.2, k _ _ H B hd (Gr.refl e) .bl⟩
theorem oNe {K : PySem.W.Frag} : OpD K (rNeD K) kNe := fun x y v w H B q Q rx ry e ⟨h1, h2, hd⟩ k => ⟨x.py, y.py, rx.dp e h1.1, ry.dp e h2.1, h1.2, h2.2, k _ _ H B hd (Gr.refl e) .bl⟩
/-- is None, is not None -/
def kIsN (x y : D) (q : D → Prop) : Prop := match x, y with
  | .non, .non => q (.bl true)
  | _, .non => q (.bl false)
  | _, _ => False
def kNotN (x y : D) (q : D → Prop) : Prop := match x, y with
  | .non, .non => q (.bl false)
  | _, .non => q (.bl true)
  | _, _ => False
theorem Rep.isNon {K : PySem.W.Frag} {B : Hp} {v : V} {d : D} (h : Rep K B v d) : (v = .non ∧ d = .non) ∨ (v ≠ .non ∧ d ≠ .non) := by
  cases h <;> first | exact .inl ⟨rfl, rfl⟩ | exact .inr ⟨(by intro z; cases z), (by intro z; cases z)⟩
def rIsNon : R2 := fun x y H Q => y = .non ∧ Q (.bl (decide (x = .non))) H
def rNotNon : R2 := fun x y H Q => y = .non ∧ Q (.bl (!decide (x = .non))) H
theorem oIsN {K : PySem.W.Frag} : OpD K rIsNon kIsN := fun x y v w H B q Q rx ry e hd k => by
  cases y with
  | non =>
    refine ⟨ry.non_inv, ?_⟩
    rcases rx.isNon with ⟨rfl, rfl⟩ | ⟨h1, h2⟩
    · exact k _ _ H B hd (Gr.refl e) .bl
    · rw [decide_eq_false h1]
      refine k (.bl false) _ H B ?_ (Gr.refl e) .bl
      cases x <;> first | exact hd | exact absurd rfl h2
  | _ => cases x <;> exact hd.elim
theorem oNotN {K : PySem.W.Frag} : OpD K rNotNon kNotN := fun x y v w H B q Q rx ry e hd k => by
  cases y with
  | non =>
    refine ⟨ry.non_inv, ?_⟩
    rcases rx.isNon with ⟨rfl, rfl⟩ | ⟨h1, h2⟩
    · exact k _ _ H B hd (Gr.refl e) .bl
    · rw [decide_eq_false h1]
      refine k (.bl true) _ H B ?_ (Gr.refl e) .bl
      cases x <;> first | exact hd | exact absurd rfl h2
  | _ => cases x <;> exact hd.elim
theorem pd_isN {a b : Expr} {pos : Pos} {da db : DE} (ha : PDE X F a da) (hb : PDE X F b db) : PDE X F (.Compare a [.Is] [b] pos) (dOp kIsN da db) := pd_cmp op_isN oIsN ha hb (nomark _)
theorem pd_notN {a b : Expr} {pos : Pos} {da db : DE} (ha : PDE X F a da) (hb : PDE X F b db) : PDE X F (.Compare a [.IsNot] [b] pos) (dOp kNotN da db) := pd_cmp op_notN oNotN ha hb (nomark _)
theorem pdt_isN {a b : Expr} {pos : Pos} {da db : DE} (ha : PDE X F a da) (hb : PDE X F b db) : PDT X F (.Compare a [.Is] [b] pos) (dTst (dOp kIsN da db)) := pdt_cmp op_isN oIsN ha hb (nomark _)
theorem pdt_notN {a b : Expr} {pos : Pos} {da db : DE} (ha : PDE X F a da) (hb : PDE X F b db) : PDT X F (.Compare a [.IsNot] [b] pos) (dTst (dOp kNotN da db)) := pdt_cmp op_notN oNotN ha hb (nomark _)

/-! ### subscripts -/
def kIx (x y : D) (q : D → Prop) : Prop := match x, y with
  | .lst a, .int i => ∃ d, atI a i = some d ∧ q d
  | .tup a, .int i => ∃ d, atI a i = some d ∧ q d
  | .str z, .int i => z.length ≤ 100000 ∧ ∃ c, atI z.cps.toList i = some c ∧ q (.str ⟨#[c]⟩)
  | _, _ => False
theorem at_reps {K : PySem.W.Frag} {B : Hp} {xs : List V} {ds : List D} {i : Int} {d : D} (h : Reps K B xs ds) (e : atI ds i = some d) : ∃ v, atI xs i = some v ∧ Rep K B v d := by
  unfold atI at e ⊢
  rw [h.length]
  cases q : ixN ds.length i with
  | none => rw [q] at e; cases e
  | some j =>
    rw [q] at e
    exact h.get' (show ds[j]? = some d from e)
theorem oIx {K : PySem.W.Frag} : OpD K (rIx K) kIx := fun x y v w H B q Q rx ry e hd k => by
  cases x with
  | lst a =>
    cases y with
    | int i =>
      obtain ⟨d, h1, h2⟩ := hd
      obtain ⟨p, xs, rfl, hp, px⟩ := rx.lst_inv
      obtain ⟨z, hz, rz⟩ := at_reps px h1
      exact .inl ⟨p, xs, i, z, rfl, ry.int_inv, sq_of (e _ _ hp), hz, k _ _ H B h2 (Gr.refl e) rz⟩
    | _ => exact hd.elim
  | tup a =>
    cases y with
    | int i =>
      obtain ⟨d, h1, h2⟩ := hd
      obtain ⟨p, xs, rfl, hp, px⟩ := rx.tup_inv
      obtain ⟨z, hz, rz⟩ := at_reps px h1
      exact .inr (.inl ⟨p, xs, i, z, rfl, ry.int_inv, ex_t e hp, hz, k _ _ H B h2 (Gr.refl e) rz⟩)
    | _ => exact hd.elim
  | str z =>
    cases y with
    | int i =>
      obtain ⟨h0, c, h1, h2⟩ := hd
      exact .inr (.inr ⟨z, i, c, rx.str_inv, ry.int_inv, sz_of h0, h1, k _ _ H B h2 (Gr.refl e) .str⟩)
    | _ => exact hd.elim
  | _ => cases y <;> exact hd.elim
theorem pd_ix {a b : Expr} {pos : Pos} {da db : DE} (ha : PDE X F a da) (hb : PDE X F b db) (hs : PlainIx b) : PDE X F (.Subscript a b pos) (dOp kIx da db) := PE.weak (pe_ix ix_seq ha hb hs) (top_lift oIx)

/-! ### slices -/
abbrev DO := En → Nat → (Option Int → Nat → Prop) → Prop
def liftO (K : PySem.W.Frag) (F : Fx) (d : DO) : TO := fun σ H Q => ∃ ρ A B q, Rel K F ρ A σ H B ∧ d ρ A q ∧ ∀ o A' H' B', q o A' → Rel K F ρ A' σ H' B' → Gr F.pen H B H' B' → Q o H'
def PDO (X : Cx) (F : Fx) (e : Option Expr) (d : DO) : Prop := PO X e (liftO X.K F d)
theorem PO.weak {e : Option Expr} {t t' : TO} (h : PO X e t) (w : ∀ σ H Q, t' σ H Q → t σ H Q) : PO X e t' := ⟨fun pins s σ H Q I q => h.run pins s σ H Q I (w σ H Q q)⟩
def dNoPart : DO := fun _ A q => q none A
def dPart (d : DE) : DO := fun ρ A q => d ρ A fun x A' => match x with
  | .int i => q (some i) A'
  | _ => False
theorem pdo_none : PDO X F none dNoPart := PO.weak po_none fun σ H Q ⟨ρ, A, B, q, rl, hd, k⟩ => k none A H B hd rl (Gr.refl rl.bh)
theorem pdo_some {e : Expr} {d : DE} (h : PDE X F e d) : PDO X F (some e) (dPart d) := PO.weak (po_some h) fun σ H Q ⟨ρ, A, B, q, rl, hd, k⟩ =>
  ⟨ρ, A, B, _, rl, hd, fun x A' v H' B' hx r' e p => by
    cases x with
    | int i => exact ⟨i, p.int_inv, k _ A' H' B' hx r' e⟩
    | _ => exact hx.elim⟩
def cutD (xs : List D) (lo hi : Option Int) : List D := (xs.drop (HT.sIx xs.length 0 lo)).take (HT.sIx xs.length xs.length hi - HT.sIx xs.length 0 lo)
theorem reps_cut {K : PySem.W.Frag} {B : Hp} {xs : List V} {ds : List D} (h : Reps K B xs ds) (lo hi : Option Int) : Reps K B (cutV xs lo hi) (cutD ds lo hi) := by
  unfold cutV cutD
  rw [h.length]
  exact (h.drop _).take _
def kSl (x : D) (lo hi : Option Int) (q : D → Prop) : Prop := match x with
  | .lst a => q (.lst (cutD a lo hi))
  | .tup a => q (.tup (cutD a lo hi))
  | .str z => z.length ≤ 100000 ∧ q (.str (cutS z lo hi))
  | _ => False
def rSlAll (K : PySem.W.Frag) : V → Option Int → Option Int → Hp → VK → Prop := fun x lo hi H Q => rSlL K x lo hi H Q ∨ rSlA K x lo hi H Q ∨ rSlS x lo hi H Q
theorem sl_all : SlR X (rSlAll X.K) := sl_list.or (sl_tupA.or sl_str)
theorem cutD_whole (xs : List D) (lo hi : Option Int) (h : HT.sIx xs.length 0 lo = 0 ∧ HT.sIx xs.length xs.length hi = xs.length) : cutD xs lo hi = xs := by
  unfold cutD
  rw [h.1, h.2]
  simp
theorem sl_data {K : PySem.W.Frag} {x : D} {v : V} {H B : Hp} {lo hi : Option Int} {q : D → Prop} {Q : VK} (rx : Rep K B v x) (e : Ex B H) (hd : kSl x lo hi q) (k : ∀ z u H' B', q z → Gr none H B H' B' → Rep K B' u z → Q u H') : rSlAll K v lo hi H Q := by
  cases x with
  | lst a =>
    obtain ⟨p, xs, rfl, hp, px⟩ := rx.lst_inv
    refine .inl ⟨p, xs, rfl, sq_of (e _ _ hp), fun z hz => ?_⟩
    have eb := Ex.new (o := .lst (cutV xs lo hi)) (b_none e hz)
    exact k _ _ _ _ hd (Gr.new e hz) (.lst upd_same ((reps_cut px lo hi).mono eb))
  | tup a =>
    obtain ⟨p, xs, rfl, hp, px⟩ := rx.tup_inv
    refine .inr (.inl ⟨p, xs, rfl, ex_t e hp, fun hw => ?_, fun _ z hz => ?_⟩)
    · rw [px.length] at hw
      have hd' : q (.tup (cutD a lo hi)) := hd
      rw [cutD_whole a lo hi hw] at hd'
      exact k _ _ H B hd' (Gr.refl e) rx
    · have eb := Ex.new (o := .tup (cutV xs lo hi)) (b_none e hz)
      exact k _ _ _ _ hd (Gr.new e hz) (.tup (st_of upd_same) ((reps_cut px lo hi).mono eb))
  | str z => exact .inr (.inr ⟨z, rx.str_inv, sz_of hd.1, k _ _ H B hd.2 (Gr.refl e) .str⟩)
  | _ => exact hd.elim
def dSl (d : DE) (l u : DO) : DE := fun ρ A q => d ρ A fun x A1 => l ρ A1 fun lo A2 => u ρ A2 fun hi A3 => kSl x lo hi fun z => q z A3
theorem pd_sl {e : Expr} {lo hi : Option Expr} {pos p2 : Pos} {d : DE} {l u : DO} (he : PDE X F e d) (hl : PDO X F lo l) (hu : PDO X F hi u) : PDE X F (.Subscript e (.Slice lo hi none p2) pos) (dSl d l u) :=
  PE.weak (pe_slice sl_all he hl hu) fun σ H Q ⟨ρ, A, B, q, rl, hd, k⟩ => ⟨ρ, A, B, _, rl, hd, fun x A1 v H1 B1 h1 r1 e1 p1 => ⟨ρ, A1, B1, _, r1, h1, fun o A2 H2 B2 h2 r2 e2 => ⟨ρ, A2, B2, _, r2, h2, fun o' A3 H3 B3 h3 r3 e3 =>
    sl_data (p1.mono (e2.eb.trans e3.eb)) r3.bh h3 fun z w H' B' hz g p => k z A3 w H' B' hz (r3.grow g) (((e1.trans e2).trans e3).trans g.weak) p⟩⟩⟩

/-! ### calls of built-ins -/
def CallD (K : PySem.W.Frag) (r : List V → Hp → VK → Prop) (dr : List D → (D → Prop) → Prop) : Prop := ∀ (xs : List D) (vs : List V) (H B : Hp) (q : D → Prop) (Q : VK), Reps K B vs xs → Ex B H → dr xs q →
  (∀ z u H' B', q z → Gr none H B H' B' → Rep K B' u z → Q u H') → r vs H Q
def dCB (dr : List D → (D → Prop) → Prop) (da : DA) : DE := fun ρ A q => da ρ A fun xs A1 => dr xs fun z => q z A1
theorem tcb_lift {K : PySem.W.Frag} {r : List V → Hp → VK → Prop} {dr : List D → (D → Prop) → Prop} {da : DA} (o : CallD K r dr) (σ : L2.St) (H : Hp) (Q : VK) (h : liftE K F (dCB dr da) σ H Q) : tCB r (liftA K F da) σ H Q := by
  obtain ⟨ρ, A, B, q, rl, hd, k⟩ := h
  exact ⟨ρ, A, B, _, rl, hd, fun xs A1 vs H1 B1 h1 r1 e1 p1 => o xs vs H1 B1 _ Q p1 r1.bh h1 fun z u H' B' hz g p => k z A1 u H' B' hz (r1.grow g) (e1.trans g.weak) p⟩
theorem pd_callB {e : Expr} {es : List Expr} {x : Str} {p pos : Pos} {id : String} {r : List V → Hp → VK → Prop} {dr : List D → (D → Prop) → Prop} {da : DA} (hc : CallR X (.builtin id) r) (o : CallD X.K r dr) (hg : Gl X x) (hm : X.mg x = none) (hv : bootBuiltins x = some (.builtin id)) (ha : PDA X F (e :: es) da)
    (hn : x ≠ "__name__" := by decide) (hdb : (x == ("__debug__" : Str)) = false := by decide) (he : starEach (e :: es) X.env = (false, eval e X.env) :: starEach es X.env := by rfl) (hpl : (backTo pos (starEach es X.env)).any (·.1) = false := by rfl) : PDE X F (.Call (.Name x p) (e :: es) [] pos) (dCB dr da) :=
  PE.weak (pe_callB hc hg hm hv ha hn hdb he hpl) (tcb_lift o)
theorem pd_callTy {e : Expr} {es : List Expr} {x : Str} {p pos : Pos} {T : String} {r : List V → Hp → VK → Prop} {dr : List D → (D → Prop) → Prop} {da : DA} (hc : CallR X (.type T) r) (o : CallD X.K r dr) (hg : Gl X x) (hm : X.mg x = none) (hv : bootBuiltins x = some (.type T)) (ha : PDA X F (e :: es) da)
    (hn : x ≠ "__name__" := by decide) (hdb : (x == ("__debug__" : Str)) = false := by decide) (he : starEach (e :: es) X.env = (false, eval e X.env) :: starEach es X.env := by rfl) (hpl : (backTo pos (starEach es X.env)).any (·.1) = false := by rfl) : PDE X F (.Call (.Name x p) (e :: es) [] pos) (dCB dr da) :=
  PE.weak (pe_callTy hc hg hm hv ha hn hdb he hpl) (tcb_lift o)
theorem reps1 {K : PySem.W.Frag} {B : Hp} {vs : List V} {d : D} (h : Reps K B vs [d]) : ∃ v, vs = [v] ∧ Rep K B v d := by
  cases h with
  | cons h r => cases r; exact ⟨_, rfl, h⟩
theorem reps2 {K : PySem.W.Frag} {B : Hp} {vs : List V} {d e : D} (h : Reps K B vs [d, e]) : ∃ v w, vs = [v, w] ∧ Rep K B v d ∧ Rep K B w e := by
  cases h with
  | cons h r =>
    obtain ⟨w, rfl, h2⟩ := reps1 r
    exact ⟨_, _, rfl, h, h2⟩
/-- len -/
def kLen (xs : List D) (q : D → Prop) : Prop := match xs with
  | [.lst a] => q (.int (a.length : Nat))
  | [.tup a] => q (.int (a.length : Nat))
  | [.str z] => z.length ≤ 100000 ∧ q (.int (z.length : Nat))
  | _ => False
theorem oLen {K : PySem.W.Frag} : CallD K (fun xs H Q => ∃ x n, xs = [x] ∧ LenV K x H n ∧ Q (.int n) H) kLen := fun xs vs H B q Q rs e hd k => by
  unfold kLen at hd
  split at hd
  · obtain ⟨v, rfl, rv⟩ := reps1 rs
    obtain ⟨p, ys, rfl, hp, py⟩ := rv.lst_inv
    exact ⟨_, _, rfl, .inl ⟨ys, sq_of (e _ _ hp), rfl⟩, k _ _ H B hd (Gr.refl e) (by rw [← py.length]; exact .int)⟩
  · obtain ⟨v, rfl, rv⟩ := reps1 rs
    obtain ⟨p, ys, rfl, hp, py⟩ := rv.tup_inv
    exact ⟨_, _, rfl, .inr ⟨ys, ex_t e hp, rfl⟩, k _ _ H B hd (Gr.refl e) (by rw [← py.length]; exact .int)⟩
  · obtain ⟨v, rfl, rv⟩ := reps1 rs
    obtain rfl := rv.str_inv
    exact ⟨_, _, rfl, ⟨sz_of hd.1, rfl⟩, k _ _ H B hd.2 (Gr.refl e) .int⟩
  · exact hd.elim
/-- abs, int, bool, str of ints -/
def kAbs (xs : List D) (q : D → Prop) : Prop := match xs with
  | [.int i] => q (.int (if i < 0 then -i else i))
  | _ => False
theorem oAbs {K : PySem.W.Frag} : CallD K (fun xs H Q => ∃ i, xs = [.int i] ∧ Q (.int (if i < 0 then -i else i)) H) kAbs := fun xs vs H B q Q rs e hd k => by
  unfold kAbs at hd
  split at hd
  · obtain ⟨v, rfl, rv⟩ := reps1 rs
    obtain rfl := rv.int_inv
    exact ⟨_, rfl, k _ _ H B hd (Gr.refl e) .int⟩
  · exact hd.elim
def kInt (xs : List D) (q : D → Prop) : Prop := match xs with
  | [.int i] => q (.int i)
  | [.bl b] => q (.int (if b then 1 else 0))
  | _ => False
theorem oInt {K : PySem.W.Frag} : CallD K (fun xs H Q => (∃ i, xs = [.int i] ∧ Q (.int i) H) ∨ ∃ k, xs = [.bl k] ∧ Q (.int (if k then 1 else 0)) H) kInt := fun xs vs H B q Q rs e hd k => by
  unfold kInt at hd
  split at hd
  · obtain ⟨v, rfl, rv⟩ := reps1 rs
    obtain rfl := rv.int_inv
    exact .inl ⟨_, rfl, k _ _ H B hd (Gr.refl e) .int⟩
  · obtain ⟨v, rfl, rv⟩ := reps1 rs
    obtain rfl := rv.bl_inv
    exact .inr ⟨_, rfl, k _ _ H B hd (Gr.refl e) .int⟩
  · exact hd.elim
def kBool (xs : List D) (q : D → Prop) : Prop := match xs with
  | [.int i] => q (.bl (i != 0))
  | [.bl b] => q (.bl b)
  | _ => False
theorem oBool {K : PySem.W.Frag} : CallD K (fun xs H Q => (∃ i, xs = [.int i] ∧ Q (.bl (i != 0)) H) ∨ ∃ k, xs = [.bl k] ∧ Q (.bl k) H) kBool := fun xs vs H B q Q rs e hd k => by
  unfold kBool at hd
  split at hd
  · obtain ⟨v, rfl, rv⟩ := reps1 rs
    obtain rfl := rv.int_inv
    exact .inl ⟨_, rfl, k _ _ H B hd (Gr.refl e) .bl⟩
  · obtain ⟨v, rfl, rv⟩ := reps1 rs
    obtain rfl := rv.bl_inv
    exact .inr ⟨_, rfl, k _ _ H B hd (Gr.refl e) .bl⟩
  · exact hd.elim
/-- tuple(..), list(..) -/
def kTuple (xs : List D) (q : D → Prop) : Prop := match xs with
  | [.lst a] => q (.tup a)
  | [.tup a] => q (.tup a)
  | _ => False
theorem oTuple {K : PySem.W.Frag} : CallD K (fun xs H Q => ∃ p ys, xs = [.ref p] ∧ ((SqL K H p ys ∧ ∀ l, H l = none → Q (.ref l) (upd H l (.tup ys))) ∨ (SqT K H p ys ∧ Q (.ref p) H))) kTuple := fun xs vs H B q Q rs e hd k => by
  unfold kTuple at hd
  split at hd
  · obtain ⟨v, rfl, rv⟩ := reps1 rs
    obtain ⟨p, ys, rfl, hp, py⟩ := rv.lst_inv
    refine ⟨p, ys, rfl, .inl ⟨sq_of (e _ _ hp), fun z hz => ?_⟩⟩
    have eb := Ex.new (o := .tup ys) (b_none e hz)
    exact k _ _ _ _ hd (Gr.new e hz) (.tup (st_of upd_same) (py.mono eb))
  · obtain ⟨v, rfl, rv⟩ := reps1 rs
    obtain ⟨p, ys, rfl, hp, py⟩ := rv.tup_inv
    exact ⟨p, ys, rfl, .inr ⟨ex_t e hp, k _ _ H B hd (Gr.refl e) (.tup hp py)⟩⟩
  · exact hd.elim
def dList (da : DA) : DL := fun ρ A q => da ρ A fun xs A1 => match xs with
  | [.lst a] => q a A1
  | [.tup a] => q a A1
  | _ => False
end
end Y
set_option Elab.async false
set_option linter.all false
set_option maxRecDepth 100000
set_option maxHeartbeats 4000000
set_option autoImplicit false
namespace Y
open PySem PySem.Spec PyProof.Rows L2

/-! ### targets -/
def Chg (vs : List Nat) (σ σ' : L2.St) : Prop := σ'.length = σ.length ∧ ∀ j, j ∉ vs → σ'[j]? = σ[j]?
theorem Chg.refl {vs : List Nat} {σ : L2.St} : Chg vs σ σ := ⟨rfl, fun _ _ => rfl⟩
theorem Chg.trans {vs ws : List Nat} {σ σ1 σ2 : L2.St} (a : Chg vs σ σ1) (b : Chg ws σ1 σ2) : Chg (vs ++ ws) σ σ2 :=
  ⟨b.1.trans a.1, fun j hj => (b.2 j fun z => hj (List.mem_append_right _ z)).trans (a.2 j fun z => hj (List.mem_append_left _ z))⟩
theorem Chg.set {i : Nat} {x : Option V} {σ : L2.St} : Chg [i] σ (σ.set i x) := ⟨by simp, fun j hj => List.getElem?_set_ne (fun z => hj (by simp [z]))⟩
theorem Chg.mono {vs ws : List Nat} {σ σ' : L2.St} (a : Chg vs σ σ') (h : ∀ i ∈ vs, i ∈ ws) : Chg ws σ σ' := ⟨a.1, fun j hj => a.2 j fun z => hj (h j z)⟩
theorem wipe_get (σ : L2.St) (j : Nat) : ∀ vs : List Nat, (L2.wipe σ vs)[j]? = if j ∈ vs then (σ[j]?).map (fun _ => none) else σ[j]?
  | [] => by
    show σ[j]? = _
    rw [if_neg List.not_mem_nil]
  | v :: vs => by
    unfold L2.wipe
    by_cases h : v = j
    · subst h
      have hl := wipe_length σ vs
      have e1 : ((L2.wipe σ vs).set v none)[v]? = if v < (L2.wipe σ vs).length then some none else none := by rw [List.getElem?_set, if_pos rfl]
      rw [e1, if_pos (List.mem_cons_self : v ∈ v :: vs), hl]
      by_cases q : v < σ.length
      · rw [if_pos q]; simp [q]
      · rw [if_neg q]; simp [q]
    · rw [List.getElem?_set_ne h, wipe_get σ j vs]
      by_cases q : j ∈ vs
      · rw [if_pos q, if_pos (List.mem_cons_of_mem _ q)]
      · rw [if_neg q, if_neg (by intro z; rcases List.mem_cons.mp z with z | z; exact h z.symm; exact q z)]
theorem Chg.wipe {vs ws : List Nat} {σ σ' : L2.St} (a : Chg vs (L2.wipe σ ws) σ') (h : ∀ i ∈ vs, i ∈ ws) : L2.wipe σ' ws = L2.wipe σ ws := by
  apply List.ext_getElem?
  intro j
  rw [wipe_get, wipe_get]
  by_cases q : j ∈ ws
  · rw [if_pos q, if_pos q]
    have hl := a.1
    rw [wipe_length] at hl
    by_cases z : j < σ.length
    · have z' : j < σ'.length := by omega
      simp [z, z']
    · have z' : ¬ j < σ'.length := by omega
      simp [z, z']
  · rw [if_neg q, if_neg q, a.2 j fun z => q (h j z), wipe_get, if_neg q]

abbrev DG := D → En → (En → Prop) → Prop
abbrev DGs := List D → En → (En → Prop) → Prop
def liftG (K : PySem.W.Frag) (F : Fx) (vs : List Nat) (g : DG) : TG := fun v σ H Q => ∃ ρ A B d q, Rel K F ρ A σ H B ∧ Rep K B v d ∧ g d ρ q ∧ ∀ ρ' σ', q ρ' → Rel K F ρ' A σ' H B → Chg vs σ σ' → Q σ' H
def liftGs (K : PySem.W.Frag) (F : Fx) (vs : List Nat) (g : DGs) : TGs := fun v σ H Q => ∃ ρ A B d q, Rel K F ρ A σ H B ∧ Reps K B v d ∧ g d ρ q ∧ ∀ ρ' σ', q ρ' → Rel K F ρ' A σ' H B → Chg vs σ σ' → Q σ' H
def PDG (X : Cx) (F : Fx) (vs : List Nat) (tg : Expr) (g : DG) : Prop := PG X tg (liftG X.K F vs g)
def PDGs (X : Cx) (F : Fx) (vs : List Nat) (tg : List Expr) (g : DGs) : Prop := PGs X tg (liftGs X.K F vs g)
theorem PG.weak {X : Cx} {e : Expr} {t t' : TG} (h : PG X e t) (w : ∀ v σ H Q, t' v σ H Q → t v σ H Q) : PG X e t' := ⟨fun pins s σ H v u Q I r q => h.run pins s σ H v u Q I r (w v σ H Q q)⟩
theorem PGs.weak {X : Cx} {e : List Expr} {t t' : TGs} (h : PGs X e t) (w : ∀ v σ H Q, t' v σ H Q → t v σ H Q) : PGs X e t' := ⟨fun pins s σ H v u Q I r q => h.run pins s σ H v u Q I r (w v σ H Q q)⟩
theorem PI.weak {X : Cx} {tg e : Expr} {t t' : TI} (h : PI X tg e t) (w : ∀ σ H Q, t' σ H Q → t σ H Q) : PI X tg e t' := ⟨fun pins s σ H Q I q => h.run pins s σ H Q I (w σ H Q q)⟩
theorem PTs.weak {X : Cx} {e : List Expr} {t t' : TT} (h : PTs X e t) (w : ∀ σ H Q, t' σ H Q → t σ H Q) : PTs X e t' := ⟨fun pins s σ H Q I q => h.run pins s σ H Q I (w σ H Q q)⟩
section
variable {X : Cx} {F : Fx}
def gNm (i : Nat) : DG := fun d ρ q => q (ρ.set i (.sh d))
theorem pdg_name (i : Nat) {x : Str} {pos : Pos} (hN : X.N.Nodup) (hi : X.N[i]? = some x := by rfl) (hx : Loc X.env.scope x := by first | exact Or.inl rfl | exact Or.inr rfl) (hf : X.fn x = true ∨ X.env.scope.names.lookup x = some .local := by first | exact .inl rfl | exact .inr rfl) : PDG X F [i] (.Name x pos) (gNm i) :=
  PG.weak (pg_name hN hi hx hf) fun v σ H Q ⟨ρ, A, B, d, q, r, rv, hg, k⟩ => k _ _ hg (r.setSh rv) Chg.set
def gsNil : DGs := fun ds ρ q => match ds with
  | [] => q ρ
  | _ => False
def gsCons (g : DG) (gs : DGs) : DGs := fun ds ρ q => match ds with
  | d :: r => g d ρ fun ρ' => gs r ρ' q
  | _ => False
theorem pdgs_nil : PDGs X F [] [] gsNil := PGs.weak pgs_nil fun v σ H Q ⟨ρ, A, B, d, q, r, rv, hg, k⟩ => by
  cases rv with
  | nil => exact ⟨rfl, k ρ σ hg r Chg.refl⟩
  | cons _ _ => exact hg.elim
theorem pdgs_cons {e : Expr} {es : List Expr} {vs ws : List Nat} {g : DG} {gs : DGs} (h1 : PDG X F vs e g) (h2 : PDGs X F ws es gs) (hs : (assignEach (e :: es) X.env).map (·.2) = assign e X.env :: (assignEach es X.env).map (·.2) := by rfl) : PDGs X F (vs ++ ws) (e :: es) (gsCons g gs) :=
  PGs.weak (pgs_cons h1 h2 hs) fun v σ H Q ⟨ρ, A, B, d, q, r, rv, hg, k⟩ => by
    cases rv with
    | nil => exact hg.elim
    | cons r1 r2 => exact ⟨_, _, rfl, ρ, A, B, _, _, r, r1, hg, fun ρ1 σ1 h1 rl c1 => ⟨ρ1, A, B, _, _, rl, r2, h1, fun ρ2 σ2 h2 rl2 c2 => k ρ2 σ2 h2 rl2 (c1.trans c2)⟩⟩
def gTp (n : Nat) (gs : DGs) : DG := fun d ρ q => match d with
  | .tup ds => ds.length = n ∧ gs ds ρ q
  | _ => False
theorem pdg_tup {es : List Expr} {k : Nat} {vs : List Nat} {gs : DGs} {n : Nat} {pos : Pos} (hc : X.calm = true) (h : PDGs X F vs es gs) (hn : (assignEach es X.env).length = n := by rfl) (hst : (assignEach es X.env).findIdx? (·.1) = none := by rfl) : PDG X F vs (.Tuple es k pos) (gTp n gs) :=
  PG.weak (pg_tup hc h hn hst) fun v σ H Q ⟨ρ, A, B, d, q, r, rv, hg, k⟩ => by
    cases d with
    | tup ds =>
      obtain ⟨a, xs, rfl, ha, hr⟩ := rv.tup_inv
      exact ⟨a, xs, rfl, ex_t r.bh ha, hr.length.trans hg.1, ρ, A, B, ds, q, r, hr, hg.2, k⟩
    | _ => exact hg.elim

/-! ### what is walked -/
def WalkD (K : PySem.W.Frag) (J : It) (items : List D) (B0 : Hp) : Prop := ∃ (G : Hp → Prop) (Y : Nat → Hp → V → Hp → Prop), Walk J items.length G Y ∧ (∀ H B, Ex B0 B → Ex B H → G H) ∧
  ∀ i H x H' B, i < items.length → Ex B0 B → Ex B H → Y i H x H' → ∃ d B1, items[i]? = some d ∧ Gr none H B H' B1 ∧ Rep K B1 x d
def liftI (K : PySem.W.Frag) (F : Fx) (d : DA) : TI := fun σ H R => ∃ ρ A B q, Rel K F ρ A σ H B ∧ d ρ A q ∧ ∀ items A' J H' B', q items A' → Rel K F ρ A' σ H' B' → Gr F.pen H B H' B' → WalkD K J items B' → R J H'
def PDI (X : Cx) (F : Fx) (tg e : Expr) (d : DA) : Prop := PI X tg e (liftI X.K F d)
def iSeq (K : PySem.W.Frag) (tl : TE) : TI := fun σ H R => tl σ H fun x H1 => (∃ a, x = .ref a ∧ (∃ xs, SqL K H1 a xs) ∧ R (Itl K a) H1) ∨ (∃ a, x = .ref a ∧ (∃ xs, SqT K H1 a xs) ∧ R (Itt K a) H1) ∨ ∃ z, x = .str z ∧ R (Its z) H1
theorem pi_seq {tg l : Expr} {tl : TE} (hl : PE X l tl) : PI X tg l (iSeq X.K tl) := by
  refine ⟨fun pins s σ H R I h => ?_⟩
  refine thn (hl.run pins s σ H _ I h) fun v s1 ⟨x, H1, I1, r1, q1⟩ => ?_
  rcases q1 with ⟨a, e, ⟨xs, hq⟩, q⟩ | ⟨a, e, ⟨xs, hq⟩, q⟩ | ⟨x, ex, q⟩
  · subst e
    cases r1
    obtain ⟨its, rv, p, hz⟩ := I1.list hq
    refine wpAny_pyIter_list p.isList ?_
    refine ⟨s1.heap.objs.size, [s1.heap.objs.size], _, _, H1, rfl, I1.kept (t' := s1.toks) fun b o e => Heap.get?_push_of_some _ e, turn_list a _, ⟨_, Heap.get?_push_size _ rfl, rfl, rfl⟩, fun b hb => ?_, q⟩
    have e : b = s1.heap.objs.size := by simpa using hb
    subst e
    exact I1.fpOk (Nat.le_refl _) (I1.hok.fresh (Nat.le_refl _))
  · subst e
    cases r1
    obtain ⟨its, rv, p, hz⟩ := I1.tuple hq
    refine wpAny_pyIter_tuple (show s1.heap.IsTuple a its.toArray from p) ?_
    refine ⟨s1.heap.objs.size, [s1.heap.objs.size], _, _, H1, rfl, I1.kept (t' := s1.toks) fun b o e => Heap.get?_push_of_some _ e, turn_tuple a _, ⟨_, Heap.get?_push_size _ rfl, rfl, rfl⟩, fun b hb => ?_, q⟩
    have e : b = s1.heap.objs.size := by simpa using hb
    subst e
    exact I1.fpOk (Nat.le_refl _) (I1.hok.fresh (Nat.le_refl _))
  · subst ex
    obtain ⟨t, rfl⟩ := r1
    cases ha : x.cps.all (· < 128)
    · exact wpAny_pyIter_wide ha (pi_one (tk := s1.toks) I1 _ (turn_str _ x t "str_iterator" (.inr rfl)) ⟨_, Heap.get?_push_size _ rfl, rfl, rfl⟩ q)
    · exact wpAny_pyIter_ascii ha (pi_one (tk := s1.toks) I1 _ (turn_str _ x t "str_ascii_iterator" (.inl rfl)) ⟨_, Heap.get?_push_size _ rfl, rfl, rfl⟩ q)
def signs (z : Str) : List D := z.cps.toList.map fun c => .str ⟨#[c]⟩
def iSq (d : DE) : DA := fun ρ A q => d ρ A fun x A' => match x with
  | .lst a => q a A'
  | .tup a => q a A'
  | .str z => q (signs z) A'
  | _ => False
theorem walkD_list {K : PySem.W.Frag} {a : Addr} {xs : List V} {ds : List D} {B : Hp} (h : B a = some (.lst xs)) (r : Reps K B xs ds) : WalkD K (Itl K a) ds B :=
  ⟨fun H => SqL K H a xs, YAt xs, by rw [← r.length]; exact walk_list, fun H B' e1 e2 => sq_of (e2 _ _ (e1 _ _ h)), fun i H x H' B' hi e1 e2 y => by
    obtain ⟨rfl, hx⟩ := y
    obtain ⟨d, h1, h2⟩ := r.get hx
    exact ⟨d, B', h1, Gr.refl e2, h2.mono e1⟩⟩
theorem walkD_tup {K : PySem.W.Frag} {a : Addr} {xs : List V} {ds : List D} {B : Hp} (h : SqT K B a xs) (r : Reps K B xs ds) : WalkD K (Itt K a) ds B :=
  ⟨fun H => SqT K H a xs, YAt xs, by rw [← r.length]; exact walk_tup, fun H B' e1 e2 => ex_t e2 (ex_t e1 h), fun i H x H' B' hi e1 e2 y => by
    obtain ⟨rfl, hx⟩ := y
    obtain ⟨d, h1, h2⟩ := r.get hx
    exact ⟨d, B', h1, Gr.refl e2, h2.mono e1⟩⟩
theorem walkD_str {K : PySem.W.Frag} {z : Str} {B : Hp} : WalkD K (Its z) (signs z) B :=
  ⟨fun _ => True, _, by
    have : (signs z).length = z.cps.size := by simp [signs]
    rw [this]; exact walk_str, fun _ _ _ _ => trivial, fun i H x H' B' hi e1 e2 y => by
    obtain ⟨rfl, c, hc, rfl⟩ := y
    exact ⟨.str ⟨#[c]⟩, B', by
      unfold signs
      rw [List.getElem?_map, Array.getElem?_toList, hc]; rfl, Gr.refl e2, .str⟩⟩
theorem pdi_seq {tg l : Expr} {d : DE} (h : PDE X F l d) : PDI X F tg l (iSq d) := PI.weak (pi_seq h) fun σ H R ⟨ρ, A, B, q, rl, hd, k⟩ => by
  refine ⟨ρ, A, B, _, rl, hd, fun x A' v H' B' hx r' e p => ?_⟩
  cases x with
  | lst a =>
    obtain ⟨p1, xs, rfl, hp, px⟩ := p.lst_inv
    exact .inl ⟨p1, rfl, ⟨xs, sq_of (r'.bh _ _ hp)⟩, k a A' _ H' B' hx r' e (walkD_list hp px)⟩
  | tup a =>
    obtain ⟨p1, xs, rfl, hp, px⟩ := p.tup_inv
    exact .inr (.inl ⟨p1, rfl, ⟨xs, ex_t r'.bh hp⟩, k a A' _ H' B' hx r' e (walkD_tup hp px)⟩)
  | str z => exact .inr (.inr ⟨z, p.str_inv, k _ A' _ H' B' hx r' e walkD_str⟩)
  | _ => exact hx.elim
/-- range -/
def rng (lo : Int) (n : Nat) : List D := (List.range n).map fun (i : Nat) => D.int (lo + i)
theorem walkD_range {K : PySem.W.Frag} {lo : Int} {n : Nat} {B : Hp} : WalkD K (Itr lo n) (rng lo n) B :=
  ⟨fun _ => True, _, by
    have : (rng lo n).length = n := by simp [rng]
    rw [this]; exact walk_range, fun _ _ _ _ => trivial, fun i H x H' B' hi e1 e2 y => by
    obtain ⟨rfl, rfl⟩ := y
    have hi' : i < n := by simpa [rng] using hi
    exact ⟨.int (lo + i), B', by unfold rng; rw [List.getElem?_map, List.getElem?_range hi']; rfl, Gr.refl e2, .int⟩⟩
def iRg1 (da : DA) : DA := fun ρ A q => da ρ A fun xs A' => match xs with
  | [.int n] => (-(2 ^ 62) ≤ n ∧ n < 2 ^ 62) ∧ q (rng 0 n.toNat) A'
  | _ => False
def iRg2 (da : DA) : DA := fun ρ A q => da ρ A fun xs A' => match xs with
  | [.int m, .int n] => (-(2 ^ 62) ≤ m ∧ m < 2 ^ 62 ∧ -(2 ^ 62) ≤ n ∧ n < 2 ^ 62) ∧ q (rng m (n - m).toNat) A'
  | _ => False
theorem pdi_range1 {tg a : Expr} {da : DA} {p pos : Pos} (hg : Gl X "range") (hm : X.mg "range" = none) (ha : PDA X F [a] da) (hs : starEach [a] X.env = [(false, eval a X.env)] := by rfl) : PDI X F tg (.Call (.Name "range" p) [a] [] pos) (iRg1 da) :=
  PI.weak (pi_range1 hg hm ha hs) fun σ H R ⟨ρ, A, B, q, rl, hd, k⟩ => by
    refine ⟨ρ, A, B, _, rl, hd, fun xs A' vs H' B' hx r' e p => ?_⟩
    split at hx
    · obtain ⟨v, rfl, rv⟩ := reps1 p
      obtain rfl := rv.int_inv
      exact ⟨_, rfl, hx.1.1, hx.1.2, k _ A' _ H' B' hx.2 r' e walkD_range⟩
    · exact hx.elim
theorem pdi_range2 {tg a b : Expr} {da : DA} {p pos : Pos} (hg : Gl X "range") (hm : X.mg "range" = none) (ha : PDA X F [a, b] da) (hs : starEach [a, b] X.env = [(false, eval a X.env), (false, eval b X.env)] := by rfl) (hs2 : starEach [b] X.env = [(false, eval b X.env)] := by rfl) :
    PDI X F tg (.Call (.Name "range" p) [a, b] [] pos) (iRg2 da) :=
  PI.weak (pi_range2 hg hm ha hs hs2) fun σ H R ⟨ρ, A, B, q, rl, hd, k⟩ => by
    refine ⟨ρ, A, B, _, rl, hd, fun xs A' vs H' B' hx r' e p => ?_⟩
    split at hx
    · obtain ⟨v, w, rfl, rv, rw'⟩ := reps2 p
      obtain rfl := rv.int_inv
      obtain rfl := rw'.int_inv
      exact ⟨_, _, rfl, hx.1, k _ A' _ H' B' hx.2 r' e walkD_range⟩
    · exact hx.elim
/-- zip, enumerate -/
theorem ypair {K : PySem.W.Frag} {xs ys : Nat → Option V} {i : Nat} {H : Hp} {x : V} {H' B : Hp} {d e : D} (y : YPair xs ys i H x H') (eb : Ex B H) (h1 : ∀ v, xs i = some v → Rep K B v d) (h2 : ∀ v, ys i = some v → Rep K B v e) : ∃ B1, Gr none H B H' B1 ∧ Rep K B1 x (.tup [d, e]) := by
  obtain ⟨T, u, w, rfl, hT, rfl, e1, e2⟩ := y
  exact ⟨_, Gr.new eb hT, .tup (st_of upd_same) (.cons ((h1 _ e1).mono (Ex.new (b_none eb hT))) (.cons ((h2 _ e2).mono (Ex.new (b_none eb hT))) .nil))⟩
def pairs : List D → List D → List D := List.zipWith fun a b => D.tup [a, b]
theorem walkD_zip {K : PySem.W.Frag} {a b : Addr} {xs ys : List V} {ds es : List D} {B : Hp} (h : B a = some (.lst xs)) (r : Reps K B xs ds) (h2 : B b = some (.lst ys)) (r2 : Reps K B ys es) : WalkD K (Itz K a b) (pairs ds es) B :=
  ⟨fun H => SqL K H a xs ∧ SqL K H b ys, YPair (fun i => xs[i]?) (fun i => ys[i]?), by
    have : (pairs ds es).length = min xs.length ys.length := by simp [pairs, r.length, r2.length]
    rw [this]; exact walk_zip (xs := xs) (ys := ys) rfl, fun H B' e1 e2 => ⟨sq_of (e2 _ _ (e1 _ _ h)), sq_of (e2 _ _ (e1 _ _ h2))⟩, fun i H x H' B' hi e1 e2 y => by
    have hi2 : i < min ds.length es.length := by simpa [pairs] using hi
    have hi' : i < ds.length ∧ i < es.length := by omega
    obtain ⟨d, hd⟩ : ∃ d, ds[i]? = some d := ⟨_, List.getElem?_eq_getElem hi'.1⟩
    obtain ⟨e, he⟩ : ∃ e, es[i]? = some e := ⟨_, List.getElem?_eq_getElem hi'.2⟩
    obtain ⟨B1, g, p⟩ := ypair (K := K) (d := d) (e := e) y e2 (fun v hv => by
      obtain ⟨d', h1, h3⟩ := r.get hv
      rw [hd] at h1; cases h1; exact h3.mono e1) (fun v hv => by
      obtain ⟨d', h1, h3⟩ := r2.get hv
      rw [he] at h1; cases h1; exact h3.mono e1)
    exact ⟨_, B1, by unfold pairs; rw [List.getElem?_zipWith, hd, he], g, p⟩⟩
theorem walkD_zipT {K : PySem.W.Frag} {a b : Addr} {xs ys : List V} {ds es : List D} {B : Hp} (w : Walk (RZ.ItzT K a b) (min xs.length ys.length) (fun H => SqT K H a xs ∧ SqT K H b ys) (YPair (fun i => xs[i]?) (fun i => ys[i]?))) (h : SqT K B a xs) (r : Reps K B xs ds) (h2 : SqT K B b ys) (r2 : Reps K B ys es) : WalkD K (RZ.ItzT K a b) (pairs ds es) B :=
  ⟨fun H => SqT K H a xs ∧ SqT K H b ys, YPair (fun i => xs[i]?) (fun i => ys[i]?), by
    have : (pairs ds es).length = min xs.length ys.length := by simp [pairs, r.length, r2.length]
    rw [this]; exact w, fun H B' e1 e2 => ⟨ex_t e2 (ex_t e1 h), ex_t e2 (ex_t e1 h2)⟩, fun i H x H' B' hi e1 e2 y => by
    have hi2 : i < min ds.length es.length := by simpa [pairs] using hi
    have hi' : i < ds.length ∧ i < es.length := by omega
    obtain ⟨d, hd⟩ : ∃ d, ds[i]? = some d := ⟨_, List.getElem?_eq_getElem hi'.1⟩
    obtain ⟨e, he⟩ : ∃ e, es[i]? = some e := ⟨_, List.getElem?_eq_getElem hi'.2⟩
    obtain ⟨B1, g, p⟩ := ypair (K := K) (d := d) (e := e) y e2 (fun v hv => by
      obtain ⟨d', h1, h3⟩ := r.get hv
      rw [hd] at h1; cases h1; exact h3.mono e1) (fun v hv => by
      obtain ⟨d', h1, h3⟩ := r2.get hv
      rw [he] at h1; cases h1; exact h3.mono e1)
    exact ⟨_, B1, by unfold pairs; rw [List.getElem?_zipWith, hd, he], g, p⟩⟩
theorem walk_zipT {K : PySem.W.Frag} {a b : Addr} {xs ys : List V} : Walk (RZ.ItzT K a b) (min xs.length ys.length) (fun H => SqT K H a xs ∧ SqT K H b ys) (YPair (fun i => xs[i]?) (fun i => ys[i]?)) := by
  refine ⟨fun i _ hi q => ?_, fun _ q => ⟨xs, ys, q.1, q.2, by omega⟩, fun i H v H' _ q y => ?_⟩
  · have h1 : i < xs.length := by omega
    have h2 : i < ys.length := by omega
    exact ⟨xs, ys, xs[i], ys[i], q.1, q.2, by simp [h1], by simp [h2]⟩
  · obtain ⟨T, x, z, h1, h2, h3, h4, h5⟩ := y
    exact ⟨T, x, z, h1, h2, h3, h4 xs q.1, h5 ys q.2⟩
def iZp (da : DA) : DA := fun ρ A q => da ρ A fun xs A' => match xs with
  | [.lst a, .lst b] => q (pairs a b) A'
  | [.tup a, .tup b] => q (pairs a b) A'
  | _ => False
theorem pdi_zip {e e2 : Expr} {da : DA} {p pos tpos : Pos} {elts : List Expr} {kk : Nat} (hg : Gl X "zip") (hm : X.mg "zip" = none) (ha : PDA X F [e, e2] da)
    (hs : starEach [e, e2] X.env = (false, eval e X.env) :: starEach [e2] X.env := by rfl) (hpl : (backTo pos (starEach [e2] X.env)).any (·.1) = false := by rfl) :
    PDI X F (.Tuple elts kk tpos) (.Call (.Name "zip" p) [e, e2] [] pos) (iZp da) :=
  PI.weak (RZ.pi_zipA hg hm ha hs hpl) fun σ H R ⟨ρ, A, B, q, rl, hd, k⟩ => by
    refine ⟨ρ, A, B, _, rl, hd, fun xs A' vs H' B' hx r' e p => ?_⟩
    split at hx
    · obtain ⟨v, w, rfl, rv, rw'⟩ := reps2 p
      obtain ⟨p1, xs1, rfl, hp1, px1⟩ := rv.lst_inv
      obtain ⟨p2, xs2, rfl, hp2, px2⟩ := rw'.lst_inv
      exact ⟨p1, p2, xs1, xs2, rfl, .inl ⟨sq_of (r'.bh _ _ hp1), sq_of (r'.bh _ _ hp2), k _ A' _ H' B' hx r' e (walkD_zip hp1 px1 hp2 px2)⟩⟩
    · obtain ⟨v, w, rfl, rv, rw'⟩ := reps2 p
      obtain ⟨p1, xs1, rfl, hp1, px1⟩ := rv.tup_inv
      obtain ⟨p2, xs2, rfl, hp2, px2⟩ := rw'.tup_inv
      exact ⟨p1, p2, xs1, xs2, rfl, .inr ⟨ex_t r'.bh hp1, ex_t r'.bh hp2, k _ A' _ H' B' hx r' e (walkD_zipT walk_zipT hp1 px1 hp2 px2)⟩⟩
    · exact hx.elim
def numbered (n : Nat) : List D → List D
  | [] => []
  | d :: ds => .tup [.int (n : Nat), d] :: numbered (n + 1) ds
theorem numbered_len : ∀ (ds : List D) (n : Nat), (numbered n ds).length = ds.length
  | [], _ => rfl
  | d :: ds, n => by simp [numbered, numbered_len ds (n + 1)]
theorem numbered_get : ∀ (ds : List D) (n i : Nat), (numbered n ds)[i]? = (ds[i]?).map fun d => D.tup [.int ((n + i : Nat) : Int), d]
  | [], _, _ => by simp [numbered]
  | d :: ds, n, 0 => by simp [numbered]
  | d :: ds, n, i + 1 => by
    show (numbered (n + 1) ds)[i]? = _
    rw [numbered_get ds (n + 1) i]
    simp [Nat.add_comm, Nat.add_left_comm]
theorem walkD_enum {K : PySem.W.Frag} {a : Addr} {xs : List V} {ds : List D} {B : Hp} (h : B a = some (.lst xs)) (r : Reps K B xs ds) : WalkD K (Ite K a) (numbered 0 ds) B :=
  ⟨_, _, by rw [numbered_len, ← r.length]; exact walk_enum, fun H B' e1 e2 => sq_of (e2 _ _ (e1 _ _ h)), fun i H x H' B' hi e1 e2 y => by
    rw [numbered_len] at hi
    obtain ⟨d, hd⟩ : ∃ d, ds[i]? = some d := ⟨_, List.getElem?_eq_getElem hi⟩
    obtain ⟨B1, g, p⟩ := ypair (K := K) (d := .int (i : Nat)) (e := d) y e2 (fun v hv => by cases hv; exact .int) (fun v hv => by
      obtain ⟨d', h1, h3⟩ := r.get hv
      rw [hd] at h1; cases h1; exact h3.mono e1)
    exact ⟨_, B1, by rw [numbered_get, hd, Nat.zero_add]; rfl, g, p⟩⟩
def iEn (da : DA) : DA := fun ρ A q => da ρ A fun xs A' => match xs with
  | [.lst a] => q (numbered 0 a) A'
  | _ => False
theorem pdi_enum {e : Expr} {da : DA} {p pos tpos : Pos} {elts : List Expr} {kk : Nat} (hg : Gl X "enumerate") (hm : X.mg "enumerate" = none) (ha : PDA X F [e] da) (hs : starEach [e] X.env = [(false, eval e X.env)] := by rfl) :
    PDI X F (.Tuple elts kk tpos) (.Call (.Name "enumerate" p) [e] [] pos) (iEn da) :=
  PI.weak (pi_enum hg hm ha hs) fun σ H R ⟨ρ, A, B, q, rl, hd, k⟩ => by
    refine ⟨ρ, A, B, _, rl, hd, fun xs A' vs H' B' hx r' e p => ?_⟩
    split at hx
    · obtain ⟨v, rfl, rv⟩ := reps1 p
      obtain ⟨p1, xs1, rfl, hp1, px1⟩ := rv.lst_inv
      exact ⟨p1, xs1, rfl, sq_of (r'.bh _ _ hp1), k _ A' _ H' B' hx r' e (walkD_enum hp1 px1)⟩
    · exact hx.elim
end
end Y
set_option Elab.async false
set_option linter.all false
set_option maxRecDepth 100000
set_option maxHeartbeats 4000000
set_option autoImplicit false
namespace Y
open PySem PySem.Spec PyProof.Rows L2
section
variable {X : Cx} {F : Fx}

/-! ### comprehensions -/
def lcD (g : DG) (t : DT) (d : DE) (vs : List Nat) (ρw : En) : List D → List D → Nat → (List D → Nat → Prop) → Prop
  | [], acc, A, q => q acc A
  | x :: xs, acc, A, q => acc.length < 100000 ∧ g x ρw fun ρ' => t ρ' A fun b A1 => if b = true then d ρ' A1 fun y A2 => lcD g t d vs ρw xs (acc ++ [y]) A2 q else lcD g t d vs ρw xs acc A1 q
def dLc (di : DA) (g : DG) (t : DT) (d : DE) (vs : List Nat) : DL := fun ρ A q => di ρ A fun items A1 => lcD g t d vs (wipeD ρ vs) items [] A1 q
def dYes : DT := fun _ A q => q true A
def PDTs (X : Cx) (F : Fx) (es : List Expr) (t : DT) : Prop := PTs X es (liftT X.K F t)
theorem pdts_nil : PDTs X F [] dYes := PTs.weak pts_nil fun σ H Q ⟨ρ, A, B, q, rl, hd, k⟩ => k true A H B hd rl (Gr.refl rl.bh)
theorem pdts_one {c : Expr} {t : DT} (h : PDT X F c t) : PDTs X F [c] t := pts_one h
theorem lc_lift {K : PySem.W.Frag} {di : DA} {g : DG} {t : DT} {d : DE} {vs vg : List Nat} (hv : ∀ i ∈ vg, i ∈ vs) (σ : L2.St) (H : Hp) (Q : VK) (h : liftL K F (dLc di g t d vs) σ H Q) :
    tLc (liftI K F di) (liftG K F vg g) (liftT K F t) (liftE K F d) vs σ H Q := by
  obtain ⟨ρ, A, B, q, rl, hd, k⟩ := h
  refine ⟨ρ, A, B, _, rl, hd, fun items A1 J H1 B1 h1 r1 e1 wk L hL => ?_⟩
  obtain ⟨G, Y, w, hG, hY⟩ := wk
  have h0 : H L = none := e1.back hL
  refine lc_it w (fun i H2 => ∃ A2 B2 xs acc, Rel K F ρ A2 σ H2 B2 ∧ Gr F.pen H1 B1 H2 B2 ∧ B2 L = none ∧ H2 L = some (.lst xs) ∧ Reps K B2 xs acc ∧ lcD g t d vs (wipeD ρ vs) (items.drop i) acc A2 q) ?_ ?_ ?_ ?_
  · exact ⟨A1, B1, [], [], r1.grow (Gr.laid r1.bh hL), Gr.laid r1.bh hL, b_none r1.bh hL, upd_same, .nil, h1⟩
  · rintro i H2 hi ⟨A2, B2, xs, acc, r2, g2, _⟩
    exact hG H2 B2 g2.eb r2.bh
  · rintro i x H2 H3 hi ⟨A2, B2, xs, acc, r2, g2, nB2, hLx, rx, hl⟩ y
    obtain ⟨v, B3, hv1, g3, rv⟩ := hY i H2 x H3 B2 hi g2.eb r2.bh y
    have hdrop : items.drop i = v :: items.drop (i + 1) := by
      obtain ⟨hlt, e⟩ := List.getElem?_eq_some_iff.mp hv1
      rw [List.drop_eq_getElem_cons hlt, e]
    rw [hdrop] at hl
    obtain ⟨hsz, hl⟩ := hl
    have r3 := r2.grow g3
    have nL : F.pen ≠ some L := fun z => by
      have := (r1.h.pn L z).1
      exact this (r1.h.h0 hL)
    refine ⟨wipeD ρ vs, A2, B3, v, _, r3.wipe vs, rv, hl, fun ρ' σ' hq r4 c4 => ⟨c4.wipe hv, ρ', A2, B3, _, r4, hq, fun b A3 H4 B4 hb r5 g5 => ?_⟩⟩
    have back : ∀ {A5 : Nat} {H5 B5 : Hp}, Rel K F ρ' A5 σ' H5 B5 → Gr F.pen H3 B3 H5 B5 → Rel K F ρ A5 σ H5 B5 := fun {A5 H5 B5} r g => r3.turned g fun p hp => (r.h.pn p hp).2.2
    cases b with
    | true =>
      dsimp only at hb ⊢
      rw [if_pos rfl] at hb ⊢
      refine ⟨ρ', A3, B4, _, r5, hb, fun y A5 w5 H5 B5 hy r6 g6 p6 => ?_⟩
      have g35 := g5.trans g6
      have h5L : H5 L = some (.lst xs) := g35.eh L _ (g3.ex L _ hLx) nL
      have r7 := back r6 g35
      have b5L : B5 L = none := by
        rw [g35.bn L (by rw [g3.ex L _ hLx]; simp), g3.bn L (by rw [hLx]; simp)]
        exact nB2
      have lw : xs.length < sizeLine := by
        rw [rx.length]
        exact Nat.lt_of_lt_of_le hsz (by decide)
      refine ⟨xs, h5L, lw, A5, B5, xs ++ [w5], acc ++ [y], ?_, ?_, b5L, upd_same, (rx.mono (g3.eb.trans g35.eb)).append (.cons p6 .nil), hy⟩
      · -- the relation behind the append
        have no : NoOwn ρ σ L := rl.noOwn h0
        refine ⟨⟨⟨fun b u hu np => ?_, fun b hb' => ?_, r7.h.gr.eb, r7.h.gr.bn, fun b u hu => ?_⟩, fun p hp => ?_⟩, r7.len, fun j s ej => ?_, r7.dj⟩
        · have : b ≠ L := fun z => by rw [z, rl.h.h0 h0] at hu; cases hu
          rw [upd_ne this]; exact r7.h.gr.eh b u hu np
        · by_cases z : b = L
          · subst z; rw [upd_same]; simp
          · rw [upd_ne z]; exact r7.h.gr.al b hb'
        · have : b ≠ L := fun z => by rw [z, b5L] at hu; cases hu
          rw [upd_ne this]; exact r7.h.gr.bh b u hu
        · obtain ⟨z1, z2, z3⟩ := r7.h.pn p hp
          have : p ≠ L := fun z => nL (z ▸ hp)
          exact ⟨z1, z2, z3.mono (upd_ne this) (Ex.refl _)⟩
        · obtain ⟨sv, ej1, qj⟩ := r7.sl j s ej
          refine ⟨sv, ej1, ?_⟩
          cases s with
          | no => trivial
          | sh d => exact qj
          | own t2 m2 =>
            obtain ⟨b, ob, z, z0, zb, zh, qj, ht⟩ := qj
            have : b ≠ L := fun y => no j t2 m2 ej (by rw [ej1, z, y])
            exact ⟨b, ob, z, z0, zb, by rw [upd_ne this]; exact zh, qj, ht⟩
      · have gg : Gr F.pen H1 B1 H5 B5 := (g2.trans g3.weak).trans g35
        refine ⟨fun b u hu np => ?_, fun b hb' => ?_, gg.eb, gg.bn, fun b u hu => ?_⟩
        · have : b ≠ L := fun z => by rw [z, hL] at hu; cases hu
          rw [upd_ne this]; exact gg.eh b u hu np
        · by_cases z : b = L
          · subst z; rw [upd_same]; simp
          · rw [upd_ne z]; exact gg.al b hb'
        · have : b ≠ L := fun z => by rw [z, b5L] at hu; cases hu
          rw [upd_ne this]; exact gg.bh b u hu
    | false =>
      dsimp only at hb ⊢
      rw [if_neg Bool.false_ne_true] at hb ⊢
      have h4L : H4 L = some (.lst xs) := g5.eh L _ (g3.ex L _ hLx) nL
      have b4L : B4 L = none := by
        rw [g5.bn L (by rw [g3.ex L _ hLx]; simp), g3.bn L (by rw [hLx]; simp)]
        exact nB2
      exact ⟨A3, B4, xs, acc, back r5 g5, (g2.trans g3.weak).trans g5, b4L, h4L, rx.mono (g3.eb.trans g5.eb), hb⟩
  · rintro H2 ⟨A2, B2, xs, acc, r2, g2, nB2, hLx, rx, hl⟩
    rw [List.drop_length] at hl
    exact k acc A2 L xs H2 B2 hl r2 (e1.trans g2) hLx h0 nB2 rx
theorem pdl_lc {elt tg iter : Expr} {ifs : List Expr} {scope : Scope} {own : List (Str × Nat)} {pos : Pos} {di : DA} {g : DG} {t : DT} {d : DE} {vg : List Nat} (hc : X.calm = true) (hN : X.N.Nodup) (hi : PDI X F tg iter di) (ok : BlkOk X.N X.env.scope scope own)
    (hg : ∀ (s : Shared) (H : Hp) (C : Addr) (cl : List (Str × Addr)) (fp : List Addr), PDG (X.blk s H scope (compEnvC scope cl C X.env) fp) F vg tg g) (ht : ∀ (s : Shared) (H : Hp) (C : Addr) (cl : List (Str × Addr)) (fp : List Addr), PDTs (X.blk s H scope (compEnvC scope cl C X.env) fp) F ifs t)
    (he : ∀ (s : Shared) (H : Hp) (C : Addr) (cl : List (Str × Addr)) (fp : List Addr), PDE (X.blk s H scope (compEnvC scope cl C X.env) fp) F elt d) (hv : ∀ i ∈ vg, i ∈ own.map (·.2) := by decide) (hs : ∀ x, foldedSetIterable iter X.env x = pure x := by intro _; rfl) :
    PDL X F (.ListComp elt [⟨tg, iter, ifs, 0⟩] scope pos) (dLc di g t d (own.map (·.2))) :=
  PE.weak (pe_lc (g := liftG X.K F vg g) (tt := liftT X.K F t) (te := liftE X.K F d) hc hN hi ok hg ht he hs) (lc_lift hv)

/-! ### statements -/
def dNext : DS := fun E ρ A => E.nx ρ A
def dSeq (a b : DS) : DS := fun E ρ A => a { E with nx := fun ρ' A' => b E ρ' A' } ρ A
theorem pdss_nil : PDSs X F [] dNext := PSs.weak pss_nil fun D σ H ⟨ρ, A, B, E, r, k, h⟩ => k.nx ρ A σ H B r (Ex.refl _) h
theorem pdss_cons {st : Stmt} {rest : List Stmt} {a b : DS} (h1 : PDS X F st a) (h2 : PDSs X F rest b) : PDSs X F (st :: rest) (dSeq a b) := PSs.weak (pss_cons h1 h2) fun D σ H ⟨ρ, A, B, E, r, k, h⟩ =>
  ⟨ρ, A, B, { E with nx := fun ρ' A' => b E ρ' A' }, r, ⟨fun ρ1 A1 σ1 H1 B1 r1 e1 h1 => ⟨ρ1, A1, B1, E, r1, k.mono e1, h1⟩, k.bk, k.ct, k.rt⟩, h⟩
theorem pdss_one {st : Stmt} {a : DS} (h1 : PDS X F st a) : PDSs X F [st] a := pss_one h1
theorem pds_pass {pos : Pos} : PDS X F (.Pass pos) dNext := PS.weak ps_pass fun D σ H ⟨ρ, A, B, E, r, k, h⟩ => k.nx ρ A σ H B r (Ex.refl _) h
def dBreak : DS := fun E ρ A => E.bk ρ A
def dCont : DS := fun E ρ A => E.ct ρ A
theorem pds_break {pos : Pos} : PDS X F (.Break pos) dBreak := PS.weak ps_break fun D σ H ⟨ρ, A, B, E, r, k, h⟩ => k.bk ρ A σ H B r (Ex.refl _) h
theorem pds_continue {pos : Pos} : PDS X F (.Continue pos) dCont := PS.weak ps_continue fun D σ H ⟨ρ, A, B, E, r, k, h⟩ => k.ct ρ A σ H B r (Ex.refl _) h
/-- an owned slot is shared from here on -/
def frz (ρ : En) (i : Nat) : En := match ρ[i]? with
  | some (.own _ m) => ρ.set i (.sh m.d)
  | _ => ρ
def dFrz (i : Nat) (a : DS) : DS := fun E ρ A => a E (frz ρ i) A
theorem frz_lift {K : PySem.W.Frag} {i : Nat} {a : DS} (D : Ends) (σ : L2.St) (H : Hp) (h : liftS K F (dFrz i a) D σ H) : liftS K F a D σ H := by
  obtain ⟨ρ, A, B, E, r, k, h⟩ := h
  unfold dFrz frz at h
  split at h
  · next t m e =>
    obtain ⟨B', r', eb⟩ := r.share e
    exact ⟨_, A, B', E, r', k.mono eb, h⟩
  · exact ⟨ρ, A, B, E, r, k, h⟩
theorem pds_frz (i : Nat) {st : Stmt} {a : DS} (h : PDS X F st a) : PDS X F st (dFrz i a) := PS.weak h frz_lift
theorem pdss_frz (i : Nat) {st : List Stmt} {a : DS} (h : PDSs X F st a) : PDSs X F st (dFrz i a) := PSs.weak h frz_lift
/-- name = e -/
def dAsg (i : Nat) (d : DE) : DS := fun E ρ A => d ρ A fun x A1 => E.nx (ρ.set i (.sh x)) A1
def dAsgL (i : Nat) (d : DL) : DS := fun E ρ A => d ρ A fun x A1 => E.nx (ρ.set i (.own none (.lst x))) A1
theorem asg_lift {K : PySem.W.Frag} {i : Nat} {d : DE} (D : Ends) (σ : L2.St) (H : Hp) (h : liftS K F (dAsg i d) D σ H) : tAsg (liftE K F d) (gName i) D σ H := by
  obtain ⟨ρ, A, B, E, r, k, h⟩ := h
  exact ⟨ρ, A, B, _, r, h, fun x A1 v H1 B1 h1 r1 e1 p1 => k.nx _ _ _ H1 B1 (r1.setSh p1) e1.eb h1⟩
theorem asgL_lift {K : PySem.W.Frag} {i : Nat} {d : DL} (D : Ends) (σ : L2.St) (H : Hp) (h : liftS K F (dAsgL i d) D σ H) : tAsg (liftL K F d) (gName i) D σ H := by
  obtain ⟨ρ, A, B, E, r, k, h⟩ := h
  exact ⟨ρ, A, B, _, r, h, fun ds A1 a xs H1 B1 h1 r1 e1 ha hn hb rs => k.nx _ _ _ H1 B1 (r1.setOwn (r.h.h0 hn) hb ha (.lst rs) (fun j t m _ ej => r.noOwn hn j t m ej) (by intro _ z; cases z)) e1.eb h1⟩
theorem pds_set (i : Nat) {x : Str} {e : Expr} {d : DE} {pos pos' : Pos} (hN : X.N.Nodup) (he : PDE X F e d) (hi : X.N[i]? = some x := by rfl) (hx : Loc X.env.scope x := by first | exact Or.inl rfl | exact Or.inr rfl)
    (hs : swapsWith e (some (.Name x pos')) pos.line X.env = pure false := by rfl) (hf : X.fn x = true ∨ X.env.scope.names.lookup x = some .local := by first | exact .inl rfl | exact .inr rfl) : PDS X F (.Assign [.Name x pos'] e pos) (dAsg i d) :=
  PS.weak (ps_set hN hi hx he hs hf) asg_lift
theorem pds_setL (i : Nat) {x : Str} {e : Expr} {d : DL} {pos pos' : Pos} (hN : X.N.Nodup) (he : PDL X F e d) (hi : X.N[i]? = some x := by rfl) (hx : Loc X.env.scope x := by first | exact Or.inl rfl | exact Or.inr rfl)
    (hs : swapsWith e (some (.Name x pos')) pos.line X.env = pure false := by rfl) (hf : X.fn x = true ∨ X.env.scope.names.lookup x = some .local := by first | exact .inl rfl | exact .inr rfl) : PDS X F (.Assign [.Name x pos'] e pos) (dAsgL i d) :=
  PS.weak (ps_set hN hi hx he hs hf) asgL_lift
/-- name = [..], the name a plain local -/
theorem pds_lc (i : Nat) {y : Str} {py : Pos} {elt tg iter : Expr} {ifs : List Expr} {scope : Scope} {own : List (Str × Nat)} {pos spos : Pos} {di : DA} {g : DG} {t : DT} {d : DE} {vg : List Nat} (hc : X.calm = true) (hN : X.N.Nodup)
    (hsw : swapsWith (.ListComp elt [⟨tg, iter, ifs, 0⟩] scope pos) (some (.Name y py)) spos.line X.env = pure true) (hi : PDI X F tg iter di) (ok : BlkOk X.N X.env.scope scope own)
    (hg : ∀ (s : Shared) (H : Hp) (C : Addr) (cl : List (Str × Addr)) (fp : List Addr), PDG (X.blk s H scope (compEnvC scope cl C X.env) fp) F vg tg g) (ht : ∀ (s : Shared) (H : Hp) (C : Addr) (cl : List (Str × Addr)) (fp : List Addr), PDTs (X.blk s H scope (compEnvC scope cl C X.env) fp) F ifs t)
    (he : ∀ (s : Shared) (H : Hp) (C : Addr) (cl : List (Str × Addr)) (fp : List Addr), PDE (X.blk s H scope (compEnvC scope cl C X.env) fp) F elt d) (hy : X.N[i]? = some y := by rfl) (hyl : X.env.scope.names.lookup y = some .local := by rfl) (hv : ∀ i ∈ vg, i ∈ own.map (·.2) := by decide) (hs : ∀ x, foldedSetIterable iter X.env x = pure x := by intro _; rfl) :
    PDS X F (.Assign [.Name y py] (.ListComp elt [⟨tg, iter, ifs, 0⟩] scope pos) spos) (dAsg i (dOfL (dLc di g t d (own.map (·.2))))) :=
  PS.weak (ps_setLc (g := liftG X.K F vg g) (tt := liftT X.K F t) (te := liftE X.K F d) hc hN hy hyl hsw hi ok hg ht he hs) fun D σ H h => by
    obtain ⟨ρ, A, B, E, r, k, h⟩ := h
    exact lc_lift hv σ H _ ⟨ρ, A, B, _, r, h, fun ds A' a xs H' B' hq r' e ha hn hb rs =>
      k.nx _ _ _ H' _ ((r'.known ha (r.h.h0 hn) hb (r.noOwn hn)).setSh (.lst upd_same (rs.mono (Ex.new hb)))) (e.eb.trans (Ex.new hb)) hq⟩
theorem pds_lcL (i : Nat) {y : Str} {py : Pos} {elt tg iter : Expr} {ifs : List Expr} {scope : Scope} {own : List (Str × Nat)} {pos spos : Pos} {di : DA} {g : DG} {t : DT} {d : DE} {vg : List Nat} (hc : X.calm = true) (hN : X.N.Nodup)
    (hsw : swapsWith (.ListComp elt [⟨tg, iter, ifs, 0⟩] scope pos) (some (.Name y py)) spos.line X.env = pure true) (hi : PDI X F tg iter di) (ok : BlkOk X.N X.env.scope scope own)
    (hg : ∀ (s : Shared) (H : Hp) (C : Addr) (cl : List (Str × Addr)) (fp : List Addr), PDG (X.blk s H scope (compEnvC scope cl C X.env) fp) F vg tg g) (ht : ∀ (s : Shared) (H : Hp) (C : Addr) (cl : List (Str × Addr)) (fp : List Addr), PDTs (X.blk s H scope (compEnvC scope cl C X.env) fp) F ifs t)
    (he : ∀ (s : Shared) (H : Hp) (C : Addr) (cl : List (Str × Addr)) (fp : List Addr), PDE (X.blk s H scope (compEnvC scope cl C X.env) fp) F elt d) (hy : X.N[i]? = some y := by rfl) (hyl : X.env.scope.names.lookup y = some .local := by rfl) (hv : ∀ i ∈ vg, i ∈ own.map (·.2) := by decide) (hs : ∀ x, foldedSetIterable iter X.env x = pure x := by intro _; rfl) :
    PDS X F (.Assign [.Name y py] (.ListComp elt [⟨tg, iter, ifs, 0⟩] scope pos) spos) (dAsgL i (dLc di g t d (own.map (·.2)))) :=
  PS.weak (ps_setLc (g := liftG X.K F vg g) (tt := liftT X.K F t) (te := liftE X.K F d) hc hN hy hyl hsw hi ok hg ht he hs) fun D σ H h => by
    obtain ⟨ρ, A, B, E, r, k, h⟩ := h
    exact lc_lift hv σ H _ ⟨ρ, A, B, _, r, h, fun ds A' a xs H' B' hq r' e ha hn hb rs =>
      k.nx _ _ _ H' B' (r'.setOwn (r.h.h0 hn) hb ha (.lst rs) (fun j t m _ ej => r.noOwn hn j t m ej) (by intro _ z; cases z)) e.eb hq⟩
/-- a, b = e; a, b = e1, e2 -/
def dAsgG (g : DG) (d : DE) : DS := fun E ρ A => d ρ A fun x A1 => g x ρ fun ρ' => E.nx ρ' A1
theorem pds_asg {tg e : Expr} {vs : List Nat} {g : DG} {d : DE} {pos : Pos} (he : PDE X F e d) (hg : PDG X F vs tg g) (hs : swapsWithSole [tg] e pos.line X.env = pure false := by rfl) (hw : swappedStores [tg] e X.env = pure none := by rfl)
    (h1 : (assignEach [tg] X.env).map (·.2) = [assign tg X.env] := by rfl) : PDS X F (.Assign [tg] e pos) (dAsgG g d) := PS.weak (ps_asg he hg hs hw h1) fun D σ H ⟨ρ, A, B, E, r, k, h⟩ =>
  ⟨ρ, A, B, _, r, h, fun x A1 v H1 B1 h1 r1 e1 p1 => ⟨ρ, A1, B1, x, _, r1, p1, h1, fun ρ' σ' hq r' c => k.nx _ _ _ H1 B1 r' e1.eb hq⟩⟩
def dPar (i j : Nat) (da : DA) : DS := fun E ρ A => da ρ A fun xs A1 => match xs with
  | [x, y] => E.nx ((ρ.set i (.sh x)).set j (.sh y)) A1
  | _ => False
theorem pds_par (i j : Nat) {x y : Str} {a b : Expr} {da : DA} {px py pt pos : Pos} {kt k2 : Nat} {pt2 : Pos} (hc : X.calm = true) (hN : X.N.Nodup) (hij : i ≠ j) (ha : PDA X F [a, b] da) (hi : X.N[i]? = some x := by rfl) (hj : X.N[j]? = some y := by rfl)
    (hx : X.env.scope.names.lookup x = some .local := by rfl) (hy : X.env.scope.names.lookup y = some .local := by rfl)
    (hw : swappedStores [.Tuple [.Name x px, .Name y py] kt pt] (.Tuple [a, b] k2 pt2) X.env = pure (some [x, y]) := by rfl)
    (hs : swapsWithSole [.Tuple [.Name x px, .Name y py] kt pt] (.Tuple [a, b] k2 pt2) pos.line X.env = pure false := by rfl) :
    PDS X F (.Assign [.Tuple [.Name x px, .Name y py] kt pt] (.Tuple [a, b] k2 pt2) pos) (dPar i j da) := PS.weak (ps_par hc hN hi hj hij hx hy ha hw hs) fun D σ H ⟨ρ, A, B, E, r, k, h⟩ =>
  ⟨ρ, A, B, _, r, h, fun xs A1 vs H1 B1 h1 r1 e1 p1 => by
    split at h1
    · obtain ⟨v, w, rfl, rv, rw'⟩ := reps2 p1
      exact ⟨v, w, rfl, k.nx _ _ _ H1 B1 ((r1.setSh rv).setSh rw') e1.eb h1⟩
    · exact h1.elim⟩
/-- if, while -/
def dIf (t : DT) (a b : DS) : DS := fun E ρ A => t ρ A fun c A1 => if c = true then a E ρ A1 else b E ρ A1
theorem pds_if {c : Expr} {a b : List Stmt} {t : DT} {da db : DS} {pos : Pos} (hc : PDT X F c t) (ha : PDSs X F a da) (hb : PDSs X F b db) : PDS X F (.If c a b pos) (dIf t da db) := PS.weak (ps_if hc ha hb) fun D σ H ⟨ρ, A, B, E, r, k, h⟩ =>
  ⟨ρ, A, B, _, r, h, fun c A1 H1 B1 h1 r1 e1 => by
    cases c with
    | true => rw [if_pos rfl] at h1 ⊢; exact ⟨ρ, A1, B1, E, r1, k.mono e1.eb, h1⟩
    | false => rw [if_neg Bool.false_ne_true] at h1 ⊢; exact ⟨ρ, A1, B1, E, r1, k.mono e1.eb, h1⟩⟩
def dWhile (t : DT) (b : DS) : DS := fun E ρ A => ∃ W : Nat → En → Nat → Prop, (∃ m, W m ρ A) ∧ ∀ m ρ A, W m ρ A → t ρ A fun c A1 => if c = true then ∃ N : En → Nat → Prop, (∀ ρ' A', N ρ' A' → ∃ m', m' < m ∧ W m' ρ' A') ∧ b { E with nx := N, ct := N, bk := E.nx } ρ A1 else E.nx ρ A1
theorem pds_while {c : Expr} {body : List Stmt} {t : DT} {b : DS} {pos : Pos} (hp : PassesOwn (model X.prog X.w) X.A X.env X.xe) (hc : PDT X F c t) (hb : PDSs X F body b) : PDS X F (.While c body [] pos) (dWhile t b) := PS.weak (ps_while hp hc hb) fun D σ H ⟨ρ, A, B, E, r, k, W, ⟨m, hm⟩, turn⟩ => by
  refine ⟨fun m σ' H' => ∃ ρ' A' B', Rel X.K F ρ' A' σ' H' B' ∧ Ex B B' ∧ W m ρ' A', ⟨m, ρ, A, B, r, Ex.refl _, hm⟩, ?_⟩
  rintro m σ1 H1 ⟨ρ1, A1, B1, r1, e1, h1⟩
  refine ⟨ρ1, A1, B1, _, r1, turn m ρ1 A1 h1, fun c A2 H2 B2 h2 r2 e2 => ?_⟩
  cases c with
  | true =>
    rw [if_pos rfl] at h2 ⊢
    obtain ⟨N, hN, h2⟩ := h2
    refine ⟨fun σ' H' => ∃ ρ' A' B', Rel X.K F ρ' A' σ' H' B' ∧ Ex B B' ∧ N ρ' A', fun σ' H' ⟨ρ', A', B', r', e', hn⟩ => ?_, ρ1, A2, B2, _, r2, ?_, h2⟩
    · obtain ⟨m', hm', w'⟩ := hN ρ' A' hn
      exact ⟨m', hm', ρ', A', B', r', e', w'⟩
    · exact ⟨fun ρ' A' σ' H' B' r' e' h => ⟨ρ', A', B', r', (e1.trans e2.eb).trans e', h⟩, fun ρ' A' σ' H' B' r' e' h => k.nx _ _ _ _ _ r' ((e1.trans e2.eb).trans e') h,
        fun ρ' A' σ' H' B' r' e' h => ⟨ρ', A', B', r', (e1.trans e2.eb).trans e', h⟩, k.rt⟩
  | false =>
    rw [if_neg Bool.false_ne_true] at h2 ⊢
    exact k.nx _ _ _ _ _ r2 (e1.trans e2.eb) h2
/-- return, an expression dropped -/
def dRet (d : DE) : DS := fun E ρ A => d ρ A fun x A1 => E.rt (.sh x) ρ A1
def dRetL (d : DL) : DS := fun E ρ A => d ρ A fun x A1 => E.rt (.own (.lst x)) ρ A1
def dRetN : DS := fun E ρ A => E.rt (.sh .non) ρ A
def dRetV (i : Nat) : DS := fun E ρ A => match ρ[i]? with
  | some (.sh d) => E.rt (.sh d) ρ A
  | some (.own _ m) => E.rt (.own m) ρ A
  | _ => False
theorem pds_ret {e : Expr} {d : DE} {pos : Pos} (h : PDE X F e d) : PDS X F (.Return (some e) pos) (dRet d) := PS.weak (ps_ret h) fun D σ H ⟨ρ, A, B, E, r, k, h⟩ =>
  ⟨ρ, A, B, _, r, h, fun x A1 v H1 B1 h1 r1 e1 p1 => k.rt (.sh x) ρ A1 σ v H1 B1 r1 p1 h1⟩
theorem pds_retL {e : Expr} {d : DL} {pos : Pos} (h : PDL X F e d) : PDS X F (.Return (some e) pos) (dRetL d) := PS.weak (ps_ret h) fun D σ H ⟨ρ, A, B, E, r, k, h⟩ =>
  ⟨ρ, A, B, _, r, h, fun ds A1 a xs H1 B1 h1 r1 e1 ha hn hb rs => k.rt (.own (.lst ds)) ρ A1 σ _ H1 B1 r1 ⟨a, _, rfl, r.h.h0 hn, hb, ha, .lst rs⟩ h1⟩
theorem pds_retN {pos : Pos} : PDS X F (.Return none pos) dRetN := PS.weak ps_retN fun D σ H ⟨ρ, A, B, E, r, k, h⟩ => k.rt (.sh .non) ρ A σ _ H B r Rep.non h
theorem pds_retV (i : Nat) {x : Str} {pos pos' : Pos} (hN : X.N[i]? = some x := by rfl) (hv : Vis X.env.scope x := by first | exact Or.inl rfl | exact Or.inr (Or.inl rfl) | exact Or.inr (Or.inr rfl)) (hd : (x == ("__debug__" : Str)) = false := by decide)
    (hcd : (x == ("__classdict__" : Str)) = false := by decide) : PDS X F (.Return (some (.Name x pos)) pos') (dRetV i) := PS.weak (ps_ret (pe_var hN hv hd hcd)) fun D σ H ⟨ρ, A, B, E, r, k, h⟩ => by
  unfold dRetV at h
  split at h
  · next d e =>
    obtain ⟨sv, e1, v, rfl, hr⟩ := r.sl i _ e
    exact ⟨v, e1, k.rt (.sh d) ρ A σ v H B r hr h⟩
  · next t m e =>
    obtain ⟨sv, e1, a, o, rfl, h0, hb, ha, q, _⟩ := r.sl i _ e
    exact ⟨_, e1, k.rt (.own m) ρ A σ _ H B r ⟨a, o, rfl, h0, hb, ha, q⟩ h⟩
  · exact h.elim
def dDrop (d : DE) : DS := fun E ρ A => d ρ A fun _ A1 => E.nx ρ A1
theorem pds_expr {e : Expr} {d : DE} {pos : Pos} (h : PDE X F e d) (hs : swapsWith e none pos.line X.env = pure false := by rfl) : PDS X F (.Expr e pos) (dDrop d) := PS.weak (ps_expr h hs) fun D σ H ⟨ρ, A, B, E, r, k, h⟩ =>
  ⟨ρ, A, B, _, r, h, fun x A1 v H1 B1 h1 r1 e1 p1 => k.nx _ _ _ H1 B1 r1 e1.eb h1⟩
/-- for -/
def forD (g : DG) (b : DS) (E : DEnds) : List D → En → Nat → Prop
  | [], ρ, A => E.nx ρ A
  | d :: ds, ρ, A => g d ρ fun ρ' => b { E with nx := fun ρ2 A2 => forD g b E ds ρ2 A2, ct := fun ρ2 A2 => forD g b E ds ρ2 A2, bk := E.nx } ρ' A
def dFor (di : DA) (g : DG) (b : DS) : DS := fun E ρ A => di ρ A fun items A1 => forD g b E items ρ A1
theorem pds_for {tg iter : Expr} {body : List Stmt} {di : DA} {g : DG} {b : DS} {vs : List Nat} {pos : Pos} (hp : PassesOwn (model X.prog X.w) X.A X.env X.xe) (hc : X.calm = true) (hi : PDI X F tg iter di) (hg : PDG X F vs tg g) (hb : PDSs X F body b)
    (hs : ∀ x, foldedSetIterable iter X.env x = pure x := by intro _; rfl) : PDS X F (.For tg iter body [] pos) (dFor di g b) := PS.weak (ps_for hp hc hi hg hb hs) fun D σ H ⟨ρ, A, B, E, r, k, h⟩ => by
  refine ⟨ρ, A, B, _, r, h, fun items A1 J H1 B1 h1 r1 e1 wk => ?_⟩
  obtain ⟨G, Y, w, hG, hY⟩ := wk
  refine for_it w (fun i σ2 H2 => ∃ ρ2 A2 B2, Rel X.K F ρ2 A2 σ2 H2 B2 ∧ Ex B1 B2 ∧ forD g b E (items.drop i) ρ2 A2) ⟨ρ, A1, B1, r1, Ex.refl _, h1⟩ ?_ ?_ ?_
  · rintro i σ2 H2 hi ⟨ρ2, A2, B2, r2, e2, _⟩
    exact hG H2 B2 e2 r2.bh
  · rintro i x σ2 H2 H3 hi ⟨ρ2, A2, B2, r2, e2, hl⟩ y
    obtain ⟨v, B3, hv1, g3, rv⟩ := hY i H2 x H3 B2 hi e2 r2.bh y
    have hdrop : items.drop i = v :: items.drop (i + 1) := by
      obtain ⟨hlt, e⟩ := List.getElem?_eq_some_iff.mp hv1
      rw [List.drop_eq_getElem_cons hlt, e]
    rw [hdrop] at hl
    refine ⟨ρ2, A2, B3, v, _, r2.grow g3, rv, hl, fun ρ' σ' hq r4 c4 => ⟨ρ', A2, B3, _, r4, ?_, hq⟩⟩
    exact ⟨fun ρ5 A5 σ5 H5 B5 r5 e5 h5 => ⟨ρ5, A5, B5, r5, (e2.trans g3.eb).trans e5, h5⟩, fun ρ5 A5 σ5 H5 B5 r5 e5 h5 => k.nx _ _ _ _ _ r5 (((e1.eb.trans e2).trans g3.eb).trans e5) h5,
      fun ρ5 A5 σ5 H5 B5 r5 e5 h5 => ⟨ρ5, A5, B5, r5, (e2.trans g3.eb).trans e5, h5⟩, k.rt⟩
  · rintro σ2 H2 ⟨ρ2, A2, B2, r2, e2, hl⟩
    rw [List.drop_length] at hl
    exact k.nx _ _ _ _ _ r2 (e1.eb.trans e2) hl
/-- x.append(e), x owned -/
def dApp (i : Nat) (d : DE) : DS := fun E ρ A => match ρ[i]? with
  | some (.own t (.lst xs)) => d ρ A fun x A1 => xs.length < 100000 ∧ E.nx (ρ.set i (.own t (.lst (xs ++ [x])))) A1
  | _ => False
theorem sz_lt {n : Nat} (h : n < 100000) : n < sizeLine := Nat.lt_of_lt_of_le h (by decide)
theorem app_lift {K : PySem.W.Frag} {i : Nat} {d : DE} (D : Ends) (σ : L2.St) (H : Hp) (h : liftS K F (dApp i d) D σ H) : tDrop (tBM K "list" rAppend (tVar i) (tCons (liftE K F d) tNil)) D σ H := by
  obtain ⟨ρ, A, B, E, r, k, h⟩ := h
  unfold dApp at h
  split at h
  · next t xs e =>
    obtain ⟨sv, e1, a, o, rfl, h0, hb, ha, q, _⟩ := r.sl i _ e
    cases q with
    | @lst _ ys ry =>
      refine ⟨_, e1, .inl ⟨rfl, ys, sq_of ha⟩, ρ, A, B, _, r, h, fun x A1 v H1 B1 h1 r1 g1 p1 => ?_⟩
      have na : F.pen ≠ some a := fun z => (r.h.pn a z).1 h0
      refine ⟨a, ys, v, rfl, rfl, g1.eh a _ ha na, by rw [ry.length]; exact sz_lt h1.1, ?_⟩
      exact k.nx _ _ _ _ B1 (r1.change e e1 (.lst ((ry.mono g1.eb).append (.cons p1 .nil))) |> fun z => by
        have : σ.set i (some (V.ref a)) = σ := by
          apply List.ext_getElem?
          intro j
          by_cases q : i = j
          · subst q
            rw [List.getElem?_set_self (List.getElem?_eq_some_iff.mp e1).1, e1]
          · rw [List.getElem?_set_ne q]
        exact z) g1.eb h1.2
  · exact h.elim
theorem pds_app (i : Nat) {x : Str} {e : Expr} {d : DE} {p apos cpos pos : Pos} (he : PDE X F e d) (hN : X.N[i]? = some x := by rfl) (hv : Vis X.env.scope x := by first | exact Or.inl rfl | exact Or.inr (Or.inl rfl) | exact Or.inr (Or.inr rfl)) (hd : (x == ("__debug__" : Str)) = false := by decide)
    (hcd : (x == ("__classdict__" : Str)) = false := by decide) (h1 : attributeBase (.Name x p) "append" X.env (eval (.Name x p) X.env) = eval (.Name x p) X.env := by rfl) (h2 : (apos.endLine == cpos.line) = true := by rfl)
    (h3 : starEach [e] X.env = (false, eval e X.env) :: starEach [] X.env := by rfl) (h4 : (backTo cpos (starEach ([] : List Expr) X.env)).any (·.1) = false := by rfl) (h5 : ((backTo cpos (starEach [e] X.env)).all (fun x => !x.1) && (backToKw cpos (keywordEach [] X.env)).all (fun x => x.1.isSome) && decide ([e].length + ([] : List Keyword).length + (if ([] : List Keyword).isEmpty then 0 else 1) < 30)) = true := by rfl) (hs : swapsWith (.Call (.Attribute (.Name x p) "append" apos) [e] [] cpos) none pos.line X.env = pure false := by rfl) :
    PDS X F (.Expr (.Call (.Attribute (.Name x p) "append" apos) [e] [] cpos) pos) (dApp i d) :=
  PS.weak (ps_expr (pe_bm PySem.F.plainAttrs_list PySem.F.slot_list_append PySem.F.type_list_append mt_append (pe_var hN hv hd hcd) (pa_cons he pa_nil h3) h1 h5 h2 h3 h4) hs) app_lift
/-! ### owned lists: an item, a store, a look -/
def dIxO (i : Nat) (d : DE) : DE := fun ρ A q => match ρ[i]? with
  | some (.own _ m) => d ρ A fun y A1 => match y with
    | .int k => ∃ z, atI m.items k = some z ∧ q z A1
    | _ => False
  | _ => False
theorem pd_ixO (i : Nat) {x : Str} {b : Expr} {d : DE} {p pos : Pos} (hb : PDE X F b d) (hs : PlainIx b) (hN : X.N[i]? = some x := by rfl) (hv : Vis X.env.scope x := by first | exact Or.inl rfl | exact Or.inr (Or.inl rfl) | exact Or.inr (Or.inr rfl)) (hd : (x == ("__debug__" : Str)) = false := by decide)
    (hcd : (x == ("__classdict__" : Str)) = false := by decide) : PDE X F (.Subscript (.Name x p) b pos) (dIxO i d) := PE.weak (pe_ix ix_seq (pe_var hN hv hd hcd) hb hs) fun σ H Q ⟨ρ, A, B, q, r, h, k⟩ => by
  unfold dIxO at h
  split at h
  · next t m e =>
    obtain ⟨sv, e1, a, o, rfl, h0, hb, ha, rm, _⟩ := r.sl i _ e
    obtain ⟨ys, rfl, ry⟩ := rm.get
    refine ⟨_, e1, ρ, A, B, _, r, h, fun y A1 v H1 B1 h1 r1 g1 p1 => ?_⟩
    cases y with
    | int n =>
      obtain ⟨z, h2, h3⟩ := h1
      have na : F.pen ≠ some a := fun z => (r.h.pn a z).1 h0
      obtain ⟨w, hw, rw'⟩ := at_reps (ry.mono g1.eb) h2
      exact .inl ⟨a, ys, n, w, rfl, p1.int_inv, sq_of (g1.eh a _ ha na), hw, k z A1 w H1 B1 h3 r1 g1 rw'⟩
    | _ => exact h1.elim
  · exact h.elim
def dSetO (i : Nat) (di dv : DE) : DS := fun E ρ A => match ρ[i]? with
  | some (.own t m) => dv ρ A fun v A1 => di ρ A1 fun y A2 => match y with
    | .int k => ∃ j m', ixN m.items.length k = some j ∧ m.put j v = some m' ∧ E.nx (ρ.set i (.own t m')) A2
    | _ => False
  | _ => False
theorem set_self {σ : L2.St} {i : Nat} {x : Option V} (e : σ[i]? = some x) : σ.set i x = σ := by
  apply List.ext_getElem?
  intro j
  by_cases q : i = j
  · subst q
    rw [List.getElem?_set_self (List.getElem?_eq_some_iff.mp e).1, e]
  · rw [List.getElem?_set_ne q]
theorem pds_setO (i : Nat) {x : Str} {b value : Expr} {di dv : DE} {p tpos pos : Pos} (hi : PDE X F b di) (hvl : PDE X F value dv) (hN : X.N[i]? = some x := by rfl) (hv : Vis X.env.scope x := by first | exact Or.inl rfl | exact Or.inr (Or.inl rfl) | exact Or.inr (Or.inr rfl)) (hd : (x == ("__debug__" : Str)) = false := by decide)
    (hcd : (x == ("__classdict__" : Str)) = false := by decide)
    (ha : ∀ v, assign (.Subscript (.Name x p) b tpos) X.env v = (do
      let ov ← holding [v] (eval (.Name x p) X.env)
      let iv ← holding [v, ov] (eval b X.env)
      standAt tpos
      holding [v, ov, iv] (setItem ov iv v)
      release [v, ov, iv] []) := by intro _; rfl) (hs : swapsWithSole [.Subscript (.Name x p) b tpos] value pos.line X.env = pure false := by rfl) (hw : swappedStores [.Subscript (.Name x p) b tpos] value X.env = pure none := by rfl)
    (h1 : (assignEach [.Subscript (.Name x p) b tpos] X.env).map (·.2) = [assign (.Subscript (.Name x p) b tpos) X.env] := by rfl) : PDS X F (.Assign [.Subscript (.Name x p) b tpos] value pos) (dSetO i di dv) :=
  PS.weak (ps_asg hvl (pg_sub (pe_var hN hv hd hcd) hi set_list ha) hs hw h1) fun D σ H ⟨ρ, A, B, E, r, k, h⟩ => by
    unfold dSetO at h
    split at h
    · next t m e =>
      obtain ⟨sv, e1, a, o, rfl, h0, hb, ha, rm, _⟩ := r.sl i _ e
      obtain ⟨ys, rfl, ry⟩ := rm.get
      have na : F.pen ≠ some a := fun z => (r.h.pn a z).1 h0
      refine ⟨ρ, A, B, _, r, h, fun v A1 u H1 B1 hh1 r1 g1 p1 => ⟨_, e1, ρ, A1, B1, _, r1, hh1, fun y A2 u2 H2 B2 hh2 r2 g2 p2 => ?_⟩⟩
      cases y with
      | int n =>
        obtain ⟨j, m', hj, hp, hn⟩ := hh2
        have h2a := g2.eh a _ (g1.eh a _ ha na) na
        exact ⟨a, ys, n, j, rfl, p2.int_inv, h2a, by rw [ry.length]; exact hj, k.nx _ _ _ _ B2 (r2.change e e1 ((rm.mono (g1.eb.trans g2.eb)).put (p1.mono g2.eb) hp)) (g1.eb.trans g2.eb) hn⟩
      | _ => exact hh2.elim
    · exact h.elim
/-- a look at an owned list: what comes out is no object -/
def D.flat : D → Bool
  | .non => true
  | .bl _ => true
  | .int _ => true
  | .str _ => true
  | .ty _ => true
  | _ => false
theorem Rep.flat {K : PySem.W.Frag} {B B' : Hp} {v : V} {d : D} (h : Rep K B v d) (f : d.flat = true) : Rep K B' v d := by
  cases h <;> first | exact .non | exact .bl | exact .int | exact .str | exact .ty | (cases f)
def dLook (i : Nat) (d : DE) : DE := fun ρ A q => d (frz ρ i) A fun x A1 => x.flat = true ∧ q x A1
def dLookT (i : Nat) (d : DT) : DT := fun ρ A q => d (frz ρ i) A q
theorem unshare {K : PySem.W.Frag} {ρ : En} {A A1 : Nat} {σ : L2.St} {H B H1 B1 B' : Hp} {i : Nat} {t : Option Addr} {m : MO} (r : Rel K F ρ A σ H B) (e : ρ[i]? = some (.own t m)) (eb : Ex B B') (hB : ∀ a, σ[i]? ≠ some (some (.ref a)) → H a ≠ none → B' a = B a) (r1 : Rel K F (ρ.set i (.sh m.d)) A1 σ H1 B1) (g : Gr F.pen H B' H1 B1) :
    ∃ B2, Rel K F ρ A1 σ H1 B2 ∧ Gr F.pen H B H1 B2 := by
  obtain ⟨sv, e1, a, o, rfl, h0, hb, ha, q, _⟩ := r.sl i _ e
  have gr : Gr F.pen H B H1 (fun b => if b = a then none else B1 b) := by
    refine ⟨g.eh, g.al, fun b u hu => ?_, fun b hb' => ?_, fun b u hu => ?_⟩
    · have : b ≠ a := fun z => by rw [z, hb] at hu; cases hu
      show (if b = a then none else B1 b) = some u
      rw [if_neg this]; exact g.eb b u (eb b u hu)
    · show (if b = a then none else B1 b) = B b
      by_cases z : b = a
      · rw [if_pos z, z, hb]
      · rw [if_neg z, g.bn b hb']
        exact hB b (fun y => z (by rw [e1] at y; simpa using y.symm)) hb'
    · have hu' : (if b = a then none else B1 b) = some u := hu
      by_cases z : b = a
      · rw [if_pos z] at hu'; cases hu'
      · rw [if_neg z] at hu'; exact g.bh b u hu'
  exact ⟨_, r.turned gr fun p hp => by
    obtain ⟨z1, z2, z3⟩ := r1.h.pn p hp
    obtain ⟨ns, t, gg, y1, y2, y3⟩ := z3
    have hc : F.cl ≠ a := fun z => by
      obtain ⟨_, _, ns', t', g', w1, w2, _⟩ := r.h.pn p hp
      rw [z, hb] at w2; cases w2
    exact ⟨ns, t, gg, y1, by show (if F.cl = a then none else B1 F.cl) = _; rw [if_neg hc]; exact y2, y3⟩, gr⟩
theorem share_at {K : PySem.W.Frag} {ρ : En} {A : Nat} {σ : L2.St} {H B : Hp} {i : Nat} {t : Option Addr} {m : MO} (r : Rel K F ρ A σ H B) (e : ρ[i]? = some (.own t m)) : ∃ B', Rel K F (ρ.set i (.sh m.d)) A σ H B' ∧ Ex B B' ∧ ∀ a, σ[i]? ≠ some (some (.ref a)) → H a ≠ none → B' a = B a := by
  obtain ⟨sv, e1, a, o, rfl, h0, hb, ha, q, _⟩ := r.sl i _ e
  have eb : Ex B (upd B a o) := Ex.new hb
  refine ⟨upd B a o, ?_, eb, fun b hn _ => upd_ne fun z => hn (by rw [e1, z])⟩
  have r' : Rel K F (ρ.set i .no) A (σ.set i (some (.ref a))) H B := r.setNo
  rw [set_self e1] at r'
  have r2 : Rel K F (ρ.set i .no) A σ H (upd B a o) := r'.known ha h0 hb (fun j t' m' ej z => by
    rcases get_set ej with ⟨_, y, _⟩ | ⟨hj, ej⟩
    · cases y
    · exact r.dj j i t' t m' m hj ej e (by rw [z, e1]))
  have r3 := r2.setSh (i := i) (v := .ref a) (d := m.d) ((q.mono eb).rep upd_same)
  rw [set_self e1, List.set_set] at r3
  exact r3
theorem look_lift {K : PySem.W.Frag} {i : Nat} {d : DE} (σ : L2.St) (H : Hp) (Q : VK) (h : liftE K F (dLook i d) σ H Q) : liftE K F d σ H Q := by
  obtain ⟨ρ, A, B, q, r, hd, k⟩ := h
  unfold dLook frz at hd
  split at hd
  · next t m e =>
    obtain ⟨B', r', eb, hB⟩ := share_at r e
    refine ⟨_, A, B', _, r', hd, fun x A1 v H1 B1 hx r1 g1 p1 => ?_⟩
    obtain ⟨B2, r2, g2⟩ := unshare r e eb hB r1 g1
    exact k x A1 v H1 B2 hx.2 r2 g2 (p1.flat hx.1)
  · exact ⟨ρ, A, B, _, r, hd, fun x A1 v H1 B1 hx r1 g1 p1 => k x A1 v H1 B1 hx.2 r1 g1 p1⟩
theorem lookT_lift {K : PySem.W.Frag} {i : Nat} {d : DT} (σ : L2.St) (H : Hp) (Q : Bool → Hp → Prop) (h : liftT K F (dLookT i d) σ H Q) : liftT K F d σ H Q := by
  obtain ⟨ρ, A, B, q, r, hd, k⟩ := h
  unfold dLookT frz at hd
  split at hd
  · next t m e =>
    obtain ⟨B', r', eb, hB⟩ := share_at r e
    refine ⟨_, A, B', _, r', hd, fun x A1 H1 B1 hx r1 g1 => ?_⟩
    obtain ⟨B2, r2, g2⟩ := unshare r e eb hB r1 g1
    exact k x A1 H1 B2 hx r2 g2
  · exact ⟨ρ, A, B, _, r, hd, fun x A1 H1 B1 hx r1 g1 => k x A1 H1 B1 hx r1 g1⟩
theorem pd_look (i : Nat) {e : Expr} {d : DE} (h : PDE X F e d) : PDE X F e (dLook i d) := PE.weak h look_lift
theorem pdt_look (i : Nat) {e : Expr} {d : DT} (h : PDT X F e d) : PDT X F e (dLookT i d) := PT.weak h lookT_lift
end
end Y
set_option Elab.async false
set_option linter.all false
set_option maxRecDepth 100000
set_option maxHeartbeats 4000000
set_option autoImplicit false
namespace Y
open PySem PySem.Spec PyProof.Rows L2

/-! ### promises over data -/
abbrev Ph := List D → (R → Prop) → Prop
def spP (K : PySem.W.Frag) (Φ : Ph) : Sp := fun vs H Q _ => ∃ ds B q, Ex B H ∧ Reps K B vs ds ∧ Φ ds q ∧ ∀ r v H' B', q r → Gr none H B H' B' → RetOk K H r v H' B' → Q v H'
/-- .. of a def that draws from the pen -/
abbrev PhD := Addr → List D → Nat → (R → Nat → Prop) → Prop
def spD (K : PySem.W.Frag) (Φ : PhD) : Sp := fun vs H Q _ => ∃ p c ds A B q, Ex B H ∧ B p = none ∧ PenAt K p c A H B ∧ Reps K B vs ds ∧ Φ p ds A q ∧
  ∀ r A' v H' B', q r A' → Gr (some p) H B H' B' → PenAt K p c A' H' B' → RetOk K H r v H' B' → Q v H'
def startD (N : List Str) (ds : List D) : En := ds.map Sl.sh ++ List.replicate (N.length - ds.length) .no

theorem rel_start {K : PySem.W.Frag} {F : Fx} {N ps : List Str} {vs : List V} {ds : List D} {A : Nat} (h : RelH K F A F.H0 F.B0) (r : Reps K F.B0 vs ds) (hl : vs.length ≤ N.length) : Rel K F (startD N ds) A (L2.start N vs) F.H0 F.B0 := by
  have hlen := r.length
  refine ⟨h, by simp [startD, L2.start, hlen], fun i s e => ?_, fun i j t t' m m' _ e _ => ?_⟩
  · unfold startD at e
    unfold L2.start
    by_cases hi : i < ds.length
    · rw [List.getElem?_append_left (by simpa using hi), List.getElem?_map] at e
      rw [List.getElem?_append_left (by simpa [hlen] using hi), List.getElem?_map]
      cases q : ds[i]? with
      | none => rw [q] at e; cases e
      | some d =>
        rw [q] at e
        obtain ⟨v, h1, h2⟩ := r.get' q
        rw [h1]
        cases e
        exact ⟨some v, rfl, v, rfl, h2⟩
    · have hi' : ds.length ≤ i := by omega
      rw [List.getElem?_append_right (by simpa using hi')] at e
      rw [List.getElem?_append_right (by simpa [hlen] using hi')]
      obtain ⟨h1, h2⟩ := List.getElem?_eq_some_iff.mp e
      simp at h1 h2
      refine ⟨none, ?_, by rw [← h2]; trivial⟩
      rw [List.getElem?_replicate, if_pos (by simp [hlen]; omega)]
  · unfold startD at e
    rcases List.mem_append.mp (List.mem_of_getElem? e) with z | z
    · obtain ⟨d, _, h⟩ := List.mem_map.mp z
      cases h
    · have := List.eq_of_mem_replicate z
      cases this

section
variable {P : Program} {w : World} {K : PySem.W.Frag} {mg : Str → Option Value} {base : Heap} {x qual : Str} {params : Arguments} {body : List Stmt} {scope : Scope} {dvs : List V} {kws : List (Str × V)} {f : Addr} {fd : FuncData} {N ps : List Str} {k : Nat}
/-- the body of a def as it is walked -/
def Der (P : Program) (w : World) (K : PySem.W.Frag) (mg : Str → Option Value) (base : Heap) (N : List Str) (qual : Str) (body : List Stmt) (scope : Scope) (k : Nat) (f : Addr) (d : DS) : Prop :=
  ∀ (F : Fx) (cdv : Value) (A : Around) (outer : List Env) (s : Shared) (H : Hp) (E : XK), Room k (A.deeper (envOfC qual scope s.heap.objs.size f cdv)) → PDSs (cxOf CX0 P w K mg base N qual scope f cdv A outer s H E).nox F body d
/-- .. of one that draws: p is its pen -/
def DerD (P : Program) (w : World) (K : PySem.W.Frag) (mg : Str → Option Value) (base : Heap) (N : List Str) (qual : Str) (body : List Stmt) (scope : Scope) (k : Nat) (f : Addr) (d : Addr → DS) : Prop :=
  ∀ (F : Fx) (p : Addr) (cdv : Value) (A : Around) (outer : List Env) (s : Shared) (H : Hp) (E : XK), F.pen = some p → Room k (A.deeper (envOfC qual scope s.heap.objs.size f cdv)) → PDSs (cxOf CX0 P w K mg base N qual scope f cdv A outer s H E).nox F body (d p)
theorem fn_pure (FD : FunD K x qual params body scope dvs kws f fd) (S : FnScope N ps scope) {Φ : Ph} (len : ∀ ds q, Φ ds q → ds.length = ps.length) {d : DS} (der : Der P w K mg base N qual body scope k f d)
    (pure : ∀ ds q, Φ ds q → d { nx := fun _ _ => q (.sh .non), rt := fun r _ _ => q r } (startD N ds) 0) : FnOk P w K mg base CX0 (k + 1) f fd ps (spP K Φ) := by
  refine FD.ok S (fun vs H Q E h => ?_) (fun cdv A outer s H vs Q E hr h => ?_)
  · obtain ⟨ds, B, q, _, r, hΦ, _⟩ := h
    exact r.length.trans (len ds q hΦ)
  · obtain ⟨ds, B, q, e, r, hΦ, fin⟩ := h
    have hl : vs.length ≤ N.length := by
      rw [r.length, len ds q hΦ]
      have := congrArg List.length S.pre; rw [List.length_take] at this; omega
    refine ⟨liftS K ⟨none, H, B, 0⟩ d, PSs.nox (der ⟨none, H, B, 0⟩ cdv A outer s H E hr), ?_⟩
    have rh : RelH K ⟨none, H, B, 0⟩ 0 H B := ⟨Gr.refl e, fun p hp => nomatch hp⟩
    refine ⟨startD N ds, 0, B, { nx := fun _ _ => q (.sh .non), rt := fun r _ _ => q r }, rel_start (F := ⟨none, H, B, 0⟩) (ps := ps) rh r hl, ⟨fun ρ A σ H' B' r' _ h' => ?_, fun _ _ _ _ _ _ _ h' => False.elim h', fun _ _ _ _ _ _ _ h' => False.elim h', fun r ρ A σ v H' B' r' ro h' => ?_⟩, pure ds q hΦ⟩
    · exact fin _ .non H' B' h' r'.h.gr Rep.non
    · exact fin r v H' B' h' r'.h.gr ro
theorem fn_draw (FD : FunD K x qual params body scope dvs kws f fd) (S : FnScope N ps scope) {Φ : PhD} (len : ∀ p ds A q, Φ p ds A q → ds.length = ps.length) {d : Addr → DS} (der : DerD P w K mg base N qual body scope k f d)
    (pure : ∀ p ds A q, Φ p ds A q → d p { nx := fun _ A' => q (.sh .non) A', rt := fun r _ A' => q r A' } (startD N ds) A) : FnOk P w K mg base CX0 (k + 1) f fd ps (spD K Φ) := by
  refine FD.ok S (fun vs H Q E h => ?_) (fun cdv A outer s H vs Q E hr h => ?_)
  · obtain ⟨p, c, ds, A, B, q, _, _, _, r, hΦ, _⟩ := h
    exact r.length.trans (len p ds A q hΦ)
  · obtain ⟨p, c, ds, n, B, q, e, hbp, hpen, r, hΦ, fin⟩ := h
    have hl : vs.length ≤ N.length := by
      rw [r.length, len p ds n q hΦ]
      have := congrArg List.length S.pre; rw [List.length_take] at this; omega
    refine ⟨liftS K ⟨some p, H, B, c⟩ (d p), PSs.nox (der ⟨some p, H, B, c⟩ p cdv A outer s H E rfl hr), ?_⟩
    have rh : RelH K ⟨some p, H, B, c⟩ n H B := ⟨Gr.refl e, fun p' hp => by
      cases hp
      refine ⟨?_, hbp, hpen⟩
      obtain ⟨ns, t, g, h1, _⟩ := hpen
      show H p ≠ none
      rw [h1]; simp⟩
    refine ⟨startD N ds, n, B, { nx := fun _ A' => q (.sh .non) A', rt := fun r _ A' => q r A' }, rel_start (F := ⟨some p, H, B, c⟩) (ps := ps) rh r hl, ⟨fun ρ A σ H' B' r' _ h' => ?_, fun _ _ _ _ _ _ _ h' => False.elim h', fun _ _ _ _ _ _ _ h' => False.elim h', fun r ρ A σ v H' B' r' ro h' => ?_⟩, pure p ds n q hΦ⟩
    · exact fin _ A .non H' B' h' r'.h.gr (r'.h.pn p rfl).2.2 Rep.non
    · exact fin r A v H' B' h' r'.h.gr (r'.h.pn p rfl).2.2 ro
end

/-! ### calls -/
section
variable {X : Cx} {F : Fx}
def dCall (Φ : Ph) (dfl : List D) (da : DA) : DE := fun ρ A q => da ρ A fun ds A1 => Φ (ds ++ dfl) fun r => q r.d A1
def dCallL (Φ : Ph) (dfl : List D) (da : DA) : DL := fun ρ A q => da ρ A fun ds A1 => Φ (ds ++ dfl) fun r => match r with
  | .own (.lst xs) => q xs A1
  | _ => False
theorem ret_sh {K : PySem.W.Frag} {p : Option Addr} {H B H' B' : Hp} {r : R} {v : V} (g : Gr p H B H' B') (h : RetOk K H r v H' B') : ∃ B2, Gr p H B H' B2 ∧ Ex B' B2 ∧ (∀ a, H a ≠ none → B2 a = B' a) ∧ Rep K B2 v r.d := by
  cases r with
  | sh d => exact ⟨B', g, Ex.refl _, fun _ _ => rfl, h⟩
  | own m =>
    obtain ⟨a, o, rfl, hn, hb, ha, q⟩ := h
    exact ⟨upd B' a o, g.known ha hb hn, Ex.new hb, fun b hb' => upd_ne fun z => hb' (z ▸ hn), (q.mono (Ex.new hb)).rep upd_same⟩
theorem spP_of {K : PySem.W.Frag} {Φ : Ph} {dvs vs : List V} {dfl ds : List D} {A1 : Nat} {q : D → Nat → Prop} {ρ : En} {σ : L2.St} {H1 B1 : Hp} {Q : VK} {E : XK} (hd : ∀ B, Reps K B dvs dfl) (p1 : Reps K B1 vs ds) (r1 : Rel K F ρ A1 σ H1 B1)
    (h1 : Φ (ds ++ dfl) fun r => q r.d A1) (k : ∀ x v H' B', q x A1 → Rel K F ρ A1 σ H' B' → Gr F.pen H1 B1 H' B' → Rep K B' v x → Q v H') : spP K Φ (vs ++ dvs) H1 Q E :=
  ⟨ds ++ dfl, B1, _, r1.bh, p1.append (hd B1), h1, fun r v H' B' hq g ro => by
    obtain ⟨B2, g2, _, _, rp⟩ := ret_sh g ro
    exact k _ v H' B2 hq (r1.grow g2) g2.weak rp⟩
theorem pd_call {e : Expr} {es : List Expr} {x : Str} {p pos : Pos} {f : Addr} {fd : FuncData} {ps : List Str} {kk : Nat} {Φ : Ph} {dvs : List V} {dss : List Value} {dfl : List D} {da : DA} (G : FnOk X.prog X.w X.K X.mg X.base CX0 kk f fd ps (spP X.K Φ)) (hr : Room kk X.A) (hg : Gl X x) (hm : X.mg x = some (.ref f)) (hk : PySem.W.keepIn X.K (.ref f) = true)
    (hb : Binds X.K fd ps dss) (hd : Vals dvs dss) (hdd : ∀ B, Reps X.K B dvs dfl) (ha : PDA X F (e :: es) da) (hdb : (x == ("__debug__" : Str)) = false := by decide) (he : starEach (e :: es) X.env = (false, eval e X.env) :: starEach es X.env := by rfl) (hpl : (backTo pos (starEach es X.env)).any (·.1) = false := by rfl) :
    PDE X F (.Call (.Name x p) (e :: es) [] pos) (dCall Φ dfl da) := PE.weak (pe_call G hr hg hm hk hb hd pass0 ha hdb he hpl) fun σ H Q ⟨ρ, A, B, q, rl, hq, k⟩ =>
  ⟨ρ, A, B, _, rl, hq, fun ds A1 vs H1 B1 h1 r1 e1 p1 => spP_of hdd p1 r1 h1 fun x v H' B' hx r' g' rp => k x A1 v H' B' hx r' (e1.trans g') rp⟩
theorem pd_call0 {x : Str} {p pos : Pos} {f : Addr} {fd : FuncData} {ps : List Str} {kk : Nat} {Φ : Ph} {dvs : List V} {dss : List Value} {dfl : List D} (G : FnOk X.prog X.w X.K X.mg X.base CX0 kk f fd ps (spP X.K Φ)) (hr : Room kk X.A) (hg : Gl X x) (hm : X.mg x = some (.ref f)) (hk : PySem.W.keepIn X.K (.ref f) = true)
    (hb : Binds X.K fd ps dss) (hd : Vals dvs dss) (hdd : ∀ B, Reps X.K B dvs dfl) (hdb : (x == ("__debug__" : Str)) = false := by decide) : PDE X F (.Call (.Name x p) [] [] pos) (dCall Φ dfl dNil) := PE.weak (pe_call0 G hr hg hm hk hb hd pass0 hdb) fun σ H Q ⟨ρ, A, B, q, rl, hq, k⟩ =>
  spP_of (E := E0) (vs := []) (ds := []) hdd .nil rl hq fun x v H' B' hx r' g' rp => k x A v H' B' hx r' g' rp
theorem pdl_call {e : Expr} {es : List Expr} {x : Str} {p pos : Pos} {f : Addr} {fd : FuncData} {ps : List Str} {kk : Nat} {Φ : Ph} {dvs : List V} {dss : List Value} {dfl : List D} {da : DA} (G : FnOk X.prog X.w X.K X.mg X.base CX0 kk f fd ps (spP X.K Φ)) (hr : Room kk X.A) (hg : Gl X x) (hm : X.mg x = some (.ref f)) (hk : PySem.W.keepIn X.K (.ref f) = true)
    (hb : Binds X.K fd ps dss) (hd : Vals dvs dss) (hdd : ∀ B, Reps X.K B dvs dfl) (ha : PDA X F (e :: es) da) (hdb : (x == ("__debug__" : Str)) = false := by decide) (he : starEach (e :: es) X.env = (false, eval e X.env) :: starEach es X.env := by rfl) (hpl : (backTo pos (starEach es X.env)).any (·.1) = false := by rfl) :
    PDL X F (.Call (.Name x p) (e :: es) [] pos) (dCallL Φ dfl da) := PE.weak (pe_call G hr hg hm hk hb hd pass0 ha hdb he hpl) fun σ H Q ⟨ρ, A, B, q, rl, hq, k⟩ =>
  ⟨ρ, A, B, _, rl, hq, fun ds A1 vs H1 B1 h1 r1 e1 p1 => ⟨ds ++ dfl, B1, _, r1.bh, p1.append (hdd B1), h1, fun r v H' B' hq g ro => by
    cases r with
    | sh d => exact hq.elim
    | own m =>
      cases m with
      | lst xs =>
        obtain ⟨a, o, rfl, hn, hb, ha, rm⟩ := ro
        cases rm with
        | @lst _ ys rs => exact k xs A1 a ys H' B' hq (r1.grow g) (e1.trans g.weak) ha (e1.back hn) hb rs
      | pen _ _ _ _ => exact hq.elim⟩⟩
/-- f(.., k = v, ..) -/
def dCallN (n m : Nat) (Φ : Ph) (gD : List D → List D → List D) (da dk : DA) : DE := fun ρ A q => da ρ A fun ds A1 => dk ρ A1 fun zs A2 => ds.length = n ∧ zs.length = m ∧ Φ (gD ds zs) fun r => q r.d A2
def PDK (X : Cx) (F : Fx) (kws : List Keyword) (d : DA) : Prop := PK X kws (liftA X.K F d)
theorem PK.weak {e : List Keyword} {t t' : TA} (h : PK X e t) (w : ∀ σ H Q, t' σ H Q → t σ H Q) : PK X e t' := ⟨fun p pins s σ H Q I q => h.run p pins s σ H Q I (w σ H Q q)⟩
theorem pdk_nil : PDK X F [] dNil := PK.weak pk_nil fun σ H Q ⟨ρ, A, B, q, rl, hd, k⟩ => k [] A [] H B hd rl (Gr.refl rl.bh) .nil
theorem pdk_cons {nm : Option Str} {e : Expr} {kpos : Pos} {kws : List Keyword} {a : DE} {r : DA} (ha : PDE X F e a) (hr : PDK X F kws r) : PDK X F (⟨nm, e, kpos⟩ :: kws) (dCons a r) :=
  PK.weak (pk_cons ha hr) fun σ H Q ⟨ρ, A, B, q, rl, hd, k⟩ => ⟨ρ, A, B, _, rl, hd, fun x A1 v H1 B1 h1 r1 e1 p1 => ⟨ρ, A1, B1, _, r1, h1, fun xs A2 vs H2 B2 h2 r2 e2 p2 => k _ A2 _ H2 B2 h2 r2 (e1.trans e2) (.cons (p1.mono e2.eb) p2)⟩⟩
theorem pd_callN {e : Expr} {es : List Expr} {kws : List Keyword} {x : Str} {p pos : Pos} {f : Addr} {fd : FuncData} {ps ks : List Str} {kk n : Nat} {Φ : Ph} {g : List Value → List Value → List Value} {gV : List V → List V → List V} {gD : List D → List D → List D} {da dk : DA} (G : FnOk X.prog X.w X.K X.mg X.base CX0 kk f fd ps (spP X.K Φ)) (hr : Room kk X.A) (hg : Gl X x) (hm : X.mg x = some (.ref f)) (hk : PySem.W.keepIn X.K (.ref f) = true)
    (hb : KBn X.K fd ps n ks g gV) (hgd : ∀ B vs ds zs es, Reps X.K B vs ds → Reps X.K B zs es → Reps X.K B (gV vs zs) (gD ds es)) (ha : PDA X F (e :: es) da) (hkw : PDK X F kws dk) (hall : (backToKw pos (keywordEach kws X.env)).all (·.1.isSome) = true := by rfl) (hks : (backToKw pos (keywordEach kws X.env)).filterMap (·.1) = ks := by rfl)
    (hdb : (x == ("__debug__" : Str)) = false := by decide) (he : starEach (e :: es) X.env = (false, eval e X.env) :: starEach es X.env := by rfl)
    (hpl : ((backTo pos (starEach (e :: es) X.env)).any (·.1) || (backToKw pos (keywordEach kws X.env)).any (·.1.isNone)) = false := by rfl) :
    PDE X F (.Call (.Name x p) (e :: es) kws pos) (dCallN n ks.length Φ gD da dk) := PE.weak (pe_callN G hr hg hm hk hb pass0 ha hkw hall hks hdb he hpl) fun σ H Q ⟨ρ, A, B, q, rl, hq, k⟩ =>
  ⟨ρ, A, B, _, rl, hq, fun ds A1 vs H1 B1 h1 r1 e1 p1 => ⟨ρ, A1, B1, _, r1, h1, fun zs A2 ws H2 B2 h2 r2 e2 p2 => ⟨p1.length.trans h2.1, p2.length.trans h2.2.1, by
    have z := spP_of (Q := Q) (E := E0) (dvs := []) (dfl := []) (vs := gV vs ws) (ds := gD ds zs) (q := fun x _ => q x A2) (A1 := A2) (Φ := Φ) (fun _ => .nil) (hgd B2 vs ds ws zs (p1.mono e2.eb) p2) r2 (by rw [List.append_nil]; exact h2.2.2) fun x v H' B' hx r' g' rp => k x A2 v H' B' hx r' ((e1.trans e2).trans g') rp
    rw [List.append_nil] at z
    exact z⟩⟩⟩
/-- a call of a def that draws -/
def dDraw (p : Addr) (Φ : PhD) (da : DA) : DE := fun ρ A q => da ρ A fun ds A1 => Φ p ds A1 fun r A2 => q r.d A2
theorem RetOk.pen {K : PySem.W.Frag} {H : Hp} {r : R} {v : V} {H' B' : Hp} (h : RetOk K H r v H' B') {p : Addr} {B : Hp} (hp : H p ≠ none) (g : Gr (some p) H B H' B') : ∃ B2, Gr (some p) H B H' B2 ∧ Ex B' B2 ∧ Rep K B2 v r.d :=
  let ⟨B2, g2, e, _, rp⟩ := ret_sh g h
  ⟨B2, g2, e, rp⟩
theorem pd_draw {e : Expr} {es : List Expr} {x : Str} {pp pos : Pos} {f : Addr} {fd : FuncData} {ps : List Str} {kk : Nat} {p : Addr} {Φ : PhD} {da : DA} (hF : F.pen = some p) (G : FnOk X.prog X.w X.K X.mg X.base CX0 kk f fd ps (spD X.K Φ)) (hr : Room kk X.A) (hg : Gl X x) (hm : X.mg x = some (.ref f)) (hk : PySem.W.keepIn X.K (.ref f) = true)
    (hb : Binds X.K fd ps []) (ha : PDA X F (e :: es) da) (hdb : (x == ("__debug__" : Str)) = false := by decide) (he : starEach (e :: es) X.env = (false, eval e X.env) :: starEach es X.env := by rfl) (hpl : (backTo pos (starEach es X.env)).any (·.1) = false := by rfl) :
    PDE X F (.Call (.Name x pp) (e :: es) [] pos) (dDraw p Φ da) := PE.weak (pe_call G hr hg hm hk hb .nil pass0 ha hdb he hpl) fun σ H Q ⟨ρ, A, B, q, rl, hq, k⟩ =>
  ⟨ρ, A, B, _, rl, hq, fun ds A1 vs H1 B1 h1 r1 e1 p1 => by
    obtain ⟨h0, hbp, hpen⟩ := r1.h.pn p hF
    refine ⟨p, F.cl, ds, A1, B1, _, r1.bh, hbp, hpen, by rw [List.append_nil]; exact p1, h1, fun r A' v H' B' hq g hp' ro => ?_⟩
    obtain ⟨B2, g2, e2, rp⟩ := ro.pen (r1.h.gr.al p h0) g
    have gF : Gr F.pen H1 B1 H' B2 := by rw [hF]; exact g2
    exact k r.d A' v H' B2 hq (r1.turned gF fun p' z => by
      rw [hF] at z; cases z
      exact hp'.mono rfl e2) (e1.trans gF) rp⟩
def dDrawL (p : Addr) (Φ : PhD) (da : DA) : DL := fun ρ A q => da ρ A fun ds A1 => Φ p ds A1 fun r A2 => match r with
  | .own (.lst xs) => q xs A2
  | _ => False
theorem pdl_draw {e : Expr} {es : List Expr} {x : Str} {pp pos : Pos} {f : Addr} {fd : FuncData} {ps : List Str} {kk : Nat} {p : Addr} {Φ : PhD} {da : DA} (hF : F.pen = some p) (G : FnOk X.prog X.w X.K X.mg X.base CX0 kk f fd ps (spD X.K Φ)) (hr : Room kk X.A) (hg : Gl X x) (hm : X.mg x = some (.ref f)) (hk : PySem.W.keepIn X.K (.ref f) = true)
    (hb : Binds X.K fd ps []) (ha : PDA X F (e :: es) da) (hdb : (x == ("__debug__" : Str)) = false := by decide) (he : starEach (e :: es) X.env = (false, eval e X.env) :: starEach es X.env := by rfl) (hpl : (backTo pos (starEach es X.env)).any (·.1) = false := by rfl) :
    PDL X F (.Call (.Name x pp) (e :: es) [] pos) (dDrawL p Φ da) := PE.weak (pe_call G hr hg hm hk hb .nil pass0 ha hdb he hpl) fun σ H Q ⟨ρ, A, B, q, rl, hq, k⟩ =>
  ⟨ρ, A, B, _, rl, hq, fun ds A1 vs H1 B1 h1 r1 e1 p1 => by
    obtain ⟨h0, hbp, hpen⟩ := r1.h.pn p hF
    refine ⟨p, F.cl, ds, A1, B1, _, r1.bh, hbp, hpen, by rw [List.append_nil]; exact p1, h1, fun r A' v H' B' hq g hp' ro => ?_⟩
    cases r with
    | sh d => exact hq.elim
    | own m =>
      cases m with
      | lst xs =>
        obtain ⟨a, o, rfl, hn, hb, ha, rm⟩ := ro
        cases rm with
        | @lst _ ys rs =>
          have gF : Gr F.pen H1 B1 H' B' := by rw [hF]; exact g
          exact k xs A' a ys H' B' hq (r1.turned gF fun p' z => by
            rw [hF] at z; cases z
            exact hp') (e1.trans gF) ha (e1.back hn) hb rs
      | pen _ _ _ _ => exact hq.elim⟩
end
end Y
set_option Elab.async false
set_option linter.all false
set_option maxRecDepth 100000
set_option maxHeartbeats 4000000
set_option autoImplicit false
namespace Y
open PySem PySem.Spec PyProof.Rows L2

/-! ### isinstance, repr, str, list() -/
def D.tn : D → Option String
  | .non => some "NoneType"
  | .bl _ => some "bool"
  | .int _ => some "int"
  | .str _ => some "str"
  | .lst _ => some "list"
  | .tup _ => some "tuple"
  | _ => none
theorem tyx_tup {K : PySem.W.Frag} {H : Hp} {a : Addr} {xs : List V} (h : SqT K H a xs) : TyX K H (.ref a) (.type "tuple") := by
  rcases h with (h | ⟨o, h⟩) | ⟨o, its, n, h, c, _⟩
  · exact .base (.tup h)
  · exact .fTuple h
  · exact .kTuple h c
theorem Rep.tyx {K : PySem.W.Frag} {B H : Hp} {v : V} {d : D} {T : String} (h : Rep K B v d) (e : Ex B H) (t : d.tn = some T) : TyX K H v (.type T) := by
  cases h with
  | non => cases t; exact .base .non
  | bl => cases t; exact .base (.bl _)
  | int => cases t; exact .base (.int _)
  | str => cases t; exact .base (.str _)
  | lst h r => cases t; exact .base (.lst (e _ _ h))
  | tup h r => cases t; exact tyx_tup (ex_t e h)
  | ref => cases t
  | ty => cases t
  | obj h r => cases t
def kIsi (xs : List D) (q : D → Prop) : Prop := match xs with
  | [x, .ty n] => match x.tn with
    | some T => match kitB T n with
      | some b => q (.bl b)
      | none => False
    | none => False
  | _ => False
theorem oIsi {K : PySem.W.Frag} : CallD K (rIsi K) kIsi := fun xs vs H B q Q rs e hd k => by
  unfold kIsi at hd
  split at hd
  · next x n =>
    obtain ⟨v, w, rfl, rv, rw'⟩ := reps2 rs
    obtain rfl := rw'.ty_inv
    split at hd
    · next T ht =>
      split at hd
      · next b hb => exact ⟨v, .ty n, _, _, b, rfl, .ty n, rv.tyx e ht, kit_ty hb, k _ _ H B hd (Gr.refl e) .bl⟩
      · exact hd.elim
    · exact hd.elim
  · exact hd.elim
def kReprI (xs : List D) (q : D → Prop) : Prop := match xs with
  | [.int i] => i.natAbs.log2 < 1920 ∧ q (.str (toString i))
  | _ => False
theorem oReprI {K : PySem.W.Frag} : CallD K (fun xs H Q => ∃ i : Int, xs = [.int i] ∧ i.natAbs.log2 < 1920 ∧ Q (.str (toString i)) H) kReprI := fun xs vs H B q Q rs e hd k => by
  unfold kReprI at hd
  split at hd
  · obtain ⟨v, rfl, rv⟩ := reps1 rs
    obtain rfl := rv.int_inv
    exact ⟨_, rfl, hd.1, k _ _ H B hd.2 (Gr.refl e) .str⟩
  · exact hd.elim
section
variable {X : Cx} {F : Fx}
theorem pdl_list {e : Expr} {x : Str} {p pos : Pos} {da : DA} (hg : Gl X x) (hm : X.mg x = none) (hv : bootBuiltins x = some (.type "list")) (ha : PDA X F [e] da)
    (hn : x ≠ "__name__" := by decide) (hdb : (x == ("__debug__" : Str)) = false := by decide) (he : starEach [e] X.env = (false, eval e X.env) :: starEach [] X.env := by rfl) (hpl : (backTo pos (starEach ([] : List Expr) X.env)).any (·.1) = false := by rfl) : PDL X F (.Call (.Name x p) [e] [] pos) (dList da) :=
  PE.weak (pe_callTy call_list_of hg hm hv ha hn hdb he hpl) fun σ H Q ⟨ρ, A, B, q, rl, hd, k⟩ => ⟨ρ, A, B, _, rl, hd, fun xs A1 vs H1 B1 h1 r1 e1 p1 => by
    have main : ∀ {a : Addr} {ys : List V} {ds : List D}, (SqL X.K H1 a ys ∨ SqT X.K H1 a ys) → Reps X.K B1 ys ds → q ds A1 → ∃ p zs, [V.ref a] = [.ref p] ∧ (SqL X.K H1 p zs ∨ SqT X.K H1 p zs) ∧ ∀ l, H1 l = none → Q (.ref l) (upd H1 l (.lst zs)) := fun {a ys ds} hs r hq =>
      ⟨a, ys, rfl, hs, fun l hl => k ds A1 l ys _ B1 hq (r1.grow (Gr.laid r1.bh hl)) (e1.trans (Gr.laid r1.bh hl)) upd_same (e1.back hl) (b_none r1.bh hl) r⟩
    split at h1
    · obtain ⟨v, rfl, rv⟩ := reps1 p1
      obtain ⟨p, ys, rfl, hp, py⟩ := rv.lst_inv
      exact main (.inl (sq_of (r1.bh _ _ hp))) py h1
    · obtain ⟨v, rfl, rv⟩ := reps1 p1
      obtain ⟨p, ys, rfl, hp, py⟩ := rv.tup_inv
      exact main (.inr (ex_t r1.bh hp)) py h1
    · exact h1.elim⟩
end

/-! ### the pen -/
def phDraw (lim : Nat) : PhD := fun p ds A q => ∃ n : Int, ds = [.ref p, .int n] ∧ (0 < n ∧ n < 18446744073709551616) ∧ A < lim ∧ ∀ k : Int, 0 ≤ k → k < n → q (.sh (.int k)) (A + 1)
section
variable {P : Program} {w : World} {K : PySem.W.Frag} {mg : Str → Option Value} {base : Heap} {x qual : Str} {params : Arguments} {body : List Stmt} {scope : Scope} {dvs : List V} {kws : List (Str × V)} {f : Addr} {fd : FuncData} {N ps : List Str} {k : Nat}
theorem fn_pen (lim : Nat) (FD : FunD K x qual params body scope dvs kws f fd) (S : FnScope N ps scope) (hps : ps.length = 2) {d : DS} (der : Der P w K mg base N qual body scope k f d)
    (pure : ∀ (ns : List Int) (c g n : Int) (A : Nat) (p cl : Addr), ns.length ≤ 63 → 0 ≤ c → c ≤ (A : Int) → A < lim → (0 < n ∧ n < 18446744073709551616) →
      d { nx := fun _ _ => False, rt := fun r ρ _ => ∃ (k c2 g2 : Int), r = .sh (.int k) ∧ (0 ≤ k ∧ k < n) ∧ (0 ≤ c2 ∧ c2 ≤ (A : Int) + 1) ∧ ρ[0]? = some (.own (some p) (.pen cl ns c2 g2)) }
        (Sl.own (some p) (.pen cl ns c g) :: Sl.sh (.int n) :: List.replicate (N.length - 2) .no) 0) : FnOk P w K mg base CX0 (k + 1) f fd ps (spD K (phDraw lim)) := by
  refine FD.ok S (fun vs H Q E h => ?_) (fun cdv A outer s H vs Q E hr h => ?_)
  · obtain ⟨p, c, ds, A, B, q, _, _, _, r, ⟨n, e, _⟩, _⟩ := h
    rw [r.length, e, hps]; rfl
  · obtain ⟨p, c, ds, m, B, q, e, hbp, hpen, r, ⟨n, rfl, hn, hA, hq⟩, fin⟩ := h
    have hN2 : 2 ≤ N.length := by
      have := congrArg List.length S.pre
      rw [List.length_take, hps] at this; omega
    obtain ⟨v1, v2, rfl, r1, r2⟩ := reps2 r
    obtain rfl := r1.ref_inv
    obtain rfl := r2.int_inv
    obtain ⟨ns, t, g, h1, h2, h3, h4, h5⟩ := hpen
    refine ⟨liftS K ⟨none, fun b => if b = p then none else H b, B, 0⟩ d, PSs.nox (der _ cdv A outer s H E hr), ?_⟩
    have hH0 : ∀ b o, (if b = p then none else H b) = some o → b ≠ p ∧ H b = some o := fun b o z => by
      by_cases y : b = p
      · rw [if_pos y] at z; cases z
      · rw [if_neg y] at z; exact ⟨y, z⟩
    have rh : RelH K ⟨none, fun b => if b = p then none else H b, B, 0⟩ 0 H B := by
      refine ⟨⟨fun b o z _ => (hH0 b o z).2, fun b z => ?_, Ex.refl _, fun _ _ => rfl, e⟩, fun p' hp => nomatch hp⟩
      intro y
      apply z
      show (if b = p then none else H b) = none
      by_cases q : b = p
      · rw [if_pos q]
      · rw [if_neg q]; exact y
    refine ⟨_, 0, B, _, ⟨rh, ?_, fun i s es => ?_, fun i j t1 t2 m1 m2 hij e1 e2 => ?_⟩, ⟨fun _ _ _ _ _ _ _ h' => False.elim h', fun _ _ _ _ _ _ _ h' => False.elim h', fun _ _ _ _ _ _ _ h' => False.elim h', fun r ρ A σ v H' B' r' ro h' => ?_⟩, pure ns t g n m p c h3 h4 h5 hA hn⟩
    · simp [L2.start]
    · match i with
      | 0 => cases es; exact ⟨_, rfl, p, _, rfl, if_pos rfl, hbp, h1, .pen h2, fun b z => Option.some.inj z⟩
      | 1 => cases es; exact ⟨_, rfl, _, rfl, .int⟩
      | i + 2 =>
        have es' : (List.replicate (N.length - 2) Sl.no)[i]? = some s := es
        obtain ⟨hi, hs⟩ := List.getElem?_eq_some_iff.mp es'
        have hi2 : i < N.length - 2 := by simpa using hi
        have hs2 : s = .no := by rw [← hs]; simp
        subst hs2
        refine ⟨none, ?_, trivial⟩
        show (List.replicate (N.length - 2) (none : Option V))[i]? = some none
        rw [List.getElem?_replicate, if_pos hi2]
    · match i, j with
      | 0, 0 => exact absurd rfl hij
      | 0, 1 => cases e2
      | 0, j + 2 =>
        have e2' : (List.replicate (N.length - 2) Sl.no)[j]? = some (.own t2 m2) := e2
        have := List.eq_of_mem_replicate (List.mem_of_getElem? e2')
        cases this
      | 1, _ => cases e1
      | i + 2, _ =>
        have e1' : (List.replicate (N.length - 2) Sl.no)[i]? = some (.own t1 m1) := e1
        have := List.eq_of_mem_replicate (List.mem_of_getElem? e1')
        cases this
    · obtain ⟨kk, c2, g2, rfl, hk, hc, hρ⟩ := h'
      obtain ⟨sv, e1, a, o, _, z0, zb, zh, zm, zt⟩ := r'.sl 0 _ hρ
      have ea : a = p := zt p rfl
      subst ea
      cases zm with
      | pen hc' =>
        refine fin (.sh (.int kk)) (m + 1) v H' B' (hq kk hk.1 hk.2) ⟨fun b o' hb np => ?_, fun b hb => ?_, r'.h.gr.eb, fun b hb => ?_, r'.h.gr.bh⟩ ⟨ns, c2, g2, zh, hc', h3, hc.1, by have := hc.2; omega⟩ ro
        · exact r'.h.gr.eh b o' (by show (if b = a then none else H b) = _; rw [if_neg (fun y => np (by rw [y]))]; exact hb) (by simp)
        · by_cases y : b = a
          · rw [y, zh]; simp
          · exact r'.h.gr.al b (by show (if b = a then none else H b) ≠ none; rw [if_neg y]; exact hb)
        · by_cases y : b = a
          · rw [y, zb, hbp]
          · exact r'.h.gr.bn b (by show (if b = a then none else H b) ≠ none; rw [if_neg y]; exact hb)
end
end Y
set_option Elab.async false
set_option linter.all false
set_option maxRecDepth 100000
set_option maxHeartbeats 4000000
set_option autoImplicit false
namespace Y
open PySem PySem.Spec PyProof.Rows L2
/-! ### a law: its pen, its rest -/
def spMk (K : PySem.W.Frag) : Sp := fun vs H Q _ => ∃ (a : Addr) (ns : List Int), vs = [.ref a] ∧ SqL K H a (ns.map V.int) ∧ ns.length ≤ 63 ∧
  ∀ (p c : Addr) (ms : List Int) (H' : Hp), ms.length ≤ 63 → H' p = some (.lst [.ref c, .int 0, .int 0]) → H' c = some (.lst (ms.map V.int)) → p ≠ c → Q (.ref p) H'
def spLaw (K : PySem.W.Frag) : Sp := fun vs H Q _ => ∃ (a : Addr) (ns : List Int), vs = [.ref a] ∧ SqL K H a (ns.map V.int) ∧ ns.length ≤ 63 ∧ ∀ H', Q (.bl true) H'
section
variable {P : Program} {w : World} {K : PySem.W.Frag} {mg : Str → Option Value} {base : Heap} {x qual : Str} {params : Arguments} {scope : Scope} {dvs : List V} {kws : List (Str × V)} {f : Addr} {fd : FuncData} {N ps : List Str} {k : Nat}
def rListOf (K : PySem.W.Frag) : List V → Hp → VK → Prop := fun xs H Q => ∃ p ys, xs = [V.ref p] ∧ (SqL K H p ys ∨ SqT K H p ys) ∧ ∀ l, H l = none → Q (.ref l) (upd H l (.lst ys))
theorem fn_mkpen {body : List Stmt} (FD : FunD K x qual params body scope dvs kws f fd) (S : FnScope N ps scope) (hps : ps.length = 1)
    (der : ∀ (cdv : Value) (A : Around) (outer : List Env) (s : Shared) (H : Hp) (E : XK), Room k (A.deeper (envOfC qual scope s.heap.objs.size f cdv)) → PSs (cxOf CX0 P w K mg base N qual scope f cdv A outer s H E).nox body
      (tRet (tLst (tCons (tCB (rListOf K) (tCons (tSl (rSlL K) (tVar 0) tNoPart (tPart (tC (.int 63)))) tNil)) (tCons (tC (.int 0)) (tCons (tC (.int 0)) tNil)))))) : FnOk P w K mg base CX0 (k + 1) f fd ps (spMk K) := by
  refine FD.ok S (fun vs H Q E h => ?_) (fun cdv A outer s H vs Q E hr h => ?_)
  · obtain ⟨a, ns, rfl, _⟩ := h
    rw [hps]; rfl
  · obtain ⟨a, ns, rfl, hS, hl, fin⟩ := h
    refine ⟨_, PSs.nox (der cdv A outer s H E hr), ?_⟩
    refine ⟨.ref a, rfl, 63, rfl, a, ns.map V.int, rfl, hS, fun p1 h1 => ?_⟩
    refine ⟨p1, cutV (ns.map V.int) none (some 63), rfl, .inl (sq_of upd_same), fun p2 h2 => ?_⟩
    refine ⟨by show 3 ≤ sizeLine; decide, fun p3 h3 => ?_⟩
    have e : cutV (ns.map V.int) none (some 63) = (ns.take 63).map V.int := by
      unfold cutV
      have h : (63 : Int) = ((63 : Nat) : Int) := rfl
      rw [HT.sIx_none, h, HT.sIx_nat, List.drop_zero, List.map_take, List.length_map, Nat.sub_zero]
      by_cases z : 63 ≤ ns.length
      · rw [Nat.min_eq_left z]
      · rw [Nat.min_eq_right (by omega), List.take_of_length_le (by simp), List.take_of_length_le (by simp; omega)]
    have n23 : p3 ≠ p2 := fun z => by rw [z, upd_same] at h3; cases h3
    refine fin p3 p2 (ns.take 63) _ (by rw [List.length_take]; omega) upd_same ?_ n23
    rw [upd_ne n23.symm, upd_same, e]
theorem fn_law {st0 : Stmt} {rest : List Stmt} (FD : FunD K x qual params (st0 :: rest) scope dvs kws f fd) (S : FnScope N ps scope) (hps : ps.length = 1)
    (h0 : ∀ (cdv : Value) (A : Around) (outer : List Env) (s : Shared) (H : Hp) (E : XK), Room k (A.deeper (envOfC qual scope s.heap.objs.size f cdv)) → PS (cxOf CX0 P w K mg base N qual scope f cdv A outer s H E).nox st0 (tAsg (tCall (spMk K) [] E0 (tCons (tVar 0) tNil)) (gName 1)))
    {d : Addr → DS} (der : DerD P w K mg base N qual rest scope k f d)
    (pure : ∀ p, d p { nx := fun _ _ => False, rt := fun r _ _ => r = .sh (.bl true) } (Sl.no :: Sl.sh (.ref p) :: List.replicate (N.length - 2) .no) 0) (hN : 2 ≤ N.length) : FnOk P w K mg base CX0 (k + 1) f fd ps (spLaw K) := by
  refine FD.ok S (fun vs H Q E h => ?_) (fun cdv A outer s H vs Q E hr h => ?_)
  · obtain ⟨a, ns, rfl, _⟩ := h
    rw [hps]; rfl
  · obtain ⟨a, ns, rfl, hS, hl, fin⟩ := h
    refine ⟨tSeq (tAsg (tCall (spMk K) [] E0 (tCons (tVar 0) tNil)) (gName 1)) (fun D σ H1 => ∃ F p, F.pen = some p ∧ liftS K F (d p) D σ H1), PSs.nox (pss_cons (h0 cdv A outer s H E hr) ⟨fun pins s' σ H1 D I ⟨F, p, hF, q⟩ => (der F p cdv A outer s H E hF hr).run pins s' σ H1 D I q⟩), ?_⟩
    refine ⟨.ref a, rfl, a, ns, rfl, hS, hl, fun p c ms H' hms hp hc hpc => ?_⟩
    refine ⟨⟨some p, H', fun b => if b = c then some (.lst (ms.map V.int)) else none, c⟩, p, rfl, ?_⟩
    have eB : Ex (fun b => if b = c then some (HO.lst (ms.map V.int)) else none) H' := fun b o hb => by
      have hb' : (if b = c then some (HO.lst (ms.map V.int)) else none) = some o := hb
      by_cases z : b = c
      · rw [if_pos z] at hb'; rw [z, hc]; exact hb'
      · rw [if_neg z] at hb'; cases hb'
    have rh : RelH K ⟨some p, H', fun b => if b = c then some (.lst (ms.map V.int)) else none, c⟩ 0 H' (fun b => if b = c then some (.lst (ms.map V.int)) else none) := ⟨Gr.refl eB, fun p' hp' => by
      cases hp'
      exact ⟨by show H' p ≠ none; rw [hp]; simp, if_neg hpc, ms, 0, 0, hp, if_pos rfl, hms, Int.le_refl _, Int.le_refl _⟩⟩
    refine ⟨_, 0, _, _, ⟨rh, ?_, fun i s es => ?_, fun i j t1 t2 m1 m2 hij e1 e2 => ?_⟩, ⟨fun _ _ _ _ _ _ _ h' => False.elim h', fun _ _ _ _ _ _ _ h' => False.elim h', fun _ _ _ _ _ _ _ h' => False.elim h', fun r ρ A σ v H2 B2 r' ro h' => ?_⟩, pure p⟩
    · simp [L2.start, hps]; omega
    · match i with
      | 0 => cases es; exact ⟨_, rfl, trivial⟩
      | 1 =>
        cases es
        refine ⟨some (.ref p), ?_, _, rfl, .ref⟩
        rw [List.getElem?_set_self (by simp [L2.start]; omega)]
      | i + 2 =>
        have es' : (List.replicate (N.length - 2) Sl.no)[i]? = some s := es
        obtain ⟨hi, hs⟩ := List.getElem?_eq_some_iff.mp es'
        have hi2 : i < N.length - 2 := by simpa using hi
        have hs2 : s = .no := by rw [← hs]; simp
        subst hs2
        refine ⟨none, ?_, trivial⟩
        rw [List.getElem?_set_ne (by omega)]
        show ([some (V.ref a)] ++ List.replicate (N.length - 1) none)[i + 2]? = some none
        rw [List.getElem?_append_right (by simp), List.getElem?_replicate, if_pos (by simp; omega)]
    · match i with
      | 0 => cases e1
      | 1 => cases e1
      | i + 2 =>
        have e1' : (List.replicate (N.length - 2) Sl.no)[i]? = some (.own t1 m1) := e1
        have := List.eq_of_mem_replicate (List.mem_of_getElem? e1')
        cases this
    · subst h'
      obtain rfl := Rep.bl_inv ro
      exact fin H2
end
end Y
set_option Elab.async false
set_option linter.all false
set_option maxRecDepth 100000
set_option maxHeartbeats 4000000
set_option autoImplicit false
namespace Y
open PySem PySem.Spec PyProof.Rows L2
/-- a def of the module's top, and what it promises -/
structure Fn (P : Program) (w : World) (K : PySem.W.Frag) (mg : Str → Option Value) (base : Heap) (x : Str) (st : Stmt) (k : Nat) (ps : List Str) (sp : Sp) : Prop where
  ex : ∃ f fd, mg x = some (.ref f) ∧ FunD K x x (defArgs st) (defBody st) (defScope st) [] [] f fd ∧ Binds K fd ps [] ∧ FnOk P w K mg base CX0 k f fd ps sp
section
variable {X : Cx} {F : Fx}
theorem pd_callF {e : Expr} {es : List Expr} {x : Str} {st : Stmt} {p pos : Pos} {ps : List Str} {kk : Nat} {Φ : Ph} {da : DA} (G : Fn X.prog X.w X.K X.mg X.base x st kk ps (spP X.K Φ)) (hr : Room kk X.A) (hg : Gl X x)
    (ha : PDA X F (e :: es) da) (hdb : (x == ("__debug__" : Str)) = false := by decide) (he : starEach (e :: es) X.env = (false, eval e X.env) :: starEach es X.env := by rfl) (hpl : (backTo pos (starEach es X.env)).any (·.1) = false := by rfl) :
    PDE X F (.Call (.Name x p) (e :: es) [] pos) (dCall Φ [] da) := by
  obtain ⟨f, fd, hm, FD, hb, G⟩ := G.ex
  exact pd_call G hr hg hm FD.kp hb .nil (fun _ => .nil) ha hdb he hpl
theorem pd_callF0 {x : Str} {st : Stmt} {p pos : Pos} {ps : List Str} {kk : Nat} {Φ : Ph} (G : Fn X.prog X.w X.K X.mg X.base x st kk ps (spP X.K Φ)) (hr : Room kk X.A) (hg : Gl X x) (hdb : (x == ("__debug__" : Str)) = false := by decide) :
    PDE X F (.Call (.Name x p) [] [] pos) (dCall Φ [] dNil) := by
  obtain ⟨f, fd, hm, FD, hb, G⟩ := G.ex
  exact pd_call0 G hr hg hm FD.kp hb .nil (fun _ => .nil) hdb
theorem pdl_callF {e : Expr} {es : List Expr} {x : Str} {st : Stmt} {p pos : Pos} {ps : List Str} {kk : Nat} {Φ : Ph} {da : DA} (G : Fn X.prog X.w X.K X.mg X.base x st kk ps (spP X.K Φ)) (hr : Room kk X.A) (hg : Gl X x)
    (ha : PDA X F (e :: es) da) (hdb : (x == ("__debug__" : Str)) = false := by decide) (he : starEach (e :: es) X.env = (false, eval e X.env) :: starEach es X.env := by rfl) (hpl : (backTo pos (starEach es X.env)).any (·.1) = false := by rfl) :
    PDL X F (.Call (.Name x p) (e :: es) [] pos) (dCallL Φ [] da) := by
  obtain ⟨f, fd, hm, FD, hb, G⟩ := G.ex
  exact pdl_call G hr hg hm FD.kp hb .nil (fun _ => .nil) ha hdb he hpl
theorem pd_drawF {e : Expr} {es : List Expr} {x : Str} {st : Stmt} {pp pos : Pos} {ps : List Str} {kk : Nat} {p : Addr} {Φ : PhD} {da : DA} (hF : F.pen = some p) (G : Fn X.prog X.w X.K X.mg X.base x st kk ps (spD X.K Φ)) (hr : Room kk X.A) (hg : Gl X x)
    (ha : PDA X F (e :: es) da) (hdb : (x == ("__debug__" : Str)) = false := by decide) (he : starEach (e :: es) X.env = (false, eval e X.env) :: starEach es X.env := by rfl) (hpl : (backTo pos (starEach es X.env)).any (·.1) = false := by rfl) :
    PDE X F (.Call (.Name x pp) (e :: es) [] pos) (dDraw p Φ da) := by
  obtain ⟨f, fd, hm, FD, hb, G⟩ := G.ex
  exact pd_draw hF G hr hg hm FD.kp hb ha hdb he hpl
theorem pdl_drawF {e : Expr} {es : List Expr} {x : Str} {st : Stmt} {pp pos : Pos} {ps : List Str} {kk : Nat} {p : Addr} {Φ : PhD} {da : DA} (hF : F.pen = some p) (G : Fn X.prog X.w X.K X.mg X.base x st kk ps (spD X.K Φ)) (hr : Room kk X.A) (hg : Gl X x)
    (ha : PDA X F (e :: es) da) (hdb : (x == ("__debug__" : Str)) = false := by decide) (he : starEach (e :: es) X.env = (false, eval e X.env) :: starEach es X.env := by rfl) (hpl : (backTo pos (starEach es X.env)).any (·.1) = false := by rfl) :
    PDL X F (.Call (.Name x pp) (e :: es) [] pos) (dDrawL p Φ da) := by
  obtain ⟨f, fd, hm, FD, hb, G⟩ := G.ex
  exact pdl_draw hF G hr hg hm FD.kp hb ha hdb he hpl
/-! keywords alone -/
def dCallK (m : Nat) (Φ : Ph) (gD : List D → List D) (dk : DA) : DE := fun ρ A q => dk ρ A fun zs A2 => zs.length = m ∧ Φ (gD zs) fun r => q r.d A2
theorem pd_callK {kws : List Keyword} {x : Str} {st : Stmt} {p pos : Pos} {ps ks : List Str} {kk : Nat} {Φ : Ph} {g : {α : Type} → List α → List α} {dk : DA} (G : Fn X.prog X.w X.K X.mg X.base x st kk ps (spP X.K Φ)) (hr : Room kk X.A) (hg : Gl X x)
    (hb : ∀ (kV doc pm : Value) (an : Option Addr) (cdv ct : Value) (ws : List Value), ws.length = ks.length → bindArgs (PySem.W.fnOf x x (defArgs st) (defBody st) (defScope st) .none kV doc pm an cdv ct) ⟨[], ks.zip ws⟩ = pure (ps.zip (g ws)))
    (hgv : ∀ {zs : List V} {ws : List Value}, Vals zs ws → Vals (g zs) (g ws)) (hgd : ∀ B zs es, Reps X.K B zs es → Reps X.K B (g zs) (g es)) (hkw : PDK X F kws dk)
    (hall : (backToKw pos (keywordEach kws X.env)).all (·.1.isSome) = true := by rfl) (hks : (backToKw pos (keywordEach kws X.env)).filterMap (·.1) = ks := by rfl) (hdb : (x == ("__debug__" : Str)) = false := by decide)
    (hpl : ((backTo pos (starEach [] X.env)).any (·.1) || (backToKw pos (keywordEach kws X.env)).any (·.1.isNone)) = false := by rfl) :
    PDE X F (.Call (.Name x p) [] kws pos) (dCallK ks.length Φ g dk) := by
  obtain ⟨f, fd, hm, FD, _, G⟩ := G.ex
  have KB : KBn X.K fd ps 0 ks (fun _ ws => g ws) (fun _ zs => g zs) := by
    obtain ⟨oc, od, dV, kV, doc, pm, an, cdv, ct, osl, rfl, lk, hcd, hD, hK⟩ := FD.ex
    rcases hD with ⟨_, rfl⟩ | ⟨e, _⟩
    · refine ⟨fun s us ws X l1 l2 => ?_, fun _ r2 => hgv r2⟩
      cases us with
      | nil => exact .of_eq (hb kV doc pm an cdv ct ws l2)
      | cons _ _ => cases l1
    · exact absurd rfl e
  refine ⟨fun pins s σ H Q I h => ?_⟩
  obtain ⟨ρ, A, B, q, rl, hq, k⟩ := h
  refine wpAny_Call_Name_kw (ld_glob I hg hm ?_ hdb)
  refine PySem.W.callWith_KW0 (h₀ := X.base) I.ok.mod.kin FD.kp hall ?_ hpl
  refine thn (hkw.run pos pins s σ H _ I ⟨ρ, A, B, _, rl, hq, fun zs A2 ws H2 B2 h2 r2 e2 p2 => (⟨p2.length.trans h2.1, spP_of (Q := Q) (E := E0) (dvs := []) (dfl := []) (q := fun x _ => q x A2) (A1 := A2) (Φ := Φ) (fun _ => .nil) (hgd B2 ws zs p2) r2 (by rw [List.append_nil]; exact h2.2) fun x v H' B' hx r' g' rp => k x A2 v H' B' hx r' (e2.trans g') rp⟩ : ws.length = ks.length ∧ spP X.K Φ (g ws ++ []) H2 Q E0)⟩) fun ws s2 ⟨zs, H2, I2, rz, l2, q2⟩ => ⟨I2.kIn, ?_⟩
  rw [hks]
  rw [List.append_nil] at q2
  exact run_fnN (us := []) (vs := []) (n := 0) (gV := fun _ zs => g zs) G hr KB pass0 I2 .nil rz rfl l2 q2
end
/-! the pen's maker -/
theorem fn_of_ok {P : Program} {w : World} {K : PySem.W.Frag} {mg : Str → Option Value} {base : Heap} {x : Str} {st : Stmt} {k : Nat} {ps : List Str} {sp : Sp} {f : Addr} {fd : FuncData} (hm : mg x = some (.ref f)) (FD : FunD K x x (defArgs st) (defBody st) (defScope st) [] [] f fd)
    (h : ∀ (kV doc pm : Value) (an : Option Addr) (cdv ct : Value) (us : List Value), us.length = ps.length → bindArgs (PySem.W.fnOf x x (defArgs st) (defBody st) (defScope st) .none kV doc pm an cdv ct) ⟨us, []⟩ = pure (ps.zip us)) (G : FnOk P w K mg base CX0 k f fd ps sp) : Fn P w K mg base x st k ps sp :=
  ⟨f, fd, hm, FD, FD.bindsN h, G⟩
end Y
set_option Elab.async false
set_option linter.all false
set_option maxRecDepth 100000
set_option maxHeartbeats 4000000
set_option autoImplicit false
namespace Y
open PySem PySem.Spec PyProof.Rows L2
/-! ### loops over data -/
theorem lc_pure {g : DG} {t : DT} {d : DE} {vs : List Nat} {ρw : En} (f : D → Option D) : ∀ (xs acc : List D) (A : Nat) (q : List D → Nat → Prop),
    (∀ x ∈ xs, ∀ (A : Nat) (K : Option D → Nat → Prop), K (f x) A → g x ρw fun ρ' => t ρ' A fun b A1 => if b = true then d ρ' A1 fun y A2 => K (some y) A2 else K none A1) →
    acc.length + xs.length ≤ 100000 → q (acc ++ xs.filterMap f) A → lcD g t d vs ρw xs acc A q
  | [], acc, A, q, _, _, hq => by
    unfold lcD
    simpa using hq
  | x :: xs, acc, A, q, h, hl, hq => by
    unfold lcD
    have hl' : acc.length + (xs.length + 1) ≤ 100000 := hl
    refine ⟨by omega, ?_⟩
    refine h x List.mem_cons_self A (fun o A1 => match o with
      | some y => lcD g t d vs ρw xs (acc ++ [y]) A1 q
      | none => lcD g t d vs ρw xs acc A1 q) ?_
    cases e : f x with
    | none =>
      rw [List.filterMap_cons_none e] at hq
      exact lc_pure f xs acc A q (fun x hx => h x (List.mem_cons_of_mem _ hx)) (by omega) hq
    | some y =>
      rw [List.filterMap_cons_some e] at hq
      exact lc_pure f xs (acc ++ [y]) A q (fun x hx => h x (List.mem_cons_of_mem _ hx)) (by rw [List.length_append, List.length_singleton]; omega) (by rw [List.append_assoc]; exact hq)
/-- every item gives one -/
theorem lc_map {g : DG} {t : DT} {d : DE} {vs : List Nat} {ρw : En} (f : D → D) {xs : List D} {A : Nat} {q : List D → Nat → Prop}
    (h : ∀ x ∈ xs, ∀ (A : Nat) (K : Option D → Nat → Prop), K (some (f x)) A → g x ρw fun ρ' => t ρ' A fun b A1 => if b = true then d ρ' A1 fun y A2 => K (some y) A2 else K none A1)
    (hl : xs.length ≤ 100000) (hq : q (xs.map f) A) : lcD g t d vs ρw xs [] A q := by
  refine lc_pure (fun x => some (f x)) xs [] A q h (by simpa using hl) ?_
  rw [List.nil_append]
  have : xs.filterMap (fun x => some (f x)) = xs.map f := by
    rw [show (fun x => some (f x)) = some ∘ f from rfl, List.filterMap_eq_map]
  rw [this]; exact hq
/-- by a word of the turn, of what is there, of the draws -/
theorem lc_inv {g : DG} {t : DT} {d : DE} {vs : List Nat} {ρw : En} {all : List D} {q : List D → Nat → Prop} (I : Nat → List D → Nat → Prop)
    (h : ∀ (i : Nat) (x : D) (acc : List D) (A : Nat) (K : Option D → Nat → Prop), all[i]? = some x → I i acc A → (∀ y A', I (i + 1) (acc ++ [y]) A' → K (some y) A') → (∀ A', I (i + 1) acc A' → K none A') →
      acc.length < 100000 ∧ g x ρw fun ρ' => t ρ' A fun b A1 => if b = true then d ρ' A1 fun y A2 => K (some y) A2 else K none A1)
    (fin : ∀ acc A, I all.length acc A → q acc A) {A : Nat} (h0 : I 0 [] A) : lcD g t d vs ρw all [] A q := by
  have main : ∀ (xs : List D) (i : Nat) (acc : List D) (A : Nat), all.drop i = xs → i ≤ all.length → I i acc A → lcD g t d vs ρw xs acc A q := by
    intro xs
    induction xs with
    | nil =>
      intro i acc A e hi hI
      have : i = all.length := by
        have := congrArg List.length e
        rw [List.length_drop] at this
        simp at this; omega
      subst this
      exact fin acc A hI
    | cons x xs ih =>
      intro i acc A e hi hI
      have hi' : i < all.length := by
        have := congrArg List.length e
        rw [List.length_drop] at this
        simp at this; omega
      have hx : all[i]? = some x := by
        have := congrArg (fun l => l[0]?) e
        simpa using this
      have e' : all.drop (i + 1) = xs := by
        have := congrArg List.tail e
        simpa using this
      unfold lcD
      have z := h i x acc A (fun o A1 => match o with
        | some y => lcD g t d vs ρw xs (acc ++ [y]) A1 q
        | none => lcD g t d vs ρw xs acc A1 q) hx hI (fun y A' hI' => ih (i + 1) (acc ++ [y]) A' e' hi' hI') (fun A' hI' => ih (i + 1) acc A' e' hi' hI')
      exact z
  exact main all 0 [] A rfl (Nat.zero_le _) h0
theorem for_inv {g : DG} {b : DS} {E : DEnds} {all : List D} (I : Nat → En → Nat → Prop)
    (h : ∀ (i : Nat) (x : D) (ρ : En) (A : Nat) (E' : DEnds), all[i]? = some x → I i ρ A → E'.rt = E.rt → (∀ ρ' A', I (i + 1) ρ' A' → E'.nx ρ' A') → (∀ ρ' A', I (i + 1) ρ' A' → E'.ct ρ' A') → (∀ ρ' A', E.nx ρ' A' → E'.bk ρ' A') → g x ρ fun ρ' => b E' ρ' A)
    (fin : ∀ ρ A, I all.length ρ A → E.nx ρ A) {ρ : En} {A : Nat} (h0 : I 0 ρ A) : forD g b E all ρ A := by
  have main : ∀ (xs : List D) (i : Nat) (ρ : En) (A : Nat), all.drop i = xs → i ≤ all.length → I i ρ A → forD g b E xs ρ A := by
    intro xs
    induction xs with
    | nil =>
      intro i ρ A e hi hI
      have : i = all.length := by
        have := congrArg List.length e
        rw [List.length_drop] at this
        simp at this; omega
      subst this
      exact fin ρ A hI
    | cons x xs ih =>
      intro i ρ A e hi hI
      have hi' : i < all.length := by
        have := congrArg List.length e
        rw [List.length_drop] at this
        simp at this; omega
      have hx : all[i]? = some x := by
        have := congrArg (fun l => l[0]?) e
        simpa using this
      have e' : all.drop (i + 1) = xs := by
        have := congrArg List.tail e
        simpa using this
      unfold forD
      exact h i x ρ A _ hx hI rfl (fun ρ' A' hI' => ih (i + 1) ρ' A' e' hi' hI') (fun ρ' A' hI' => ih (i + 1) ρ' A' e' hi' hI') (fun ρ' A' hn => hn)
  exact main all 0 ρ A rfl (Nat.zero_le _) h0
theorem rng_get {lo : Int} {n i : Nat} {x : D} (h : (rng lo n)[i]? = some x) : i < n ∧ x = .int (lo + i) := by
  unfold rng at h
  rw [List.getElem?_map] at h
  cases e : (List.range n)[i]? with
  | none => rw [e] at h; cases h
  | some j =>
    rw [e] at h
    obtain ⟨h1, h2⟩ := List.getElem?_eq_some_iff.mp e
    simp at h1 h2
    subst h2
    exact ⟨h1, by cases h; rfl⟩
theorem rng_length (lo : Int) (n : Nat) : (rng lo n).length = n := by simp [rng]
/-! ### equality of what is often compared -/
abbrev tI (ns : List Int) : D := .tup (ns.map D.int)
abbrev lI (ns : List Int) : D := .lst (ns.map D.int)
theorem pla_ints : ∀ ns : List Int, D.pla (ns.map D.int) = true
  | [] => by unfold D.pla; rfl
  | n :: ns => by
    show D.pla (D.int n :: ns.map D.int) = true
    unfold D.pla D.pl
    rw [pla_ints ns]; rfl
theorem pys_ints : ∀ ns : List Int, D.pys (ns.map D.int) = ns.map PyData.int
  | [] => by unfold D.pys; rfl
  | n :: ns => by
    show D.pys (D.int n :: ns.map D.int) = _
    unfold D.pys D.py
    rw [pys_ints ns]; rfl
theorem canLay_ints : ∀ ns : List Int, PyData.canLayAll0 (ns.map PyData.int) = true
  | [] => by unfold PyData.canLayAll0; rfl
  | n :: ns => by
    show PyData.canLayAll0 (PyData.int n :: ns.map PyData.int) = true
    unfold PyData.canLayAll0 PyData.canLay0
    rw [canLay_ints ns]; rfl
theorem eqv_ints : ∀ a b : List Int, PyData.eqvAll (a.map PyData.int) (b.map PyData.int) = decide (a = b)
  | [], [] => by simp [PyData.eqvAll]
  | [], y :: b => by simp [PyData.eqvAll]
  | x :: a, [] => by simp [PyData.eqvAll]
  | x :: a, y :: b => by
    show PyData.eqvAll (.int x :: a.map PyData.int) (.int y :: b.map PyData.int) = _
    unfold PyData.eqvAll PyData.eqv
    rw [eqv_ints a b]
    by_cases h : x = y
    · subst h; by_cases q : a = b
      · subst q; simp
      · simp [q]
    · simp [h]
/-- data that == may be asked of: n deep -/
inductive OkD : Nat → D → Prop where
  | non {n : Nat} : OkD n .non
  | bl {n : Nat} {b : Bool} : OkD n (.bl b)
  | int {n : Nat} {i : Int} : OkD n (.int i)
  | str {n : Nat} {x : Str} (h : PyData.strOk x = true) : OkD n (.str x)
  | lst {n : Nat} {ds : List D} (h : ∀ d, d ∈ ds → OkD n d) : OkD (n + 1) (.lst ds)
  | tup {n : Nat} {ds : List D} (h : ∀ d, d ∈ ds → OkD n d) : OkD (n + 1) (.tup ds)
theorem okAll {n : Nat} : ∀ {ds : List D}, (∀ d, d ∈ ds → d.pl = true ∧ d.py.canLay0 = true ∧ d.py.depth ≤ n) → D.pla ds = true ∧ PyData.canLayAll0 (D.pys ds) = true ∧ PyData.depthAll (D.pys ds) ≤ n
  | [], _ => by
    unfold D.pla D.pys PyData.canLayAll0 PyData.depthAll
    exact ⟨rfl, rfl, Nat.zero_le _⟩
  | d :: ds, h => by
    obtain ⟨h1, h2, h3⟩ := h d List.mem_cons_self
    obtain ⟨h4, h5, h6⟩ := okAll (ds := ds) fun e he => h e (List.mem_cons_of_mem _ he)
    unfold D.pla D.pys PyData.canLayAll0 PyData.depthAll
    rw [h1, h2, h4, h5]
    exact ⟨rfl, rfl, Nat.max_le.mpr ⟨h3, h6⟩⟩
theorem OkD.ok {n : Nat} {d : D} (h : OkD n d) : d.pl = true ∧ d.py.canLay0 = true ∧ d.py.depth ≤ n := by
  induction h with
  | non => unfold D.pl D.py PyData.canLay0 PyData.depth; exact ⟨rfl, rfl, Nat.zero_le _⟩
  | bl => unfold D.pl D.py PyData.canLay0 PyData.depth; exact ⟨rfl, rfl, Nat.zero_le _⟩
  | int => unfold D.pl D.py PyData.canLay0 PyData.depth; exact ⟨rfl, rfl, Nat.zero_le _⟩
  | str h => unfold D.pl D.py PyData.canLay0 PyData.depth; exact ⟨rfl, h, Nat.zero_le _⟩
  | lst h ih =>
    obtain ⟨h1, h2, h3⟩ := okAll ih
    unfold D.pl D.py PyData.canLay0 PyData.depth
    exact ⟨h1, h2, by omega⟩
  | tup h ih =>
    obtain ⟨h1, h2, h3⟩ := okAll ih
    unfold D.pl D.py PyData.canLay0 PyData.depth
    exact ⟨h1, h2, by omega⟩
theorem OkD.sh {n : Nat} {d : D} (h : OkD n d) (hn : n ≤ 64 := by decide) : d.pl = true ∧ SeqAt.shaped d.py = true := by
  obtain ⟨h1, h2, h3⟩ := h.ok
  refine ⟨h1, ?_⟩
  unfold SeqAt.shaped
  rw [h2, decide_eq_true (Nat.le_trans h3 hn)]; rfl
theorem OkD.tI {n : Nat} {ns : List Int} : OkD (n + 1) (tI ns) := .tup fun d hd => by
  obtain ⟨i, _, rfl⟩ := List.mem_map.mp hd
  exact .int
theorem OkD.lI {n : Nat} {ns : List Int} : OkD (n + 1) (lI ns) := .lst fun d hd => by
  obtain ⟨i, _, rfl⟩ := List.mem_map.mp hd
  exact .int
theorem kEq_of {n m : Nat} {x y : D} {q : D → Prop} (h1 : OkD n x) (h2 : OkD m y) (hn : n ≤ 64 := by decide) (hm : m ≤ 64 := by decide) : kEq x y q ↔ q (.bl (PyData.eqv x.py y.py)) :=
  ⟨fun h => h.2.2, fun h => ⟨h1.sh hn, h2.sh hm, h⟩⟩
theorem kNe_of {n m : Nat} {x y : D} {q : D → Prop} (h1 : OkD n x) (h2 : OkD m y) (hn : n ≤ 64 := by decide) (hm : m ≤ 64 := by decide) : kNe x y q ↔ q (.bl (!PyData.eqv x.py y.py)) :=
  ⟨fun h => h.2.2, fun h => ⟨h1.sh hn, h2.sh hm, h⟩⟩
theorem beq_dec {α : Type} [DecidableEq α] (a b : α) : (a == b) = decide (a = b) := by
  by_cases h : a = b
  · subst h; simp
  · simp [h]
theorem kEq_ii {i j : Int} {q : D → Prop} : kEq (.int i) (.int j) q ↔ q (.bl (decide (i = j))) := by
  rw [kEq_of (n := 0) (m := 0) .int .int]; unfold D.py PyData.eqv; rw [beq_dec]
theorem kNe_ii {i j : Int} {q : D → Prop} : kNe (.int i) (.int j) q ↔ q (.bl (!decide (i = j))) := by
  rw [kNe_of (n := 0) (m := 0) .int .int]; unfold D.py PyData.eqv; rw [beq_dec]
theorem eqv_tt {a b : List Int} : PyData.eqv (tI a).py (tI b).py = decide (a = b) := by
  unfold D.py PyData.eqv; rw [pys_ints, pys_ints, eqv_ints]
theorem eqv_ll {a b : List Int} : PyData.eqv (lI a).py (lI b).py = decide (a = b) := by
  unfold D.py PyData.eqv; rw [pys_ints, pys_ints, eqv_ints]
theorem kEq_tt {a b : List Int} {q : D → Prop} : kEq (.tup (a.map D.int)) (.tup (b.map D.int)) q ↔ q (.bl (decide (a = b))) := by
  rw [kEq_of (n := 1) (m := 1) .tI .tI, eqv_tt]
theorem kNe_tt {a b : List Int} {q : D → Prop} : kNe (.tup (a.map D.int)) (.tup (b.map D.int)) q ↔ q (.bl (!decide (a = b))) := by
  rw [kNe_of (n := 1) (m := 1) .tI .tI, eqv_tt]
theorem kEq_ll {a b : List Int} {q : D → Prop} : kEq (.lst (a.map D.int)) (.lst (b.map D.int)) q ↔ q (.bl (decide (a = b))) := by
  rw [kEq_of (n := 1) (m := 1) .lI .lI, eqv_ll]
theorem kNe_ll {a b : List Int} {q : D → Prop} : kNe (.lst (a.map D.int)) (.lst (b.map D.int)) q ↔ q (.bl (!decide (a = b))) := by
  rw [kNe_of (n := 1) (m := 1) .lI .lI, eqv_ll]
theorem kEq_ln {a : List Int} {q : D → Prop} : kEq (.lst (a.map D.int)) (.lst []) q ↔ q (.bl (decide (a = []))) := kEq_ll (b := [])
theorem kNe_ln {a : List Int} {q : D → Prop} : kNe (.lst (a.map D.int)) (.lst []) q ↔ q (.bl (!decide (a = []))) := kNe_ll (b := [])
theorem kEq_ss {a b : Str} {q : D → Prop} (h1 : PyData.strOk a = true) (h2 : PyData.strOk b = true) : kEq (.str a) (.str b) q ↔ q (.bl (a == b)) := by
  rw [kEq_of (n := 0) (m := 0) (.str h1) (.str h2)]; unfold D.py PyData.eqv; rfl
theorem kNe_ss {a b : Str} {q : D → Prop} (h1 : PyData.strOk a = true) (h2 : PyData.strOk b = true) : kNe (.str a) (.str b) q ↔ q (.bl (!(a == b))) := by
  rw [kNe_of (n := 0) (m := 0) (.str h1) (.str h2)]; unfold D.py PyData.eqv; rfl
/-! ### items -/
theorem atI_nat' {α : Type} {xs : List α} {i : Nat} {x : α} (h : xs[i]? = some x) : atI xs (i : Int) = some x := atI_nat h
theorem kIx_l {ds : List D} {i : Int} {q : D → Prop} : kIx (.lst ds) (.int i) q ↔ ∃ d, atI ds i = some d ∧ q d := Iff.rfl
theorem kIx_t {ds : List D} {i : Int} {q : D → Prop} : kIx (.tup ds) (.int i) q ↔ ∃ d, atI ds i = some d ∧ q d := Iff.rfl
theorem atI_0 {α : Type} {x : α} {xs : List α} : atI (x :: xs) 0 = some x := atI_nat (j := 0) (by rfl)
theorem atI_lit {α : Type} {xs : List α} {i : Nat} : atI xs (OfNat.ofNat i : Int) = xs[i]? := by
  unfold atI ixN
  show Option.bind (if (0 : Int) ≤ (i : Int) then if (i : Int) < (xs.length : Int) then some ((i : Int)).toNat else none else _) _ = _
  rw [if_pos (Int.natCast_nonneg i)]
  by_cases h : i < xs.length
  · rw [if_pos (by omega)]; simp
  · rw [if_neg (by omega)]; simp; omega
theorem ex_some {α : Type} {x : α} {P : α → Prop} : (∃ d, some x = some d ∧ P d) ↔ P x := ⟨fun ⟨_, h, p⟩ => by cases h; exact p, fun p => ⟨x, rfl, p⟩⟩
theorem at_int {ns : List Int} {i : Int} {n : Int} {q : D → Prop} (h : atI ns i = some n) (hq : q (.int n)) : ∃ d, atI (ns.map D.int) i = some d ∧ q d := by
  refine ⟨.int n, ?_, hq⟩
  unfold atI at h ⊢
  rw [List.length_map]
  cases e : ixN ns.length i with
  | none => rw [e] at h; cases h
  | some j =>
    rw [e] at h
    show (ns.map D.int)[j]? = _
    rw [List.getElem?_map, show ns[j]? = some n from h]; rfl
theorem at_mod {ns : List Int} {k m : Int} (h : ns ≠ []) (hm : m = (ns.length : Int)) : ∃ n, n ∈ ns ∧ atI ns (k.fmod m) = some n := by
  have hpos : 0 < ns.length := List.length_pos_iff.mpr h
  subst hm
  have h1 : 0 ≤ k.fmod (ns.length : Int) := Int.fmod_nonneg_of_pos _ (by omega)
  have h2 : k.fmod (ns.length : Int) < (ns.length : Int) := Int.fmod_lt_of_pos _ (by omega)
  obtain ⟨j, hj⟩ : ∃ j : Nat, k.fmod (ns.length : Int) = (j : Int) := ⟨_, (Int.toNat_of_nonneg h1).symm⟩
  rw [hj] at h2 ⊢
  have hj' : j < ns.length := by omega
  exact ⟨ns[j], List.getElem_mem hj', atI_nat (List.getElem?_eq_getElem hj')⟩
/-! ### comprehensions over ints -/
def pickI (p : Int → Bool) (f : Int → D) : D → Option D := fun x => match x with
  | .int n => if p n = true then some (f n) else none
  | _ => none
theorem pick_ints (p : Int → Bool) (f : Int → D) : ∀ ns : List Int, (ns.map D.int).filterMap (pickI p f) = (ns.filter p).map f
  | [] => rfl
  | n :: ns => by
    have ih := pick_ints p f ns
    show (D.int n :: ns.map D.int).filterMap (pickI p f) = _
    cases e : p n with
    | true =>
      have : pickI p f (.int n) = some (f n) := by exact if_pos e
      rw [List.filterMap_cons_some this, ih, List.filter_cons, if_pos e]; rfl
    | false =>
      have : pickI p f (.int n) = none := by exact if_neg (by rw [e]; decide)
      rw [List.filterMap_cons_none this, ih, List.filter_cons, if_neg (by rw [e]; decide)]
theorem lc_int {g : DG} {t : DT} {d : DE} {vs : List Nat} {ρw : En} (p : Int → Bool) (f : Int → D) {ns : List Int} {A : Nat} {q : List D → Nat → Prop}
    (h : ∀ n, n ∈ ns → ∀ (A : Nat) (K : Option D → Nat → Prop), (if p n = true then K (some (f n)) A else K none A) → g (.int n) ρw fun ρ' => t ρ' A fun b A1 => if b = true then d ρ' A1 fun y A2 => K (some y) A2 else K none A1)
    (hl : ns.length ≤ 100000) (hq : q ((ns.filter p).map f) A) : lcD g t d vs ρw (ns.map D.int) [] A q := by
  refine lc_pure (pickI p f) _ [] A q (fun x hx A K hk => ?_) (by simpa using hl) ?_
  · obtain ⟨n, hn, rfl⟩ := List.mem_map.mp hx
    refine h n hn A K ?_
    have hk' : K (if p n = true then some (f n) else none) A := hk
    by_cases e : p n = true
    · rw [if_pos e] at hk' ⊢; exact hk'
    · rw [if_neg e] at hk' ⊢; exact hk'
  · rw [List.nil_append, pick_ints]; exact hq
/-- no test -/
theorem lc_int1 {g : DG} {t : DT} {d : DE} {vs : List Nat} {ρw : En} (f : Int → D) {ns : List Int} {A : Nat} {q : List D → Nat → Prop}
    (h : ∀ n, n ∈ ns → ∀ (A : Nat) (K : Option D → Nat → Prop), K (some (f n)) A → g (.int n) ρw fun ρ' => t ρ' A fun b A1 => if b = true then d ρ' A1 fun y A2 => K (some y) A2 else K none A1)
    (hl : ns.length ≤ 100000) (hq : q (ns.map f) A) : lcD g t d vs ρw (ns.map D.int) [] A q :=
  lc_int (fun _ => true) f (fun n hn A K hk => h n hn A K (by rw [if_pos rfl] at hk; exact hk)) hl (by rw [List.filter_eq_self.mpr (fun _ _ => rfl)]; exact hq)
/-! ### one statement at a time -/
theorem seq_step {a b : DS} {E : DEnds} {ρ : En} {A : Nat} (h : ∀ nx : En → Nat → Prop, (∀ ρ' A', b E ρ' A' → nx ρ' A') → a { E with nx := nx } ρ A) : dSeq a b E ρ A := h _ fun _ _ h => h
theorem if_step {t : DT} {a b : DS} {E : DEnds} {ρ : En} {A : Nat} (h : ∀ P : Bool → Nat → Prop, (∀ A1, a E ρ A1 → P true A1) → (∀ A1, b E ρ A1 → P false A1) → t ρ A P) : dIf t a b E ρ A :=
  h _ (fun A1 h => by rw [if_pos rfl]; exact h) (fun A1 h => by rw [if_neg Bool.false_ne_true]; exact h)
theorem p_dec {P : Bool → Nat → Prop} {c : Prop} [Decidable c] {A : Nat} (h1 : c → P true A) (h0 : ¬ c → P false A) : P (decide c) A := by
  by_cases h : c
  · rw [decide_eq_true h]; exact h1 h
  · rw [decide_eq_false h]; exact h0 h
theorem p_ndec {P : Bool → Nat → Prop} {c : Prop} [Decidable c] {A : Nat} (h1 : ¬ c → P true A) (h0 : c → P false A) : P (!decide c) A := by
  by_cases h : c
  · rw [decide_eq_true h]; exact h0 h
  · rw [decide_eq_false h]; exact h1 h
/-- an expression's value, then what is done with it -/
theorem asg_step {i : Nat} {d : DE} {E : DEnds} {ρ : En} {A : Nat} (h : ∀ q : D → Nat → Prop, (∀ x A1, E.nx (ρ.set i (.sh x)) A1 → q x A1) → d ρ A q) : dAsg i d E ρ A := h _ fun _ _ h => h
theorem ret_step {d : DE} {E : DEnds} {ρ : En} {A : Nat} (h : ∀ q : D → Nat → Prop, (∀ x A1, E.rt (.sh x) ρ A1 → q x A1) → d ρ A q) : dRet d E ρ A := h _ fun _ _ h => h
theorem atI_n {α : Type} {xs : List α} (i : Nat) {x : α} (h : xs[i]? = some x) : atI xs (i : Int) = some x := atI_nat h
end Y
set_option Elab.async false
set_option linter.all false
set_option maxRecDepth 100000
namespace Y
open PySem PySem.Spec PyProof.Rows L2
variable {q : D → Prop} {i j : Int}
theorem kAdd_ii : kAdd (.int i) (.int j) q = q (.int (i + j)) := rfl
theorem kAdd_ss {a b : Str} : kAdd (.str a) (.str b) q = (a.length + b.length ≤ 100000 ∧ q (.str (a ++ b))) := rfl
theorem kAdd_ll {a b : List D} : kAdd (.lst a) (.lst b) q = (a.length + b.length ≤ 100000 ∧ q (.lst (a ++ b))) := rfl
theorem kAdd_tt {a b : List D} : kAdd (.tup a) (.tup b) q = (a.length + b.length ≤ 100000 ∧ q (.tup (a ++ b))) := rfl
theorem kSub_ii : kSub (.int i) (.int j) q = q (.int (i - j)) := rfl
theorem kMul_ii : kMul (.int i) (.int j) q = (MulOk' i j ∧ q (.int (i * j))) := rfl
theorem kMul_li {a : List D} : kMul (.lst a) (.int j) q = (-(2 ^ 63) ≤ j ∧ j < 2 ^ 63 ∧ a.length * j.toNat ≤ 100000 ∧ q (.lst (List.replicate j.toNat a).flatten)) := rfl
theorem kDiv_ii : kDiv (.int i) (.int j) q = (DivOk i j ∧ q (.int (i.fdiv j))) := rfl
theorem kMod_ii : kMod (.int i) (.int j) q = (j ≠ 0 ∧ q (.int (i.fmod j))) := rfl
theorem kPow_ii : kPow (.int i) (.int j) q = (PowOk i j ∧ q (.int (i ^ j.toNat))) := rfl
theorem kNeg_i : kNeg (.int i) q = q (.int (-i)) := rfl
theorem kLt_ii : kLt (.int i) (.int j) q = q (.bl (decide (i < j))) := rfl
theorem kLe_ii : kLe (.int i) (.int j) q = q (.bl (decide (i ≤ j))) := rfl
theorem kGt_ii : kGt (.int i) (.int j) q = q (.bl (decide (j < i))) := rfl
theorem kGe_ii : kGe (.int i) (.int j) q = q (.bl (decide (j ≤ i))) := rfl
theorem kSl_l {a : List D} {lo hi : Option Int} : kSl (.lst a) lo hi q = q (.lst (cutD a lo hi)) := rfl
theorem kSl_t {a : List D} {lo hi : Option Int} : kSl (.tup a) lo hi q = q (.tup (cutD a lo hi)) := rfl
theorem kSl_s {z : Str} {lo hi : Option Int} : kSl (.str z) lo hi q = (z.length ≤ 100000 ∧ q (.str (cutS z lo hi))) := rfl
theorem kLen_l {a : List D} : kLen [.lst a] q = q (.int (a.length : Nat)) := rfl
theorem kLen_t {a : List D} : kLen [.tup a] q = q (.int (a.length : Nat)) := rfl
theorem kLen_s {z : Str} : kLen [.str z] q = (z.length ≤ 100000 ∧ q (.int (z.length : Nat))) := rfl
theorem kAbs_i : kAbs [.int i] q = q (.int (if i < 0 then -i else i)) := rfl
theorem kInt_i : kInt [.int i] q = q (.int i) := rfl
theorem kInt_b {b : Bool} : kInt [.bl b] q = q (.int (if b then 1 else 0)) := rfl
theorem kBool_i : kBool [.int i] q = q (.bl (i != 0)) := rfl
theorem kBool_b {b : Bool} : kBool [.bl b] q = q (.bl b) := rfl
theorem kTuple_l {a : List D} : kTuple [.lst a] q = q (.tup a) := rfl
theorem kTuple_t {a : List D} : kTuple [.tup a] q = q (.tup a) := rfl
theorem kReprI_i : kReprI [.int i] q = (i.natAbs.log2 < 1920 ∧ q (.str (toString i))) := rfl
theorem kIxl {ds : List D} : kIx (.lst ds) (.int i) q = ∃ d, atI ds i = some d ∧ q d := rfl
theorem kIxt {ds : List D} : kIx (.tup ds) (.int i) q = ∃ d, atI ds i = some d ∧ q d := rfl
theorem atI0 {α : Type} {x : α} {xs : List α} : atI (x :: xs) 0 = some x := atI_0
theorem atI1 {α : Type} {x y : α} {xs : List α} : atI (x :: y :: xs) 1 = some y := atI_n 1 rfl
theorem atI2 {α : Type} {x y z : α} {xs : List α} : atI (x :: y :: z :: xs) 2 = some z := atI_n 2 rfl
theorem atI3 {α : Type} {x y z u : α} {xs : List α} : atI (x :: y :: z :: u :: xs) 3 = some u := atI_n 3 rfl
theorem atI4 {α : Type} {x y z u v : α} {xs : List α} : atI (x :: y :: z :: u :: v :: xs) 4 = some v := atI_n 4 rfl
theorem atI5 {α : Type} {x y z u v w : α} {xs : List α} : atI (x :: y :: z :: u :: v :: w :: xs) 5 = some w := atI_n 5 rfl
theorem cut_m1 (xs : List D) (h : 0 < xs.length) : Y.cutD xs none (some (-1)) = xs.take (xs.length - 1) := by
  unfold Y.cutD HT.sIx
  simp only [List.drop_zero, Nat.sub_zero]
  rw [if_pos (by decide)]
  congr 1; omega
theorem cut_m1' (xs : List D) (h : 0 < xs.length) : Y.cutD xs (some (-1)) none = xs.drop (xs.length - 1) := by
  unfold Y.cutD HT.sIx
  simp only []
  rw [if_pos (by decide)]
  have : ((-1 : Int) + (xs.length : Int)).toNat = xs.length - 1 := by omega
  rw [this]
  apply List.take_of_length_le
  rw [List.length_drop]; omega
theorem atI_m1 {α : Type} {xs : List α} {x : α} (h : xs[xs.length - 1]? = some x) : atI xs (-1) = some x := by
  have hl : 0 < xs.length := by
    obtain ⟨h, _⟩ := List.getElem?_eq_some_iff.mp h
    omega
  have : ixN xs.length (-1) = some (xs.length - 1) := by
    unfold ixN
    rw [if_neg (by decide)]
    rw [if_pos (by omega)]
    congr 1; omega
  unfold atI
  rw [this]; exact h
theorem fd_body {K : PySem.W.Frag} {x qual : Str} {params : Arguments} {b b' : List Stmt} {scope : Scope} {dvs : List V} {kws : List (Str × V)} {f : Addr} {fd : FuncData} (h : b = b') (F : FunD K x qual params b scope dvs kws f fd) : FunD K x qual params b' scope dvs kws f fd := h ▸ F
theorem fmod_lo {a n : Int} (h : 0 < n) : 0 ≤ a.fmod n := Int.fmod_nonneg_of_pos a h
theorem fmod_hi {a n : Int} (h : 0 < n) : a.fmod n < n := Int.fmod_lt_of_pos a h
theorem divOk_of {a n : Int} (h : 0 < n) (h2 : n < 18446744073709551616) : DivOk a n := by
  refine ⟨by omega, ?_⟩
  have h3 : n.natAbs < 2 ^ 64 := by omega
  have := (Nat.log2_lt (by omega)).mpr h3
  omega
theorem sq_le {c : Int} (h : 0 ≤ c) (h2 : c < 100000) : 0 ≤ 43029 * c * c ∧ 43029 * c * c ≤ 430290000000000 := by
  have a1 : 0 ≤ 43029 * c := by omega
  have a2 : 43029 * c ≤ 4302900000 := by omega
  refine ⟨Int.mul_nonneg a1 h, ?_⟩
  have := Int.mul_le_mul a2 (show c ≤ 100000 by omega) h (by decide)
  simpa using this
theorem mul_le2 {x y X Y : Int} (h : 0 ≤ x) (h2 : x ≤ X) (h3 : 0 ≤ y) (h4 : y ≤ Y) : 0 ≤ x * y ∧ x * y ≤ X * Y :=
  ⟨Int.mul_nonneg h h3, Int.mul_le_mul h2 h4 h3 (by omega)⟩
theorem kIsi_int_int {i : Int} : kIsi [.int i, .ty "int"] q = q (.bl true) := rfl
theorem kIsi_int_bool {i : Int} : kIsi [.int i, .ty "bool"] q = q (.bl false) := rfl
theorem kIsi_int_str {i : Int} : kIsi [.int i, .ty "str"] q = q (.bl false) := rfl
theorem kIsi_int_tuple {i : Int} : kIsi [.int i, .ty "tuple"] q = q (.bl false) := rfl
theorem kIsi_int_list {i : Int} : kIsi [.int i, .ty "list"] q = q (.bl false) := rfl
theorem kIsi_bool_int {b : Bool} : kIsi [.bl b, .ty "int"] q = q (.bl true) := rfl
theorem kIsi_bool_bool {b : Bool} : kIsi [.bl b, .ty "bool"] q = q (.bl true) := rfl
theorem kIsi_bool_str {b : Bool} : kIsi [.bl b, .ty "str"] q = q (.bl false) := rfl
theorem kIsi_bool_tuple {b : Bool} : kIsi [.bl b, .ty "tuple"] q = q (.bl false) := rfl
theorem kIsi_bool_list {b : Bool} : kIsi [.bl b, .ty "list"] q = q (.bl false) := rfl
theorem kIsi_str_int {s : Str} : kIsi [.str s, .ty "int"] q = q (.bl false) := rfl
theorem kIsi_str_bool {s : Str} : kIsi [.str s, .ty "bool"] q = q (.bl false) := rfl
theorem kIsi_str_str {s : Str} : kIsi [.str s, .ty "str"] q = q (.bl true) := rfl
theorem kIsi_str_tuple {s : Str} : kIsi [.str s, .ty "tuple"] q = q (.bl false) := rfl
theorem kIsi_str_list {s : Str} : kIsi [.str s, .ty "list"] q = q (.bl false) := rfl
theorem kIsi_tuple_int {ds : List D} : kIsi [.tup ds, .ty "int"] q = q (.bl false) := rfl
theorem kIsi_tuple_bool {ds : List D} : kIsi [.tup ds, .ty "bool"] q = q (.bl false) := rfl
theorem kIsi_tuple_str {ds : List D} : kIsi [.tup ds, .ty "str"] q = q (.bl false) := rfl
theorem kIsi_tuple_tuple {ds : List D} : kIsi [.tup ds, .ty "tuple"] q = q (.bl true) := rfl
theorem kIsi_tuple_list {ds : List D} : kIsi [.tup ds, .ty "list"] q = q (.bl false) := rfl
theorem kIsi_list_int {ds : List D} : kIsi [.lst ds, .ty "int"] q = q (.bl false) := rfl
theorem kIsi_list_bool {ds : List D} : kIsi [.lst ds, .ty "bool"] q = q (.bl false) := rfl
theorem kIsi_list_str {ds : List D} : kIsi [.lst ds, .ty "str"] q = q (.bl false) := rfl
theorem kIsi_list_tuple {ds : List D} : kIsi [.lst ds, .ty "tuple"] q = q (.bl false) := rfl
theorem kIsi_list_list {ds : List D} : kIsi [.lst ds, .ty "list"] q = q (.bl true) := rfl
theorem kIsi_NoneType_int  : kIsi [.non, .ty "int"] q = q (.bl false) := rfl
theorem kIsi_NoneType_bool  : kIsi [.non, .ty "bool"] q = q (.bl false) := rfl
theorem kIsi_NoneType_str  : kIsi [.non, .ty "str"] q = q (.bl false) := rfl
theorem kIsi_NoneType_tuple  : kIsi [.non, .ty "tuple"] q = q (.bl false) := rfl
theorem kIsi_NoneType_list  : kIsi [.non, .ty "list"] q = q (.bl false) := rfl
end Y
set_option Elab.async false
set_option linter.all false
set_option maxRecDepth 100000
set_option maxHeartbeats 4000000
namespace My
open PySem PySem.Spec PyProof.Rows L2 Y
/-! the text -/
def top (i : Nat) : Stmt := PySem.Challenge.pw_hiddenturns_k09_steps_and_their_signs.main.body.getD i (.Pass ⟨0, 0, 0, 0⟩)
abbrev s_canonical : Stmt := top 1
abbrev N_canonical : List Str := ["step", "first", "number"]
abbrev P_canonical : List Str := ["step"]
theorem sc_canonical : FnScope N_canonical P_canonical (defScope s_canonical) := ⟨rfl, rfl, rfl, by decide +kernel, rfl, by decide +kernel, by decide +kernel⟩
theorem bind_canonical : ∀ (kV doc pm : Value) (an : Option Addr) (cdv ct : Value) (us : List Value), us.length = (P_canonical).length → bindArgs (PySem.W.fnOf "canonical" "canonical" (defArgs s_canonical) (defBody s_canonical) (defScope s_canonical) .none kV doc pm an cdv ct) ⟨us, []⟩ = pure ((P_canonical).zip us) := fun _ _ _ _ _ _ us hl => match us, hl with | [_], _ => rfl
abbrev s_step_between : Stmt := top 2
abbrev N_step_between : List Str := ["place", "other", "here", "there"]
abbrev P_step_between : List Str := ["place", "other"]
theorem sc_step_between : FnScope N_step_between P_step_between (defScope s_step_between) := ⟨rfl, rfl, rfl, by decide +kernel, rfl, by decide +kernel, by decide +kernel⟩
theorem bind_step_between : ∀ (kV doc pm : Value) (an : Option Addr) (cdv ct : Value) (us : List Value), us.length = (P_step_between).length → bindArgs (PySem.W.fnOf "step_between" "step_between" (defArgs s_step_between) (defBody s_step_between) (defScope s_step_between) .none kV doc pm an cdv ct) ⟨us, []⟩ = pure ((P_step_between).zip us) := fun _ _ _ _ _ _ us hl => match us, hl with | [_, _], _ => rfl
abbrev s_law_pen : Stmt := top 4
abbrev N_law_pen : List Str := ["_law_script"]
abbrev P_law_pen : List Str := ["_law_script"]
theorem sc_law_pen : FnScope N_law_pen P_law_pen (defScope s_law_pen) := ⟨rfl, rfl, rfl, by decide +kernel, rfl, by decide +kernel, by decide +kernel⟩
theorem bind_law_pen : ∀ (kV doc pm : Value) (an : Option Addr) (cdv ct : Value) (us : List Value), us.length = (P_law_pen).length → bindArgs (PySem.W.fnOf "_law_pen" "_law_pen" (defArgs s_law_pen) (defBody s_law_pen) (defScope s_law_pen) .none kV doc pm an cdv ct) ⟨us, []⟩ = pure ((P_law_pen).zip us) := fun _ _ _ _ _ _ us hl => match us, hl with | [_], _ => rfl
abbrev s_law_draw : Stmt := top 5
abbrev N_law_draw : List Str := ["_law_pen_here", "_law_many", "_law_at", "_law_cell", "_law_mixed", "_law_digit", "_law_great"]
abbrev P_law_draw : List Str := ["_law_pen_here", "_law_many"]
theorem sc_law_draw : FnScope N_law_draw P_law_draw (defScope s_law_draw) := ⟨rfl, rfl, rfl, by decide +kernel, rfl, by decide +kernel, by decide +kernel⟩
theorem bind_law_draw : ∀ (kV doc pm : Value) (an : Option Addr) (cdv ct : Value) (us : List Value), us.length = (P_law_draw).length → bindArgs (PySem.W.fnOf "_law_draw" "_law_draw" (defArgs s_law_draw) (defBody s_law_draw) (defScope s_law_draw) .none kV doc pm an cdv ct) ⟨us, []⟩ = pure ((P_law_draw).zip us) := fun _ _ _ _ _ _ us hl => match us, hl with | [_, _], _ => rfl
abbrev s_law_place : Stmt := top 6
abbrev N_law_place : List Str := ["_law_pen_here", "_law_d", "_law_wide", "_law_k"]
abbrev P_law_place : List Str := ["_law_pen_here", "_law_d"]
theorem sc_law_place : FnScope N_law_place P_law_place (defScope s_law_place) := ⟨rfl, rfl, rfl, by decide +kernel, rfl, by decide +kernel, by decide +kernel⟩
theorem bind_law_place : ∀ (kV doc pm : Value) (an : Option Addr) (cdv ct : Value) (us : List Value), us.length = (P_law_place).length → bindArgs (PySem.W.fnOf "_law_place" "_law_place" (defArgs s_law_place) (defBody s_law_place) (defScope s_law_place) .none kV doc pm an cdv ct) ⟨us, []⟩ = pure ((P_law_place).zip us) := fun _ _ _ _ _ _ us hl => match us, hl with | [_, _], _ => rfl
abbrev s_law_pair : Stmt := top 7
abbrev N_law_pair : List Str := ["_law_pen_here", "_law_d", "_law_here", "_law_there"]
abbrev P_law_pair : List Str := ["_law_pen_here"]
theorem sc_law_pair : FnScope N_law_pair P_law_pair (defScope s_law_pair) := ⟨rfl, rfl, rfl, by decide +kernel, rfl, by decide +kernel, by decide +kernel⟩
theorem bind_law_pair : ∀ (kV doc pm : Value) (an : Option Addr) (cdv ct : Value) (us : List Value), us.length = (P_law_pair).length → bindArgs (PySem.W.fnOf "_law_pair" "_law_pair" (defArgs s_law_pair) (defBody s_law_pair) (defScope s_law_pair) .none kV doc pm an cdv ct) ⟨us, []⟩ = pure ((P_law_pair).zip us) := fun _ _ _ _ _ _ us hl => match us, hl with | [_], _ => rfl
abbrev s_law_turned : Stmt := top 8
abbrev N_law_turned : List Str := ["_law_leap", "_law_first", "_law_number"]
abbrev P_law_turned : List Str := ["_law_leap"]
theorem sc_law_turned : FnScope N_law_turned P_law_turned (defScope s_law_turned) := ⟨rfl, rfl, rfl, by decide +kernel, rfl, by decide +kernel, by decide +kernel⟩
theorem bind_law_turned : ∀ (kV doc pm : Value) (an : Option Addr) (cdv ct : Value) (us : List Value), us.length = (P_law_turned).length → bindArgs (PySem.W.fnOf "_law_turned" "_law_turned" (defArgs s_law_turned) (defBody s_law_turned) (defScope s_law_turned) .none kV doc pm an cdv ct) ⟨us, []⟩ = pure ((P_law_turned).zip us) := fun _ _ _ _ _ _ us hl => match us, hl with | [_], _ => rfl
abbrev s_law_between : Stmt := top 9
abbrev N_law_between : List Str := ["_law_here", "_law_there", "_law_k"]
abbrev P_law_between : List Str := ["_law_here", "_law_there"]
theorem sc_law_between : FnScope N_law_between P_law_between (defScope s_law_between) := ⟨rfl, rfl, rfl, by decide +kernel, rfl, by decide +kernel, by decide +kernel⟩
theorem bind_law_between : ∀ (kV doc pm : Value) (an : Option Addr) (cdv ct : Value) (us : List Value), us.length = (P_law_between).length → bindArgs (PySem.W.fnOf "_law_between" "_law_between" (defArgs s_law_between) (defBody s_law_between) (defScope s_law_between) .none kV doc pm an cdv ct) ⟨us, []⟩ = pure ((P_law_between).zip us) := fun _ _ _ _ _ _ us hl => match us, hl with | [_, _], _ => rfl
abbrev s_law_is_step : Stmt := top 10
abbrev N_law_is_step : List Str := ["_law_told", "_law_due", "_law_number"]
abbrev P_law_is_step : List Str := ["_law_told", "_law_due"]
theorem sc_law_is_step : FnScope N_law_is_step P_law_is_step (defScope s_law_is_step) := ⟨rfl, rfl, rfl, by decide +kernel, rfl, by decide +kernel, by decide +kernel⟩
theorem bind_law_is_step : ∀ (kV doc pm : Value) (an : Option Addr) (cdv ct : Value) (us : List Value), us.length = (P_law_is_step).length → bindArgs (PySem.W.fnOf "_law_is_step" "_law_is_step" (defArgs s_law_is_step) (defBody s_law_is_step) (defScope s_law_is_step) .none kV doc pm an cdv ct) ⟨us, []⟩ = pure ((P_law_is_step).zip us) := fun _ _ _ _ _ _ us hl => match us, hl with | [_, _], _ => rfl
abbrev s_law_right : Stmt := top 11
abbrev N_law_right : List Str := ["_law_here", "_law_there", "_law_due", "_law_back", "_law_told", "_law_sign", "_law_first", "_law_number"]
abbrev P_law_right : List Str := ["_law_here", "_law_there"]
theorem sc_law_right : FnScope N_law_right P_law_right (defScope s_law_right) := ⟨rfl, rfl, rfl, by decide +kernel, rfl, by decide +kernel, by decide +kernel⟩
theorem bind_law_right : ∀ (kV doc pm : Value) (an : Option Addr) (cdv ct : Value) (us : List Value), us.length = (P_law_right).length → bindArgs (PySem.W.fnOf "_law_right" "_law_right" (defArgs s_law_right) (defBody s_law_right) (defScope s_law_right) .none kV doc pm an cdv ct) ⟨us, []⟩ = pure ((P_law_right).zip us) := fun _ _ _ _ _ _ us hl => match us, hl with | [_, _], _ => rfl
abbrev s_law : Stmt := top 12
abbrev N_law : List Str := ["_law_script", "_law_pen_here", "_law_turn", "_law_here", "_law_there"]
abbrev P_law : List Str := ["_law_script"]
theorem sc_law : FnScope N_law P_law (defScope s_law) := ⟨rfl, rfl, rfl, by decide +kernel, rfl, by decide +kernel, by decide +kernel⟩
theorem bind_law : ∀ (kV doc pm : Value) (an : Option Addr) (cdv ct : Value) (us : List Value), us.length = (P_law).length → bindArgs (PySem.W.fnOf "law" "law" (defArgs s_law) (defBody s_law) (defScope s_law) .none kV doc pm an cdv ct) ⟨us, []⟩ = pure ((P_law).zip us) := fun _ _ _ _ _ _ us hl => match us, hl with | [_], _ => rfl
/-! ### promises -/
abbrev lim : Nat := 100000
abbrev ph_law_draw : PhD := phDraw lim
abbrev tI (ns : List Int) : D := .tup (ns.map D.int)
/-- the sign of the first number that is not 0 -/
def sg : List Int → Int
  | [] => 1
  | n :: ns => if n = 0 then sg ns else if 0 < n then 1 else -1
def can (ns : List Int) : List Int := if 0 < sg ns then ns else ns.map fun n => 0 - n
def ph_canonical : Ph := fun ds q => ∃ ns : List Int, ds = [tI ns] ∧ ns.length ≤ 20 ∧ (∃ n, n ∈ ns ∧ n ≠ 0) ∧ q (.sh (.tup [.int (sg ns), tI (can ns)]))
abbrev ph_law_turned : Ph := ph_canonical
def dif (a b : List Int) : List Int := List.zipWith (fun x y => y - x) a b
def ph_step_between : Ph := fun ds q => ∃ a b : List Int, ds = [tI a, tI b] ∧ a.length = b.length ∧ a.length ≤ 20 ∧ q (.sh (tI (dif a b)))
abbrev ph_law_between : Ph := ph_step_between
def ph_law_is_step : Ph := fun ds q => ∃ a b : List Int, ds = [tI a, tI b] ∧ a.length ≤ 20 ∧ b.length ≤ 20 ∧ q (.sh (.bl (decide (a = b))))
def okPl (d : Nat) (ns : List Int) : Prop := ns.length = d ∧ ∀ n ∈ ns, -1000 ≤ n ∧ n ≤ 1000
def ph_law_place : PhD := fun p ds A q => ∃ d : Nat, ds = [.ref p, .int d] ∧ 1 ≤ d ∧ d ≤ 3 ∧ A + 20 ≤ lim ∧ ∀ ns A', okPl d ns → A' ≤ A + 20 → q (.sh (tI ns)) A'
def ph_law_pair : PhD := fun p ds A q => ds = [.ref p] ∧ A + 100 ≤ lim ∧ ∀ d a b A', okPl d a → okPl d b → 1 ≤ d → d ≤ 3 → a ≠ b → A' ≤ A + 100 → q (.sh (.tup [tI a, tI b])) A'
def ph_law_right : Ph := fun ds q => ∃ d a b, ds = [tI a, tI b] ∧ okPl d a ∧ okPl d b ∧ d ≤ 3 ∧ a ≠ b ∧ q (.sh (.bl true))
def kw_canonical_step {α : Type} : List α → List α := fun l => match l with | [a0] => [a0] | _ => []
theorem kw_canonical_step_b : ∀ (kV doc pm : Value) (an : Option Addr) (cdv ct : Value) (ws : List Value), ws.length = (["step"] : List Str).length → bindArgs (PySem.W.fnOf "canonical" "canonical" (defArgs s_canonical) (defBody s_canonical) (defScope s_canonical) .none kV doc pm an cdv ct) ⟨[], (["step"] : List Str).zip ws⟩ = pure ((P_canonical).zip (kw_canonical_step ws)) := fun _ _ _ _ _ _ ws hl => match ws, hl with | [_], _ => rfl
theorem kw_canonical_step_v {zs : List V} {ws : List Value} (r : Vals zs ws) : Vals (kw_canonical_step zs) (kw_canonical_step ws) := by
  cases r with
  | nil => exact .nil
  | cons h0 r0 =>
    cases r0 with
    | nil => exact .cons h0 (.nil)
    | cons _ _ => exact .nil

theorem kw_canonical_step_d {K : PySem.W.Frag} (B : Hp) (zs : List V) (ws : List D) (r : Reps K B zs ws) : Reps K B (kw_canonical_step zs) (kw_canonical_step ws) := by
  cases r with
  | nil => exact .nil
  | cons h0 r0 =>
    cases r0 with
    | nil => exact .cons h0 (.nil)
    | cons _ _ => exact .nil

def kw_step_between_other_place {α : Type} : List α → List α := fun l => match l with | [a0, a1] => [a1, a0] | _ => []
theorem kw_step_between_other_place_b : ∀ (kV doc pm : Value) (an : Option Addr) (cdv ct : Value) (ws : List Value), ws.length = (["other", "place"] : List Str).length → bindArgs (PySem.W.fnOf "step_between" "step_between" (defArgs s_step_between) (defBody s_step_between) (defScope s_step_between) .none kV doc pm an cdv ct) ⟨[], (["other", "place"] : List Str).zip ws⟩ = pure ((P_step_between).zip (kw_step_between_other_place ws)) := fun _ _ _ _ _ _ ws hl => match ws, hl with | [_, _], _ => rfl
theorem kw_step_between_other_place_v {zs : List V} {ws : List Value} (r : Vals zs ws) : Vals (kw_step_between_other_place zs) (kw_step_between_other_place ws) := by
  cases r with
  | nil => exact .nil
  | cons h0 r0 =>
    cases r0 with
    | nil => exact .nil
    | cons h1 r1 =>
      cases r1 with
      | nil => exact .cons h1 (.cons h0 (.nil))
      | cons _ _ => exact .nil

theorem kw_step_between_other_place_d {K : PySem.W.Frag} (B : Hp) (zs : List V) (ws : List D) (r : Reps K B zs ws) : Reps K B (kw_step_between_other_place zs) (kw_step_between_other_place ws) := by
  cases r with
  | nil => exact .nil
  | cons h0 r0 =>
    cases r0 with
    | nil => exact .nil
    | cons h1 r1 =>
      cases r1 with
      | nil => exact .cons h1 (.cons h0 (.nil))
      | cons _ _ => exact .nil

def d_canonical : DS :=
  (dSeq (dAsg 1 (dOp kIx (dOfL (dLc (iSq (dVar 0)) (gNm 2) (dTst (dOp kNe (dVar 2) (dC (.int 0)))) (dVar 2) [2])) (dC (.int 0)))) (dSeq (dIf (dTst (dOp kGt (dVar 1) (dC (.int 0)))) (dRet (dTup (dCons (dC (.int 1)) (dCons (dVar 0) dNil)))) dNext) (dRet (dTup (dCons (dUn kNeg (dC (.int 1))) (dCons (dCB kTuple (dCons (dOfL (dLc (iSq (dVar 0)) (gNm 2) dYes (dOp kSub (dC (.int 0)) (dVar 2)) [2])) dNil)) dNil))))))
theorem der_canonical {P : Program} {w : World} {K : PySem.W.Frag} {mg : Str → Option Value} {base : Heap} {f : Addr} (z_tuple : mg "tuple" = none) : Der P w K mg base N_canonical "canonical" (defBody s_canonical) (defScope s_canonical) 0 f d_canonical := by
  intro F cdv A outer s H E hr
  have nd : (N_canonical).Nodup := sc_canonical.nd
  exact (pdss_cons (pds_set 1 nd (pd_ix (pd_ofL (pdl_lc (own := [("number", 2)]) rfl nd (pdi_seq (pd_var 0)) (blkOk_by (N := N_canonical) (sc := defScope s_canonical) (by decide +kernel)) (fun _ _ _ _ _ => (pdg_name 2 nd)) (fun _ _ _ _ _ => (pdts_one (pdt_cmp (op_neD hr.units) oNe (pd_var 2) pd_int (nomark _)))) (fun _ _ _ _ _ => (pd_var 2)))) pd_int (fun _ _ => rfl))) (pdss_cons (pds_if (pdt_cmp op_gt oGt (pd_var 1) pd_int (nomark _)) (pdss_one (pds_ret (pd_tup (pda_cons pd_int (pda_cons (pd_var 0) pda_nil))))) pdss_nil) (pdss_one (pds_ret (pd_tup (pda_cons (pd_neg pd_int) (pda_cons (pd_callTy call_tuple_of oTuple rfl z_tuple (by decide +kernel) (pda_cons (pd_ofL (pdl_lc (own := [("number", 2)]) rfl nd (pdi_seq (pd_var 0)) (blkOk_by (N := N_canonical) (sc := defScope s_canonical) (by decide +kernel)) (fun _ _ _ _ _ => (pdg_name 2 nd)) (fun _ _ _ _ _ => pdts_nil) (fun _ _ _ _ _ => (pd_sub pd_int (pd_var 2))))) pda_nil)) pda_nil)))))))
def d_step_between : DS :=
  (dRet (dCB kTuple (dCons (dOfL (dLc (iZp (dCons (dVar 0) (dCons (dVar 1) dNil))) (gTp 2 (gsCons (gNm 2) (gsCons (gNm 3) gsNil))) dYes (dOp kSub (dVar 3) (dVar 2)) [2, 3])) dNil)))
theorem der_step_between {P : Program} {w : World} {K : PySem.W.Frag} {mg : Str → Option Value} {base : Heap} {f : Addr} (z_tuple : mg "tuple" = none) (z_zip : mg "zip" = none) : Der P w K mg base N_step_between "step_between" (defBody s_step_between) (defScope s_step_between) 0 f d_step_between := by
  intro F cdv A outer s H E hr
  have nd : (N_step_between).Nodup := sc_step_between.nd
  exact (pdss_one (pds_ret (pd_callTy call_tuple_of oTuple rfl z_tuple (by decide +kernel) (pda_cons (pd_ofL (pdl_lc (own := [("here", 2), ("there", 3)]) rfl nd (pdi_zip rfl z_zip (pda_cons (pd_var 0) (pda_cons (pd_var 1) pda_nil))) (blkOk_by (N := N_step_between) (sc := defScope s_step_between) (by decide +kernel)) (fun _ _ _ _ _ => (pdg_tup rfl (pdgs_cons (pdg_name 2 nd) (pdgs_cons (pdg_name 3 nd) pdgs_nil)))) (fun _ _ _ _ _ => pdts_nil) (fun _ _ _ _ _ => (pd_sub (pd_var 3) (pd_var 2))))) pda_nil))))
theorem der_law_pen {P : Program} {w : World} {K : PySem.W.Frag} {mg : Str → Option Value} {base : Heap} {f : Addr} (z_list : mg "list" = none) (cdv : Value) (A : Around) (outer : List Env) (s : Shared) (H : Hp) (E : XK) (hr : Room 0 (A.deeper (envOfC "_law_pen" (defScope s_law_pen) s.heap.objs.size f cdv))) : PSs (cxOf CX0 P w K mg base N_law_pen "_law_pen" (defScope s_law_pen) f cdv A outer s H E).nox (defBody s_law_pen) (tRet (tLst (tCons (tCB (rListOf K) (tCons (tSl (rSlL K) (tVar 0) tNoPart (tPart (tC (.int 63)))) tNil)) (tCons (tC (.int 0)) (tCons (tC (.int 0)) tNil))))) :=
  pss_one (ps_ret (pe_lst (pa_cons (pe_callTy call_list_of rfl z_list (by decide +kernel) (pa_cons (pe_slice sl_list (pv 0) po_none (po_some pe_int)) pa_nil)) (pa_cons pe_int (pa_cons pe_int pa_nil)))))
def d_law_draw : DS :=
  (dSeq (dIf (dTst (dOp kGt (dIxO 0 (dC (.int 2))) (dC (.int 0)))) (dSeq (dAsg 5 (dOp kMod (dCB kInt (dCons (dIxO 0 (dC (.int 2))) dNil)) (dVar 1))) (dSeq (dSetO 0 (dC (.int 2)) (dOp kDiv (dIxO 0 (dC (.int 2))) (dVar 1))) (dRetV 5))) dNext) (dSeq (dAsg 2 (dIxO 0 (dC (.int 1)))) (dSeq (dSetO 0 (dC (.int 1)) (dOp kAdd (dVar 2) (dC (.int 1)))) (dSeq (dAsg 3 (dOp kAdd (dOp kMul (dC (.int 51039)) (dVar 2)) (dC (.int 325)))) (dSeq (dIf (dTst (dOp kNe (dIxO 0 (dC (.int 0))) (dOfL (dLst dNil)))) (dAsg 3 (dOp kIx (dIxO 0 (dC (.int 0))) (dOp kMod (dCB kInt (dCons (dVar 2) dNil)) (dCB kLen (dCons (dIxO 0 (dC (.int 0))) dNil))))) dNext) (dSeq (dIf (dAnd (dTst (dOp kLt (dVar 2) (dCB kLen (dCons (dIxO 0 (dC (.int 0))) dNil)))) (dTst (dOp kGe (dCB kAbs (dCons (dVar 3) dNil)) (dOp kPow (dC (.int 10)) (dC (.int 18)))))) (dSeq (dAsg 6 (dOp kAdd (dOp kMul (dC (.int 2)) (dCB kAbs (dCons (dVar 3) dNil))) (dCB kInt (dCons (dOp kLt (dVar 3) (dC (.int 0))) dNil)))) (dSeq (dSetO 0 (dC (.int 2)) (dOp kDiv (dVar 6) (dVar 1))) (dRet (dOp kMod (dCB kInt (dCons (dVar 6) dNil)) (dVar 1))))) dNext) (dSeq (dAsg 4 (dOp kMod (dCB kInt (dCons (dOp kPow (dOp kAdd (dOp kAdd (dOp kAdd (dOp kMod (dCB kInt (dCons (dVar 3) dNil)) (dC (.int 2147483563))) (dOp kMul (dOp kMul (dC (.int 43029)) (dVar 2)) (dVar 2))) (dOp kMul (dC (.int 51039)) (dVar 2))) (dC (.int 29))) (dC (.int 5))) dNil)) (dC (.int 2147483647)))) (dSeq (dAsg 4 (dOp kMod (dCB kInt (dCons (dOp kPow (dOp kAdd (dOp kAdd (dOp kMul (dVar 4) (dOp kAdd (dOp kMul (dC (.int 2)) (dVar 2)) (dC (.int 35)))) (dOp kMul (dC (.int 325)) (dVar 2))) (dC (.int 7))) (dC (.int 3))) dNil)) (dC (.int 2147483587)))) (dRet (dOp kMod (dCB kInt (dCons (dOp kDiv (dVar 4) (dC (.int 32))) dNil)) (dVar 1)))))))))))
theorem der_law_draw {P : Program} {w : World} {K : PySem.W.Frag} {mg : Str → Option Value} {base : Heap} {f : Addr} (z_abs : mg "abs" = none) (z_int : mg "int" = none) (z_len : mg "len" = none) : Der P w K mg base N_law_draw "_law_draw" (defBody s_law_draw) (defScope s_law_draw) 0 f d_law_draw := by
  intro F cdv A outer s H E hr
  have nd : (N_law_draw).Nodup := sc_law_draw.nd
  exact (pdss_cons (pds_if (pdt_cmp op_gt oGt (pd_ixO 0 pd_int (fun _ _ => rfl)) pd_int (nomark _)) (pdss_cons (pds_set 5 nd (pd_mod (pd_callTy call_int1 oInt rfl z_int (by decide +kernel) (pda_cons (pd_ixO 0 pd_int (fun _ _ => rfl)) pda_nil)) (pd_var 1))) (pdss_cons (pds_setO 0 pd_int (pd_fdiv (pd_ixO 0 pd_int (fun _ _ => rfl)) (pd_var 1))) (pdss_one (pds_retV 5)))) pdss_nil) (pdss_cons (pds_set 2 nd (pd_ixO 0 pd_int (fun _ _ => rfl))) (pdss_cons (pds_setO 0 pd_int (pd_add (pd_var 2) pd_int)) (pdss_cons (pds_set 3 nd (pd_add (pd_mul pd_int (pd_var 2)) pd_int)) (pdss_cons (pds_if (pdt_cmp (op_neD hr.units) oNe (pd_ixO 0 pd_int (fun _ _ => rfl)) (pd_ofL (pdl_lst pda_nil)) (nomark _)) (pdss_one (pds_set 3 nd (pd_ix (pd_ixO 0 pd_int (fun _ _ => rfl)) (pd_mod (pd_callTy call_int1 oInt rfl z_int (by decide +kernel) (pda_cons (pd_var 2) pda_nil)) (pd_callB call_len oLen rfl z_len (by decide +kernel) (pda_cons (pd_ixO 0 pd_int (fun _ _ => rfl)) pda_nil))) (fun _ _ => rfl)))) pdss_nil) (pdss_cons (pds_if (pdt_w (pdw_and (pdt_cmp op_lt oLt (pd_var 2) (pd_callB call_len oLen rfl z_len (by decide +kernel) (pda_cons (pd_ixO 0 pd_int (fun _ _ => rfl)) pda_nil)) (nomark _)) (pdw_and1 (pdt_cmp op_ge oGe (pd_callB call_abs oAbs rfl z_abs (by decide +kernel) (pda_cons (pd_var 3) pda_nil)) (pd_pow pd_int pd_int) (nomark _))))) (pdss_cons (pds_set 6 nd (pd_add (pd_mul pd_int (pd_callB call_abs oAbs rfl z_abs (by decide +kernel) (pda_cons (pd_var 3) pda_nil))) (pd_callTy call_int1 oInt rfl z_int (by decide +kernel) (pda_cons (pd_cmp op_lt oLt (pd_var 3) pd_int (nomark _)) pda_nil)))) (pdss_cons (pds_setO 0 pd_int (pd_fdiv (pd_var 6) (pd_var 1))) (pdss_one (pds_ret (pd_mod (pd_callTy call_int1 oInt rfl z_int (by decide +kernel) (pda_cons (pd_var 6) pda_nil)) (pd_var 1)))))) pdss_nil) (pdss_cons (pds_set 4 nd (pd_mod (pd_callTy call_int1 oInt rfl z_int (by decide +kernel) (pda_cons (pd_pow (pd_add (pd_add (pd_add (pd_mod (pd_callTy call_int1 oInt rfl z_int (by decide +kernel) (pda_cons (pd_var 3) pda_nil)) pd_int) (pd_mul (pd_mul pd_int (pd_var 2)) (pd_var 2))) (pd_mul pd_int (pd_var 2))) pd_int) pd_int) pda_nil)) pd_int)) (pdss_cons (pds_set 4 nd (pd_mod (pd_callTy call_int1 oInt rfl z_int (by decide +kernel) (pda_cons (pd_pow (pd_add (pd_add (pd_mul (pd_var 4) (pd_add (pd_mul pd_int (pd_var 2)) pd_int)) (pd_mul pd_int (pd_var 2))) pd_int) pd_int) pda_nil)) pd_int)) (pdss_one (pds_ret (pd_mod (pd_callTy call_int1 oInt rfl z_int (by decide +kernel) (pda_cons (pd_fdiv (pd_var 4) pd_int) pda_nil)) (pd_var 1))))))))))))
def d_law_place (p : Addr) : DS :=
  (dSeq (dAsg 2 (dOp kIx (dOfL (dLst (dCons (dC (.int 1)) (dCons (dC (.int 2)) (dCons (dC (.int 1000)) dNil))))) (dDraw p ph_law_draw (dCons (dVar 0) (dCons (dC (.int 3)) dNil))))) (dRet (dCB kTuple (dCons (dOfL (dLc (iRg1 (dCons (dVar 1) dNil)) (gNm 3) dYes (dOp kIx (dOfL (dLst (dCons (dC (.int 0)) (dCons (dVar 2) (dCons (dOp kSub (dC (.int 0)) (dVar 2)) (dCons (dOp kSub (dDraw p ph_law_draw (dCons (dVar 0) (dCons (dOp kAdd (dOp kMul (dC (.int 2)) (dVar 2)) (dC (.int 1))) dNil))) (dVar 2)) dNil)))))) (dDraw p ph_law_draw (dCons (dVar 0) (dCons (dC (.int 4)) dNil)))) [3])) dNil))))
theorem der_law_place {P : Program} {w : World} {K : PySem.W.Frag} {mg : Str → Option Value} {base : Heap} {f : Addr} (g_law_draw : Fn P w K mg base "_law_draw" s_law_draw 1 P_law_draw (spD K ph_law_draw)) (z_range : mg "range" = none) (z_tuple : mg "tuple" = none) : DerD P w K mg base N_law_place "_law_place" (defBody s_law_place) (defScope s_law_place) 1 f d_law_place := by
  intro F p cdv A outer s H E hF hr
  have nd : (N_law_place).Nodup := sc_law_place.nd
  exact (pdss_cons (pds_set 2 nd (pd_ix (pd_ofL (pdl_lst (pda_cons pd_int (pda_cons pd_int (pda_cons pd_int pda_nil))))) (pd_drawF hF g_law_draw hr rfl (pda_cons (pd_var 0) (pda_cons pd_int pda_nil))) (fun _ _ => rfl))) (pdss_one (pds_ret (pd_callTy call_tuple_of oTuple rfl z_tuple (by decide +kernel) (pda_cons (pd_ofL (pdl_lc (own := [("_law_k", 3)]) rfl nd (pdi_range1 rfl z_range (pda_cons (pd_var 1) pda_nil)) (blkOk_by (N := N_law_place) (sc := defScope s_law_place) (by decide +kernel)) (fun _ _ _ _ _ => (pdg_name 3 nd)) (fun _ _ _ _ _ => pdts_nil) (fun _ _ _ _ _ => (pd_ix (pd_ofL (pdl_lst (pda_cons pd_int (pda_cons (pd_var 2) (pda_cons (pd_sub pd_int (pd_var 2)) (pda_cons (pd_sub (pd_drawF hF g_law_draw hr rfl (pda_cons (pd_var 0) (pda_cons (pd_add (pd_mul pd_int (pd_var 2)) pd_int) pda_nil))) (pd_var 2)) pda_nil)))))) (pd_drawF hF g_law_draw hr rfl (pda_cons (pd_var 0) (pda_cons pd_int pda_nil))) (fun _ _ => rfl))))) pda_nil)))))
def d_law_pair (p : Addr) : DS :=
  (dSeq (dAsg 1 (dOp kAdd (dC (.int 1)) (dDraw p ph_law_draw (dCons (dVar 0) (dCons (dC (.int 3)) dNil))))) (dSeq (dAsg 2 (dDraw p ph_law_place (dCons (dVar 0) (dCons (dVar 1) dNil)))) (dSeq (dAsg 3 (dDraw p ph_law_place (dCons (dVar 0) (dCons (dVar 1) dNil)))) (dSeq (dIf (dTst (dOp kEq (dDraw p ph_law_draw (dCons (dVar 0) (dCons (dC (.int 4)) dNil))) (dC (.int 0)))) (dAsg 3 (dOp kAdd (dSl (dVar 2) dNoPart (dPart (dUn kNeg (dC (.int 1))))) (dSl (dVar 3) (dPart (dUn kNeg (dC (.int 1)))) dNoPart))) dNext) (dSeq (dIf (dTst (dOp kEq (dVar 2) (dVar 3))) (dAsg 3 (dOp kAdd (dSl (dVar 2) dNoPart (dPart (dUn kNeg (dC (.int 1))))) (dTup (dCons (dOp kIx (dOfL (dLst (dCons (dOp kAdd (dOp kIx (dVar 2) (dUn kNeg (dC (.int 1)))) (dC (.int 1))) (dCons (dUn kNeg (dC (.int 1000))) dNil)))) (dCB kInt (dCons (dOp kEq (dOp kIx (dVar 2) (dUn kNeg (dC (.int 1)))) (dC (.int 1000))) dNil))) dNil)))) dNext) (dRet (dTup (dCons (dVar 2) (dCons (dVar 3) dNil)))))))))
theorem der_law_pair {P : Program} {w : World} {K : PySem.W.Frag} {mg : Str → Option Value} {base : Heap} {f : Addr} (g_law_draw : Fn P w K mg base "_law_draw" s_law_draw 1 P_law_draw (spD K ph_law_draw)) (g_law_place : Fn P w K mg base "_law_place" s_law_place 2 P_law_place (spD K ph_law_place)) (z_int : mg "int" = none) : DerD P w K mg base N_law_pair "_law_pair" (defBody s_law_pair) (defScope s_law_pair) 2 f d_law_pair := by
  intro F p cdv A outer s H E hF hr
  have nd : (N_law_pair).Nodup := sc_law_pair.nd
  exact (pdss_cons (pds_set 1 nd (pd_add pd_int (pd_drawF hF g_law_draw (hr.mono (by decide)) rfl (pda_cons (pd_var 0) (pda_cons pd_int pda_nil))))) (pdss_cons (pds_set 2 nd (pd_drawF hF g_law_place hr rfl (pda_cons (pd_var 0) (pda_cons (pd_var 1) pda_nil)))) (pdss_cons (pds_set 3 nd (pd_drawF hF g_law_place hr rfl (pda_cons (pd_var 0) (pda_cons (pd_var 1) pda_nil)))) (pdss_cons (pds_if (pdt_cmp (op_eqD hr.units) oEq (pd_drawF hF g_law_draw (hr.mono (by decide)) rfl (pda_cons (pd_var 0) (pda_cons pd_int pda_nil))) pd_int (nomark _)) (pdss_one (pds_set 3 nd (pd_add (pd_sl (pd_var 2) pdo_none (pdo_some (pd_neg pd_int))) (pd_sl (pd_var 3) (pdo_some (pd_neg pd_int)) pdo_none)))) pdss_nil) (pdss_cons (pds_if (pdt_cmp (op_eqD hr.units) oEq (pd_var 2) (pd_var 3) (nomark _)) (pdss_one (pds_set 3 nd (pd_add (pd_sl (pd_var 2) pdo_none (pdo_some (pd_neg pd_int))) (pd_tup (pda_cons (pd_ix (pd_ofL (pdl_lst (pda_cons (pd_add (pd_ix (pd_var 2) (pd_neg pd_int) (fun _ _ => rfl)) pd_int) (pda_cons (pd_neg pd_int) pda_nil)))) (pd_callTy call_int1 oInt rfl z_int (by decide +kernel) (pda_cons (pd_cmp (op_eqD hr.units) oEq (pd_ix (pd_var 2) (pd_neg pd_int) (fun _ _ => rfl)) pd_int (nomark _)) pda_nil)) (fun _ _ => rfl)) pda_nil))))) pdss_nil) (pdss_one (pds_ret (pd_tup (pda_cons (pd_var 2) (pda_cons (pd_var 3) pda_nil))))))))))
def d_law_turned : DS :=
  (dSeq (dAsg 1 (dOp kIx (dOfL (dLc (iSq (dVar 0)) (gNm 2) (dTst (dOp kNe (dVar 2) (dC (.int 0)))) (dVar 2) [2])) (dC (.int 0)))) (dSeq (dIf (dTst (dOp kGt (dVar 1) (dC (.int 0)))) (dRet (dTup (dCons (dC (.int 1)) (dCons (dVar 0) dNil)))) dNext) (dRet (dTup (dCons (dUn kNeg (dC (.int 1))) (dCons (dCB kTuple (dCons (dOfL (dLc (iSq (dVar 0)) (gNm 2) dYes (dOp kSub (dC (.int 0)) (dVar 2)) [2])) dNil)) dNil))))))
theorem der_law_turned {P : Program} {w : World} {K : PySem.W.Frag} {mg : Str → Option Value} {base : Heap} {f : Addr} (z_tuple : mg "tuple" = none) : Der P w K mg base N_law_turned "_law_turned" (defBody s_law_turned) (defScope s_law_turned) 0 f d_law_turned := by
  intro F cdv A outer s H E hr
  have nd : (N_law_turned).Nodup := sc_law_turned.nd
  exact (pdss_cons (pds_set 1 nd (pd_ix (pd_ofL (pdl_lc (own := [("_law_number", 2)]) rfl nd (pdi_seq (pd_var 0)) (blkOk_by (N := N_law_turned) (sc := defScope s_law_turned) (by decide +kernel)) (fun _ _ _ _ _ => (pdg_name 2 nd)) (fun _ _ _ _ _ => (pdts_one (pdt_cmp (op_neD hr.units) oNe (pd_var 2) pd_int (nomark _)))) (fun _ _ _ _ _ => (pd_var 2)))) pd_int (fun _ _ => rfl))) (pdss_cons (pds_if (pdt_cmp op_gt oGt (pd_var 1) pd_int (nomark _)) (pdss_one (pds_ret (pd_tup (pda_cons pd_int (pda_cons (pd_var 0) pda_nil))))) pdss_nil) (pdss_one (pds_ret (pd_tup (pda_cons (pd_neg pd_int) (pda_cons (pd_callTy call_tuple_of oTuple rfl z_tuple (by decide +kernel) (pda_cons (pd_ofL (pdl_lc (own := [("_law_number", 2)]) rfl nd (pdi_seq (pd_var 0)) (blkOk_by (N := N_law_turned) (sc := defScope s_law_turned) (by decide +kernel)) (fun _ _ _ _ _ => (pdg_name 2 nd)) (fun _ _ _ _ _ => pdts_nil) (fun _ _ _ _ _ => (pd_sub pd_int (pd_var 2))))) pda_nil)) pda_nil)))))))
def d_law_between : DS :=
  (dRet (dCB kTuple (dCons (dOfL (dLc (iRg1 (dCons (dCB kLen (dCons (dVar 0) dNil)) dNil)) (gNm 2) dYes (dOp kSub (dOp kIx (dVar 1) (dVar 2)) (dOp kIx (dVar 0) (dVar 2))) [2])) dNil)))
theorem der_law_between {P : Program} {w : World} {K : PySem.W.Frag} {mg : Str → Option Value} {base : Heap} {f : Addr} (z_len : mg "len" = none) (z_range : mg "range" = none) (z_tuple : mg "tuple" = none) : Der P w K mg base N_law_between "_law_between" (defBody s_law_between) (defScope s_law_between) 0 f d_law_between := by
  intro F cdv A outer s H E hr
  have nd : (N_law_between).Nodup := sc_law_between.nd
  exact (pdss_one (pds_ret (pd_callTy call_tuple_of oTuple rfl z_tuple (by decide +kernel) (pda_cons (pd_ofL (pdl_lc (own := [("_law_k", 2)]) rfl nd (pdi_range1 rfl z_range (pda_cons (pd_callB call_len oLen rfl z_len (by decide +kernel) (pda_cons (pd_var 0) pda_nil)) pda_nil)) (blkOk_by (N := N_law_between) (sc := defScope s_law_between) (by decide +kernel)) (fun _ _ _ _ _ => (pdg_name 2 nd)) (fun _ _ _ _ _ => pdts_nil) (fun _ _ _ _ _ => (pd_sub (pd_ix (pd_var 1) (pd_var 2) (fun _ _ => rfl)) (pd_ix (pd_var 0) (pd_var 2) (fun _ _ => rfl)))))) pda_nil))))
def d_law_is_step : DS :=
  (dSeq (dIf (dOr (dNot (dTst (dCB kIsi (dCons (dVar 0) (dCons (dC (.ty "tuple")) dNil))))) (dTst (dOp kNe (dVar 0) (dVar 1)))) (dRet (dC (.bl false))) dNext) (dRet (dOp kEq (dOfL (dLc (iSq (dVar 0)) (gNm 2) (dOr (dNot (dTst (dCB kIsi (dCons (dVar 2) (dCons (dC (.ty "int")) dNil))))) (dTst (dCB kIsi (dCons (dVar 2) (dCons (dC (.ty "bool")) dNil))))) (dVar 2) [2])) (dOfL (dLst dNil)))))
theorem der_law_is_step {P : Program} {w : World} {K : PySem.W.Frag} {mg : Str → Option Value} {base : Heap} {f : Addr} (z_bool : mg "bool" = none) (z_int : mg "int" = none) (z_isinstance : mg "isinstance" = none) (z_tuple : mg "tuple" = none) : Der P w K mg base N_law_is_step "_law_is_step" (defBody s_law_is_step) (defScope s_law_is_step) 0 f d_law_is_step := by
  intro F cdv A outer s H E hr
  have nd : (N_law_is_step).Nodup := sc_law_is_step.nd
  exact (pdss_cons (pds_if (pdt_w (pdw_or (pdt_not (pdt_val (pd_callB call_isi oIsi rfl z_isinstance (by decide +kernel) (pda_cons (pd_var 0) (pda_cons (pd_ty (n := "tuple") rfl z_tuple (by decide +kernel)) pda_nil))))) (pdw_or1 (pdt_cmp (op_neD hr.units) oNe (pd_var 0) (pd_var 1) (nomark _))))) (pdss_one (pds_ret pd_bl)) pdss_nil) (pdss_one (pds_ret (pd_cmp (op_eqD hr.units) oEq (pd_ofL (pdl_lc (own := [("_law_number", 2)]) rfl nd (pdi_seq (pd_var 0)) (blkOk_by (N := N_law_is_step) (sc := defScope s_law_is_step) (by decide +kernel)) (fun _ _ _ _ _ => (pdg_name 2 nd)) (fun _ _ _ _ _ => (pdts_one (pdt_w (pdw_or (pdt_not (pdt_val (pd_callB call_isi oIsi rfl z_isinstance (by decide +kernel) (pda_cons (pd_var 2) (pda_cons (pd_ty (n := "int") rfl z_int (by decide +kernel)) pda_nil))))) (pdw_or1 (pdt_val (pd_callB call_isi oIsi rfl z_isinstance (by decide +kernel) (pda_cons (pd_var 2) (pda_cons (pd_ty (n := "bool") rfl z_bool (by decide +kernel)) pda_nil))))))))) (fun _ _ _ _ _ => (pd_var 2)))) (pd_ofL (pdl_lst pda_nil)) (nomark _)))))
def d_law_right : DS :=
  (dSeq (dAsg 2 (dCall ph_law_between [] (dCons (dVar 0) (dCons (dVar 1) dNil)))) (dSeq (dIf (dNot (dTst (dCall ph_law_is_step [] (dCons (dCall ph_step_between [] (dCons (dVar 0) (dCons (dVar 1) dNil))) (dCons (dVar 2) dNil))))) (dRet (dC (.bl false))) dNext) (dSeq (dAsg 3 (dCallK 2 ph_step_between kw_step_between_other_place (dCons (dVar 0) (dCons (dVar 1) dNil)))) (dSeq (dIf (dNot (dTst (dCall ph_law_is_step [] (dCons (dVar 3) (dCons (dCB kTuple (dCons (dOfL (dLc (iSq (dVar 2)) (gNm 7) dYes (dOp kSub (dC (.int 0)) (dVar 7)) [7])) dNil)) dNil))))) (dRet (dC (.bl false))) dNext) (dSeq (dAsgG (gTp 2 (gsCons (gNm 5) (gsCons (gNm 6) gsNil))) (dCall ph_law_turned [] (dCons (dVar 2) dNil))) (dSeq (dAsg 4 (dCall ph_canonical [] (dCons (dVar 2) dNil))) (dSeq (dIf (dOr (dNot (dTst (dCB kIsi (dCons (dVar 4) (dCons (dC (.ty "tuple")) dNil))))) (dOr (dTst (dOp kNe (dCB kLen (dCons (dVar 4) dNil)) (dC (.int 2)))) (dOr (dTst (dOp kNe (dCB kReprI (dCons (dOp kIx (dVar 4) (dC (.int 0))) dNil)) (dCB kReprI (dCons (dVar 5) dNil)))) (dNot (dTst (dCall ph_law_is_step [] (dCons (dOp kIx (dVar 4) (dC (.int 1))) (dCons (dVar 6) dNil)))))))) (dRet (dC (.bl false))) dNext) (dRet (dAndV (dOp kEq (dCallK 1 ph_canonical kw_canonical_step (dCons (dVar 3) dNil)) (dTup (dCons (dOp kSub (dC (.int 0)) (dVar 5)) (dCons (dVar 6) dNil)))) (dOp kEq (dCall ph_canonical [] (dCons (dVar 6) dNil)) (dTup (dCons (dC (.int 1)) (dCons (dVar 6) dNil)))))))))))))
theorem der_law_right {P : Program} {w : World} {K : PySem.W.Frag} {mg : Str → Option Value} {base : Heap} {f : Addr} (g_canonical : Fn P w K mg base "canonical" s_canonical 1 P_canonical (spP K ph_canonical)) (g_step_between : Fn P w K mg base "step_between" s_step_between 1 P_step_between (spP K ph_step_between)) (g_law_turned : Fn P w K mg base "_law_turned" s_law_turned 1 P_law_turned (spP K ph_law_turned)) (g_law_between : Fn P w K mg base "_law_between" s_law_between 1 P_law_between (spP K ph_law_between)) (g_law_is_step : Fn P w K mg base "_law_is_step" s_law_is_step 1 P_law_is_step (spP K ph_law_is_step)) (z_isinstance : mg "isinstance" = none) (z_len : mg "len" = none) (z_repr : mg "repr" = none) (z_tuple : mg "tuple" = none) : Der P w K mg base N_law_right "_law_right" (defBody s_law_right) (defScope s_law_right) 1 f d_law_right := by
  intro F cdv A outer s H E hr
  have nd : (N_law_right).Nodup := sc_law_right.nd
  exact (pdss_cons (pds_set 2 nd (pd_callF g_law_between hr rfl (pda_cons (pd_var 0) (pda_cons (pd_var 1) pda_nil)))) (pdss_cons (pds_if (pdt_not (pdt_val (pd_callF g_law_is_step hr rfl (pda_cons (pd_callF g_step_between hr rfl (pda_cons (pd_var 0) (pda_cons (pd_var 1) pda_nil))) (pda_cons (pd_var 2) pda_nil))))) (pdss_one (pds_ret pd_bl)) pdss_nil) (pdss_cons (pds_set 3 nd (pd_callK (ks := ["other", "place"]) (g := kw_step_between_other_place) g_step_between hr rfl kw_step_between_other_place_b kw_step_between_other_place_v kw_step_between_other_place_d (pdk_cons (pd_var 0) (pdk_cons (pd_var 1) pdk_nil)))) (pdss_cons (pds_if (pdt_not (pdt_val (pd_callF g_law_is_step hr rfl (pda_cons (pd_var 3) (pda_cons (pd_callTy call_tuple_of oTuple rfl z_tuple (by decide +kernel) (pda_cons (pd_ofL (pdl_lc (own := [("_law_number", 7)]) rfl nd (pdi_seq (pd_var 2)) (blkOk_by (N := N_law_right) (sc := defScope s_law_right) (by decide +kernel)) (fun _ _ _ _ _ => (pdg_name 7 nd)) (fun _ _ _ _ _ => pdts_nil) (fun _ _ _ _ _ => (pd_sub pd_int (pd_var 7))))) pda_nil)) pda_nil))))) (pdss_one (pds_ret pd_bl)) pdss_nil) (pdss_cons (pds_asg (pd_callF g_law_turned hr rfl (pda_cons (pd_var 2) pda_nil)) (pdg_tup rfl (pdgs_cons (pdg_name 5 nd) (pdgs_cons (pdg_name 6 nd) pdgs_nil)))) (pdss_cons (pds_set 4 nd (pd_callF g_canonical hr rfl (pda_cons (pd_var 2) pda_nil))) (pdss_cons (pds_if (pdt_w (pdw_or (pdt_not (pdt_val (pd_callB call_isi oIsi rfl z_isinstance (by decide +kernel) (pda_cons (pd_var 4) (pda_cons (pd_ty (n := "tuple") rfl z_tuple (by decide +kernel)) pda_nil))))) (pdw_or (pdt_cmp (op_neD hr.units) oNe (pd_callB call_len oLen rfl z_len (by decide +kernel) (pda_cons (pd_var 4) pda_nil)) pd_int (nomark _)) (pdw_or (pdt_cmp (op_neD hr.units) oNe (pd_callB SkE.call_repr_int oReprI rfl z_repr (by decide +kernel) (pda_cons (pd_ix (pd_var 4) pd_int (fun _ _ => rfl)) pda_nil)) (pd_callB SkE.call_repr_int oReprI rfl z_repr (by decide +kernel) (pda_cons (pd_var 5) pda_nil)) (nomark _)) (pdw_or1 (pdt_not (pdt_val (pd_callF g_law_is_step hr rfl (pda_cons (pd_ix (pd_var 4) pd_int (fun _ _ => rfl)) (pda_cons (pd_var 6) pda_nil)))))))))) (pdss_one (pds_ret pd_bl)) pdss_nil) (pdss_one (pds_ret (pd_and (pd_cmp (op_eqD hr.units) oEq (pd_callK (ks := ["step"]) (g := kw_canonical_step) g_canonical hr rfl kw_canonical_step_b kw_canonical_step_v kw_canonical_step_d (pdk_cons (pd_var 3) pdk_nil)) (pd_tup (pda_cons (pd_sub pd_int (pd_var 5)) (pda_cons (pd_var 6) pda_nil))) (nomark _)) (pd_one (pd_cmp (op_eqD hr.units) oEq (pd_callF g_canonical hr rfl (pda_cons (pd_var 6) pda_nil)) (pd_tup (pda_cons pd_int (pda_cons (pd_var 6) pda_nil))) (nomark _)))))))))))))
def d_law (p : Addr) : DS :=
  (dSeq (dFor (iRg1 (dCons (dC (.int 8)) dNil)) (gNm 2) (dSeq (dAsgG (gTp 2 (gsCons (gNm 3) (gsCons (gNm 4) gsNil))) (dDraw p ph_law_pair (dCons (dVar 1) dNil))) (dIf (dNot (dTst (dCall ph_law_right [] (dCons (dVar 3) (dCons (dVar 4) dNil))))) (dRet (dC (.bl false))) dNext))) (dRet (dC (.bl true))))
theorem der_law {P : Program} {w : World} {K : PySem.W.Frag} {mg : Str → Option Value} {base : Heap} {f : Addr} (g_law_pen : Fn P w K mg base "_law_pen" s_law_pen 1 P_law_pen (spMk K)) (g_law_pair : Fn P w K mg base "_law_pair" s_law_pair 3 P_law_pair (spD K ph_law_pair)) (g_law_right : Fn P w K mg base "_law_right" s_law_right 2 P_law_right (spP K ph_law_right)) (z_range : mg "range" = none) : DerD P w K mg base N_law "law" ((defBody s_law).tail) (defScope s_law) 3 f d_law := by
  intro F p cdv A outer s H E hF hr
  have nd : (N_law).Nodup := sc_law.nd
  exact (pdss_cons (pds_for PassesOwn.never rfl (pdi_range1 rfl z_range (pda_cons pd_int pda_nil)) (pdg_name 2 nd) (pdss_cons (pds_asg (pd_drawF hF g_law_pair hr rfl (pda_cons (pd_var 1) pda_nil)) (pdg_tup rfl (pdgs_cons (pdg_name 3 nd) (pdgs_cons (pdg_name 4 nd) pdgs_nil)))) (pdss_one (pds_if (pdt_not (pdt_val (pd_callF g_law_right (hr.mono (by decide)) rfl (pda_cons (pd_var 3) (pda_cons (pd_var 4) pda_nil))))) (pdss_one (pds_ret pd_bl)) pdss_nil)))) (pdss_one (pds_ret pd_bl)))
theorem der0_law {P : Program} {w : World} {K : PySem.W.Frag} {mg : Str → Option Value} {base : Heap} {f : Addr} (g_law_pen : Fn P w K mg base "_law_pen" s_law_pen 1 P_law_pen (spMk K)) (cdv : Value) (A : Around) (outer : List Env) (s : Shared) (H : Hp) (E : XK) (hr : Room 3 (A.deeper (envOfC "law" (defScope s_law) s.heap.objs.size f cdv))) : PS (cxOf CX0 P w K mg base N_law "law" (defScope s_law) f cdv A outer s H E).nox ((defBody s_law).headD (.Pass ⟨0, 0, 0, 0⟩)) (tAsg (tCall (spMk K) [] E0 (tCons (tVar 0) tNil)) (gName 1)) := by
  obtain ⟨f2, fd2, hm, FD, hb, G⟩ := g_law_pen.ex
  exact ps_set (i := 1) sc_law.nd rfl (by first | exact Or.inl rfl | exact Or.inr rfl) (pe_call G (hr.mono (by decide)) rfl hm FD.kp hb .nil pass0 (pa_cons (pv 0) pa_nil))
end My
set_option Elab.async false
set_option linter.all false
set_option maxRecDepth 100000
set_option maxHeartbeats 4000000
namespace My
open PySem PySem.Spec PyProof.Rows L2 Y
local macro_rules | `(tactic| walk_at "y") => `(tactic| simp only [dSeq, dNext, dBreak, dCont, dAsg, dAsgL, dAsgG, dPar, dOp, dUn, dCB, dCall, dCallL, dDraw, dDrawL, dCallK, dIf, dTst, dChain, dAnd, dOr, dNot, dAndV, dOrV, dNotV, dIfE, dNil, dCons, dTup, dLst, dList, dOfL, dLc, dC, dVar, dYes, dSl, dNoPart, dPart, dIxO, dSetO, dApp, dFrz, frz, dLook, dLookT, dRet, dRetL, dRetN, dRetV, dDrop, dFor, iSq, iRg1, iRg2, iZp, iEn, gNm, gTp, gsNil, gsCons, kIsN, kNotN, R.d, MO.d, MO.items, List.getElem?_cons_zero, List.getElem?_cons_succ, List.set_cons_zero, List.set_cons_succ, wipeD, startD, List.map_cons, List.map_nil, List.cons_append, List.nil_append, List.append_nil, List.length_cons, List.length_nil, List.replicate_succ, List.replicate_zero, Nat.reduceSub, Nat.reduceAdd, Nat.reduceLeDiff, true_and, and_true, if_true, if_false, Bool.not_true, Bool.not_false, Bool.false_eq_true, not_true_eq_false, not_false_eq_true, decide_true, decide_false, kAdd_ii, kAdd_ss, kAdd_ll, kAdd_tt, kSub_ii, kMul_ii, kMul_li, kDiv_ii, kMod_ii, kPow_ii, kNeg_i, kLt_ii, kLe_ii, kGt_ii, kGe_ii, kSl_l, kSl_t, kSl_s, kLen_l, kLen_t, kLen_s, kAbs_i, kInt_i, kInt_b, kBool_i, kBool_b, kTuple_l, kTuple_t, kReprI_i, kIxl, kIxt, atI0, atI1, atI2, atI3, atI4, atI5, ex_some, kEq_ii, kNe_ii, kEq_tt, kNe_tt, kEq_ll, kNe_ll, kEq_ln, kNe_ln, List.length_map, cellsD, decide_eq_true_eq, kIsi_int_int, kIsi_int_bool, kIsi_int_str, kIsi_int_tuple, kIsi_int_list, kIsi_bool_int, kIsi_bool_bool, kIsi_bool_str, kIsi_bool_tuple, kIsi_bool_list, kIsi_str_int, kIsi_str_bool, kIsi_str_str, kIsi_str_tuple, kIsi_str_list, kIsi_tuple_int, kIsi_tuple_bool, kIsi_tuple_str, kIsi_tuple_tuple, kIsi_tuple_list, kIsi_list_int, kIsi_list_bool, kIsi_list_str, kIsi_list_tuple, kIsi_list_list, kIsi_NoneType_int, kIsi_NoneType_bool, kIsi_NoneType_str, kIsi_NoneType_tuple, kIsi_NoneType_list])
theorem len_canonical : ∀ ds q, ph_canonical ds q → ds.length = P_canonical.length := by
  rintro ds q ⟨ns, rfl, _⟩; rfl
theorem sg_first : ∀ ns : List Int, (∃ n, n ∈ ns ∧ n ≠ 0) → ∃ m rest, ns.filter (fun n => !decide (n = 0)) = m :: rest ∧ sg ns = (if 0 < m then 1 else -1) ∧ m ≠ 0
  | [], h => by obtain ⟨n, hn, _⟩ := h; cases hn
  | x :: xs, h => by
    by_cases e : x = 0
    · obtain ⟨n, hn, h0⟩ := h
      have : n ∈ xs := by
        rcases List.mem_cons.mp hn with z | z
        · exact absurd (z.trans e) h0
        · exact z
      obtain ⟨m, rest, h1, h2, h3⟩ := sg_first xs ⟨n, this, h0⟩
      refine ⟨m, rest, ?_, ?_, h3⟩
      · rw [List.filter_cons, if_neg (by simp [e])]; exact h1
      · unfold sg; rw [if_pos e]; exact h2
    · refine ⟨x, xs.filter (fun n => !decide (n = 0)), ?_, ?_, e⟩
      · rw [List.filter_cons, if_pos (by simp [e])]
      · unfold sg; rw [if_neg e]
theorem pure_canonical : ∀ ds q, ph_canonical ds q → d_canonical { nx := fun _ _ => q (.sh .non), rt := fun r _ _ => q r } (startD N_canonical ds) 0 := by
  rintro ds q ⟨ns, rfl, hl, hex, hq⟩
  obtain ⟨m, rest, h1, h2, h3⟩ := sg_first ns hex
  unfold d_canonical
  walk_at "y"
  refine lc_int (fun n => !decide (n = 0)) D.int (fun n hn A K hk => ?_) (by omega) ?_
  · walk_at "y"
    simpa using hk
  rw [h1]
  walk_at "y"
  by_cases e : 0 < m
  · rw [if_pos e] at h2
    have hc : can ns = ns := by unfold can; rw [h2]; rfl
    rw [h2, hc] at hq
    simp only [e, decide_true, if_true]
    exact hq
  · rw [if_neg e] at h2
    have hc : can ns = ns.map fun n => 0 - n := by unfold can; rw [h2]; rfl
    rw [h2, hc] at hq
    simp only [e, decide_false, Bool.false_eq_true, if_false]
    refine lc_int1 (fun n => .int (0 - n)) (fun n hn A K hk => ?_) (by omega) ?_
    · walk_at "y"; exact hk
    · have : (ns.map fun n => D.int (0 - n)) = (ns.map fun n => 0 - n).map D.int := by rw [List.map_map]; rfl
      rw [this]; exact hq
theorem len_law_turned : ∀ ds q, ph_law_turned ds q → ds.length = P_law_turned.length := len_canonical
theorem pure_law_turned : ∀ ds q, ph_law_turned ds q → d_law_turned { nx := fun _ _ => q (.sh .non), rt := fun r _ _ => q r } (startD N_law_turned ds) 0 := pure_canonical
theorem len_step_between : ∀ ds q, ph_step_between ds q → ds.length = P_step_between.length := by
  rintro ds q ⟨a, b, rfl, _⟩; rfl
theorem pairs_ints : ∀ (a b : List Int), pairs (a.map D.int) (b.map D.int) = List.zipWith (fun x y => D.tup [.int x, .int y]) a b
  | [], _ => rfl
  | _ :: _, [] => rfl
  | x :: a, y :: b => by
    have := pairs_ints a b
    unfold pairs at this ⊢
    simp [this]
theorem pure_step_between : ∀ ds q, ph_step_between ds q → d_step_between { nx := fun _ _ => q (.sh .non), rt := fun r _ _ => q r } (startD N_step_between ds) 0 := by
  rintro ds q ⟨a, b, rfl, hab, hl, hq⟩
  unfold d_step_between
  walk_at "y"
  rw [pairs_ints]
  refine lc_map (fun x => match x with | .tup [.int x, .int y] => .int (y - x) | _ => .non) (fun x hx A K hk => ?_) (by simp; omega) ?_
  · obtain ⟨i, hi, e⟩ := List.mem_iff_getElem.mp hx
    rw [List.getElem_zipWith] at e
    subst e
    walk_at "y"; exact hk
  · have : (List.zipWith (fun x y => D.tup [.int x, .int y]) a b).map (fun x => match x with | .tup [.int x, .int y] => D.int (y - x) | _ => .non) = (dif a b).map D.int := by
      unfold dif
      rw [List.map_zipWith, List.map_zipWith]
    rw [this]; exact hq
theorem len_law_between : ∀ ds q, ph_law_between ds q → ds.length = P_law_between.length := len_step_between
theorem pure_law_between : ∀ ds q, ph_law_between ds q → d_law_between { nx := fun _ _ => q (.sh .non), rt := fun r _ _ => q r } (startD N_law_between ds) 0 := by
  rintro ds q ⟨a, b, rfl, hab, hl, hq⟩
  unfold d_law_between
  walk_at "y"
  refine ⟨by omega, ?_⟩
  refine lc_map (fun x => match x with | .int k => .int (b.getD k.toNat 0 - a.getD k.toNat 0) | _ => .non) (fun x hx A K hk => ?_) (by rw [rng_length]; omega) ?_
  · obtain ⟨i, hi⟩ := List.mem_iff_getElem?.mp hx
    obtain ⟨h1, rfl⟩ := rng_get hi
    have ha : i < a.length := by omega
    have hb : i < b.length := by omega
    walk_at "y"
    rw [Int.zero_add]
    refine at_int (n := b[i]) (atI_nat (List.getElem?_eq_getElem hb)) ?_
    refine at_int (n := a[i]) (atI_nat (List.getElem?_eq_getElem ha)) ?_
    simp only [Int.zero_add, Int.toNat_natCast] at hk
    rw [List.getD_eq_getElem?_getD, List.getD_eq_getElem?_getD, List.getElem?_eq_getElem hb, List.getElem?_eq_getElem ha] at hk
    exact hk
  · have : (rng 0 (a.length : Int).toNat).map (fun x => match x with | .int k => D.int (b.getD k.toNat 0 - a.getD k.toNat 0) | _ => .non) = (dif a b).map D.int := by
      apply List.ext_getElem?
      intro i
      by_cases h : i < a.length
      · have hb : i < b.length := by omega
        have h1 : (rng 0 (a.length : Int).toNat)[i]? = some (.int (0 + (i : Int))) := by simp [rng, h]
        rw [List.getElem?_map, h1, List.getElem?_map]
        simp [dif, List.getElem?_zipWith, List.getElem?_eq_getElem h, List.getElem?_eq_getElem hb]
      · rw [List.getElem?_eq_none (by rw [List.length_map, rng_length]; omega), List.getElem?_eq_none (by simp [dif]; omega)]
    rw [this]; exact hq
theorem len_law_is_step : ∀ ds q, ph_law_is_step ds q → ds.length = P_law_is_step.length := by
  rintro ds q ⟨a, b, rfl, _⟩; rfl
theorem pure_law_is_step : ∀ ds q, ph_law_is_step ds q → d_law_is_step { nx := fun _ _ => q (.sh .non), rt := fun r _ _ => q r } (startD N_law_is_step ds) 0 := by
  rintro ds q ⟨a, b, rfl, ha, hb, hq⟩
  unfold d_law_is_step
  walk_at "y"
  by_cases e : a = b
  · simp only [e, decide_true, Bool.not_true, Bool.false_eq_true, if_false] at hq ⊢
    refine lc_int (fun _ => false) D.int (fun n hn A K hk => ?_) (by omega) ?_
    · walk_at "y"
      simpa using hk
    · have : ((b.filter fun _ => false).map D.int) = [] := by simp
      rw [this]
      exact (kEq_ln (a := [])).mpr hq
  · simp only [e, decide_false, Bool.not_false, if_true] at hq ⊢
    exact hq
theorem pure_law_draw : ∀ (ns : List Int) (c g n : Int) (A : Nat) (p cl : Addr), ns.length ≤ 63 → 0 ≤ c → c ≤ (A : Int) → A < lim → (0 < n ∧ n < 18446744073709551616) →
      d_law_draw { nx := fun _ _ => False, rt := fun r ρ _ => ∃ (k c2 g2 : Int), r = .sh (.int k) ∧ (0 ≤ k ∧ k < n) ∧ (0 ≤ c2 ∧ c2 ≤ (A : Int) + 1) ∧ ρ[0]? = some (.own (some p) (.pen cl ns c2 g2)) }
        (Sl.own (some p) (.pen cl ns c g) :: Sl.sh (.int n) :: List.replicate (N_law_draw.length - 2) .no) 0 := by
  intro ns c g n A p cl h63 hc hcA hA hn
  have hA : A < 100000 := hA
  obtain ⟨hn, hn2⟩ := hn
  unfold d_law_draw
  refine seq_step fun nx hnx => ?_
  refine if_step fun P h1 h0 => ?_
  try walk_at "y"
  refine p_dec (fun hg => h1 _ ?_) (fun hg => h0 _ ?_) <;> clear h1 h0
  · clear hnx
    refine seq_step fun nx hnx => ?_
    try walk_at "y"
    refine ⟨by omega, hnx _ _ ?_⟩
    clear hnx
    refine seq_step fun nx hnx => ?_
    try walk_at "y"
    refine ⟨divOk_of hn hn2, 2, _, by decide, rfl, hnx _ _ ?_⟩
    try walk_at "y"
    exact ⟨_, _, _, rfl, ⟨fmod_lo hn, fmod_hi hn⟩, ⟨hc, by omega⟩, rfl⟩
  · try walk_at "y"
    refine hnx _ _ ?_
    clear hnx
    refine seq_step fun nx hnx => ?_
    try walk_at "y"
    refine hnx _ _ ?_
    clear hnx
    refine seq_step fun nx hnx => ?_
    try walk_at "y"
    refine ⟨1, _, by decide, rfl, hnx _ _ ?_⟩
    clear hnx
    refine seq_step fun nx hnx => ?_
    try walk_at "y"
    refine ⟨.inr (.inl (by decide)), hnx _ _ ?_⟩
    clear hnx
    refine seq_step fun nx hnx => ?_
    have key : ∀ v : Int, nx [Sl.own (some p) (MO.pen cl ns (c + 1) g), Sl.sh (D.int n), Sl.sh (D.int c), Sl.sh (D.int v), Sl.no, Sl.no, Sl.no] 0 := by
      intro v
      refine hnx _ _ ?_
      clear hnx
      refine seq_step fun nx hnx => ?_
      refine if_step fun P h1 h0 => ?_
      have key0 : P false 0 := by
        refine h0 _ ?_
        clear h0 h1
        try walk_at "y"
        refine hnx _ _ ?_
        clear hnx
        refine seq_step fun nx hnx => ?_
        have sq := sq_le hc (show c < 100000 by omega)
        have f0 := fmod_lo (a := v) (n := 2147483563) (by decide)
        have f1 := fmod_hi (a := v) (n := 2147483563) (by decide)
        try walk_at "y"
        refine ⟨by decide, .inr (.inl (by decide)), .inr (.inr (by omega)), .inr (.inl (by decide)), ⟨by decide, by decide, by omega⟩, by decide, hnx _ _ ?_⟩
        clear hnx
        generalize ((v.fmod 2147483563 + 43029 * c * c + 51039 * c + 29) ^ (Int.toNat 5)) = e5
        have f0 := fmod_lo (a := e5) (n := 2147483647) (by decide)
        have f1 := fmod_hi (a := e5) (n := 2147483647) (by decide)
        generalize e5.fmod 2147483647 = m1 at f0 f1 ⊢
        refine seq_step fun nx hnx => ?_
        try walk_at "y"
        have mm := mul_le2 f0 (show m1 ≤ 2147483647 by omega) (show 0 ≤ 2 * c + 35 by omega) (show 2 * c + 35 ≤ 200035 by omega)
        refine ⟨.inr (.inl (by decide)), .inr (.inl (by omega)), .inr (.inl (by decide)), ⟨by decide, by decide, by omega⟩, by decide, hnx _ _ ?_⟩
        clear hnx
        generalize ((m1 * (2 * c + 35) + 325 * c + 7) ^ (Int.toNat 3)).fmod 2147483587 = m2
        try walk_at "y"
        refine ⟨⟨by decide, by decide⟩, by omega, _, _, _, rfl, ⟨fmod_lo hn, fmod_hi hn⟩, ⟨by omega, by omega⟩, rfl⟩
      try walk_at "y"
      try walk_at "y"
      by_cases hlt : c < (ns.length : Int)
      · rw [if_pos hlt]
        refine ⟨⟨by decide, by decide, by decide⟩, p_dec (fun hb => h1 _ ?_) (fun _ => key0)⟩
        clear h1 h0 hnx
        refine seq_step fun nx hnx => ?_
        try walk_at "y"
        refine ⟨.inr (.inl (by decide)), hnx _ _ ?_⟩
        clear hnx
        generalize (2 * (if v < 0 then -v else v) + _) = e6
        refine seq_step fun nx hnx => ?_
        try walk_at "y"
        refine ⟨divOk_of hn hn2, 2, _, by decide, rfl, hnx _ _ ?_⟩
        clear hnx
        try walk_at "y"
        refine ⟨by omega, _, _, _, rfl, ⟨fmod_lo hn, fmod_hi hn⟩, ⟨by omega, by omega⟩, rfl⟩
      · rw [if_neg hlt]; exact key0
    refine if_step fun P h1 h0 => ?_
    have key0 : P false 0 := by
      refine h0 _ ?_
      try walk_at "y"
      exact key _
    try walk_at "y"
    refine p_ndec (fun h => ?_) (fun h => key0)
    refine h1 _ ?_
    try walk_at "y"
    try walk_at "y"
    have hl : (List.length ns : Int) ≠ 0 := by
      cases ns with
      | nil => exact absurd rfl h
      | cons x xs => simp; omega
    try walk_at "y"
    refine ⟨by simpa using h, ?_⟩
    obtain ⟨x, _, hx⟩ := at_mod (ns := ns) (k := c) h (m := (ns.length : Int)) rfl
    try walk_at "y"
    refine at_int hx ?_
    try walk_at "y"
    exact key x
theorem len_law_place : ∀ p ds A q, ph_law_place p ds A q → ds.length = P_law_place.length := by
  rintro p ds A q ⟨d, rfl, _⟩; rfl
theorem pure_law_place : ∀ p ds A q, ph_law_place p ds A q → d_law_place p { nx := fun _ A' => q (.sh .non) A', rt := fun r _ A' => q r A' } (startD N_law_place ds) A := by
  rintro p ds A q ⟨d, rfl, hd1, hd3, hA, hq⟩
  have hA : A + 20 ≤ 100000 := hA
  unfold d_law_place
  refine seq_step fun nx hnx => ?_
  have key : ∀ w : Int, 0 ≤ w → w ≤ 1000 → nx [Sl.sh (.ref p), Sl.sh (.int d), Sl.sh (.int w), Sl.no] (A + 1) := by
    intro w h0 h1
    refine hnx _ _ ?_
    clear hnx
    walk_at "y"
    refine ⟨by omega, ?_⟩
    refine lc_inv (fun i acc A' => ∃ ns : List Int, acc = ns.map D.int ∧ ns.length = i ∧ (∀ n ∈ ns, -1000 ≤ n ∧ n ≤ 1000) ∧ A' ≤ A + 1 + 2 * i) (fun i x acc A' K hx hI hk _ => ?_) (fun acc A' hI => ?_) (A := A + 1) ⟨[], rfl, rfl, (by simp), by omega⟩
    · obtain ⟨h2, rfl⟩ := rng_get hx
      obtain ⟨ns, rfl, hl, hb, hA'⟩ := hI
      refine ⟨by simp; omega, ?_⟩
      have h2 : i < d := by omega
      have key2 : ∀ n : Int, -1000 ≤ n → n ≤ 1000 → ∀ A2, A2 ≤ A' + 2 → K (some (.int n)) A2 := fun n hn0 hn1 A2 hA2 => by
        refine hk _ A2 ⟨ns ++ [n], by simp, by simp [hl], fun m hm => ?_, by omega⟩
        rcases List.mem_append.mp hm with z | z
        · exact hb m z
        · rw [List.mem_singleton.mp z]; exact ⟨hn0, hn1⟩
      walk_at "y"
      refine ⟨.inr (.inl (by decide)), 2 * w + 1, rfl, ⟨by omega, by omega⟩, (show A' < 100000 by omega), fun k hk0 hk1 => ?_⟩
      try walk_at "y"
      refine ⟨4, rfl, ⟨by decide, by decide⟩, (show A' + 1 < 100000 by omega), fun k2 hk20 hk21 => ?_⟩
      try walk_at "y"
      have : k2 = 0 ∨ k2 = 1 ∨ k2 = 2 ∨ k2 = 3 := by omega
      rcases this with rfl | rfl | rfl | rfl
      · exact ⟨_, atI_n 0 rfl, key2 _ (by omega) (by omega) _ (by omega)⟩
      · exact ⟨_, atI_n 1 rfl, key2 _ (by omega) (by omega) _ (by omega)⟩
      · exact ⟨_, atI_n 2 rfl, key2 _ (by omega) (by omega) _ (by omega)⟩
      · exact ⟨_, atI_n 3 rfl, key2 _ (by omega) (by omega) _ (by omega)⟩
    · obtain ⟨ns, rfl, hl, hb, hA'⟩ := hI
      rw [rng_length] at hl hA'
      have hl : ns.length = d := by omega
      exact hq ns _ ⟨hl, hb⟩ (by omega)
  clear hnx
  walk_at "y"
  refine ⟨3, rfl, ⟨by decide, by decide⟩, (show A < 100000 by omega), fun k hk0 hk1 => ?_⟩
  have : k = 0 ∨ k = 1 ∨ k = 2 := by omega
  rcases this with rfl | rfl | rfl
  · exact ⟨_, atI_n 0 rfl, key _ (by omega) (by omega)⟩
  · exact ⟨_, atI_n 1 rfl, key _ (by omega) (by omega)⟩
  · exact ⟨_, atI_n 2 rfl, key _ (by omega) (by omega)⟩
theorem len_law_pair : ∀ p ds A q, ph_law_pair p ds A q → ds.length = P_law_pair.length := by
  rintro p ds A q ⟨rfl, _⟩; rfl
theorem pure_law_pair : ∀ p ds A q, ph_law_pair p ds A q → d_law_pair p { nx := fun _ A' => q (.sh .non) A', rt := fun r _ A' => q r A' } (startD N_law_pair ds) A := by
  rintro p ds A q ⟨rfl, hA, hq⟩
  have hA : A + 100 ≤ 100000 := hA
  unfold d_law_pair
  refine seq_step fun nx hnx => ?_
  walk_at "y"
  refine ⟨3, rfl, ⟨by decide, by decide⟩, (show A < 100000 by omega), fun k hk0 hk1 => ?_⟩
  try walk_at "y"
  refine hnx _ _ ?_
  clear hnx
  obtain ⟨d, hd⟩ : ∃ d : Nat, (1 + k) = d := ⟨(1 + k).toNat, by omega⟩
  rw [hd]
  have hd1 : 1 ≤ d := by omega
  have hd3 : d ≤ 3 := by omega
  refine seq_step fun nx hnx => ?_
  walk_at "y"
  refine ⟨d, rfl, hd1, hd3, (show A + 1 + 20 ≤ 100000 by omega), fun a A1 ha hA1 => hnx _ _ ?_⟩
  clear hnx
  refine seq_step fun nx hnx => ?_
  walk_at "y"
  refine ⟨d, rfl, hd1, hd3, (show A1 + 20 ≤ 100000 by omega), fun b A2 hb hA2 => hnx _ _ ?_⟩
  clear hnx
  have hal : 0 < (a.map D.int).length := by rw [List.length_map, ha.1]; omega
  have hbl : 0 < (b.map D.int).length := by rw [List.length_map, hb.1]; omega
  refine seq_step fun nx hnx => ?_
  have key : ∀ (b : List Int) A3, okPl d b → A3 ≤ A + 50 → nx [Sl.sh (.ref p), Sl.sh (.int d), Sl.sh (.tup (a.map D.int)), Sl.sh (.tup (b.map D.int))] A3 := by
    intro b A3 hb hA3
    refine hnx _ _ ?_
    clear hnx
    refine seq_step fun nx hnx => ?_
    have fin : ∀ b, okPl d b → a ≠ b → nx [Sl.sh (.ref p), Sl.sh (.int d), Sl.sh (.tup (a.map D.int)), Sl.sh (.tup (b.map D.int))] A3 := by
      intro b hb hne
      refine hnx _ _ ?_
      walk_at "y"
      exact hq d a b A3 ha hb hd1 hd3 hne (by omega)
    refine if_step fun P h1 h0 => ?_
    walk_at "y"
    refine p_dec (fun hc => h1 _ ?_) (fun hc => h0 _ ?_)
    · clear h1 h0
      walk_at "y"
      obtain ⟨x, hx⟩ : ∃ x, a[a.length - 1]? = some x := ⟨_, List.getElem?_eq_getElem (by rw [List.length_map] at hal; omega)⟩
      refine at_int (atI_m1 hx) ?_
      walk_at "y"
      refine at_int (atI_m1 hx) ?_
      walk_at "y"
      have hxm : x ∈ a := List.mem_of_getElem? hx
      have hxb := ha.2 x hxm
      have hcut : Y.cutD (List.map D.int a) none (some (-1)) = (a.take (a.length - 1)).map D.int := by
        rw [cut_m1 _ hal, List.length_map, List.map_take]
      rw [hcut]
      have hal' : 0 < a.length := by rw [List.length_map] at hal; exact hal
      have go : ∀ y : Int, -1000 ≤ y → y ≤ 1000 → y ≠ x → nx [Sl.sh (.ref p), Sl.sh (.int d), Sl.sh (.tup (a.map D.int)), Sl.sh (.tup ((a.take (a.length - 1)).map D.int ++ [D.int y]))] A3 := by
        intro y hy0 hy1 hne
        have : (a.take (a.length - 1)).map D.int ++ [D.int y] = (a.take (a.length - 1) ++ [y]).map D.int := by simp
        rw [this]
        refine fin _ ⟨by have := ha.1; simp; omega, fun n hn => ?_⟩ fun e => ?_
        · rcases List.mem_append.mp hn with z | z
          · exact ha.2 n (List.mem_of_mem_take z)
          · rw [List.mem_singleton.mp z]; exact ⟨hy0, hy1⟩
        · have h1 := congrArg (fun l => l[a.length - 1]?) e
          simp only [hx] at h1
          rw [List.getElem?_append_right (by simp)] at h1
          simp at h1
          exact hne h1.symm
      have hlen : (List.map D.int (List.take (a.length - 1) a)).length ≤ 99999 := by
        have := ha.1; simp; omega
      by_cases e : x = 1000
      · rw [if_pos e, atI1, ex_some]
        exact ⟨hlen, go _ (by omega) (by omega) (by omega)⟩
      · rw [if_neg e, atI0, ex_some]
        exact ⟨hlen, go _ (by omega) (by omega) (by omega)⟩
    · walk_at "y"; exact fin b hb hc
  clear hnx
  walk_at "y"
  refine ⟨4, rfl, ⟨by decide, by decide⟩, (show A2 < 100000 by omega), fun k hk0 hk1 => ?_⟩
  try walk_at "y"
  have h1 : Y.cutD (List.map D.int a) none (some (-1)) = (a.take (a.length - 1)).map D.int := by
    rw [cut_m1 _ hal, List.length_map, List.map_take]
  have h2 : Y.cutD (List.map D.int b) (some (-1)) none = (b.drop (b.length - 1)).map D.int := by
    rw [cut_m1' _ hbl, List.length_map, List.map_drop]
  by_cases e : k = 0
  · rw [if_pos e, h1, h2, ← List.map_append]
    have := ha.1
    have := hb.1
    refine ⟨by simp; omega, key _ _ ⟨by simp; omega, fun n hn => ?_⟩ (by omega)⟩
    rcases List.mem_append.mp hn with z | z
    · exact ha.2 n (List.mem_of_mem_take z)
    · exact hb.2 n (List.mem_of_mem_drop z)
  · rw [if_neg e]
    exact key b _ hb (by omega)
theorem dif_len (a b : List Int) (h : a.length = b.length) : (dif a b).length = a.length := by simp [dif, h]
theorem dif_neg : ∀ a b : List Int, a.length = b.length → dif b a = (dif a b).map fun n => 0 - n
  | [], [], _ => rfl
  | x :: a, y :: b, h => by
    have ih := dif_neg a b (by simpa using h)
    show (x - y) :: dif b a = (0 - (y - x)) :: (dif a b).map fun n => 0 - n
    rw [ih]; congr 1; omega
theorem dif_ne : ∀ a b : List Int, a.length = b.length → a ≠ b → ∃ n, n ∈ dif a b ∧ n ≠ 0
  | [], [], _, h => absurd rfl h
  | x :: a, y :: b, hl, h => by
    by_cases e : x = y
    · have : a ≠ b := fun z => h (by rw [e, z])
      obtain ⟨n, hn, h0⟩ := dif_ne a b (by simpa using hl) this
      exact ⟨n, List.mem_cons_of_mem _ hn, h0⟩
    · exact ⟨y - x, List.mem_cons_self, by omega⟩
theorem sg_neg : ∀ ns : List Int, (∃ n, n ∈ ns ∧ n ≠ 0) → sg (ns.map fun n => 0 - n) = 0 - sg ns
  | [], h => by obtain ⟨n, hn, _⟩ := h; cases hn
  | x :: xs, h => by
    show (if 0 - x = 0 then sg (xs.map fun n => 0 - n) else if 0 < 0 - x then 1 else -1) = 0 - (if x = 0 then sg xs else if 0 < x then 1 else -1)
    by_cases e : x = 0
    · rw [if_pos (by omega), if_pos e]
      refine sg_neg xs ?_
      obtain ⟨n, hn, h0⟩ := h
      rcases List.mem_cons.mp hn with z | z
      · exact absurd (z.trans e) h0
      · exact ⟨n, z, h0⟩
    · rw [if_neg (by omega), if_neg e]
      by_cases e2 : 0 < x
      · rw [if_neg (by omega), if_pos e2]; rfl
      · rw [if_pos (by omega), if_neg e2]; rfl
theorem neg_neg_map (ns : List Int) : (ns.map fun n => 0 - n).map (fun n => 0 - n) = ns := by
  rw [List.map_map]
  have : ((fun n : Int => 0 - n) ∘ fun n => 0 - n) = id := by funext n; show 0 - (0 - n) = n; omega
  rw [this, List.map_id]
theorem sg_pm (ns : List Int) : sg ns = 1 ∨ sg ns = -1 := by
  induction ns with
  | nil => exact .inl rfl
  | cons x xs ih =>
    unfold sg
    split
    · exact ih
    · split
      · exact .inl rfl
      · exact .inr rfl
theorem neg_ex {ns : List Int} (h : ∃ n, n ∈ ns ∧ n ≠ 0) : ∃ n, n ∈ (ns.map fun n => 0 - n) ∧ n ≠ 0 := by
  obtain ⟨n, hn, h0⟩ := h
  exact ⟨0 - n, List.mem_map.mpr ⟨n, hn, rfl⟩, by omega⟩
theorem can_neg (ns : List Int) (h : ∃ n, n ∈ ns ∧ n ≠ 0) : can (ns.map fun n => 0 - n) = can ns := by
  unfold can
  rw [sg_neg ns h]
  rcases sg_pm ns with e | e <;> rw [e]
  · rw [if_neg (by decide), if_pos (by decide), neg_neg_map]
  · rw [if_pos (by decide), if_neg (by decide)]
theorem sg_can (ns : List Int) (h : ∃ n, n ∈ ns ∧ n ≠ 0) : sg (can ns) = 1 ∧ can (can ns) = can ns := by
  unfold can
  rcases sg_pm ns with e | e
  · rw [e, if_pos (by decide), e]; exact ⟨rfl, rfl⟩
  · have : sg (ns.map fun n => 0 - n) = 1 := by rw [sg_neg ns h, e]; rfl
    rw [e, if_neg (by decide), this]
    exact ⟨rfl, rfl⟩
theorem can_ex (ns : List Int) (h : ∃ n, n ∈ ns ∧ n ≠ 0) : ∃ n, n ∈ can ns ∧ n ≠ 0 := by
  unfold can
  split
  · exact h
  · exact neg_ex h
theorem can_len (ns : List Int) : (can ns).length = ns.length := by
  unfold can
  split
  · rfl
  · simp
theorem kEq_it {i j : Int} {a b : List Int} {q : D → Prop} (h1 : i = j) (h2 : a = b) (h : q (.bl true)) : kEq (.tup [.int i, .tup (a.map D.int)]) (.tup [.int j, .tup (b.map D.int)]) q := by
  subst h1; subst h2
  have o : ∀ d ∈ [D.int i, D.tup (a.map D.int)], OkD 2 d := by
    intro d hd
    rcases List.mem_cons.mp hd with rfl | hd
    · exact .int
    · rw [List.mem_singleton.mp hd]; exact .tI
  refine (kEq_of (n := 3) (m := 3) (.tup o) (.tup o)).mpr ?_
  have : PyData.eqv (D.tup [.int i, .tup (a.map D.int)]).py (D.tup [.int i, .tup (a.map D.int)]).py = true := by
    have e := eqv_tt (a := a) (b := a)
    rw [decide_eq_true rfl] at e
    simp only [D.py, D.pys, PyData.eqv, PyData.eqvAll, beq_self_eq_true, Bool.true_and, Bool.and_true] at e ⊢
    exact e
  rw [this]; exact h
theorem len_law_right : ∀ ds q, ph_law_right ds q → ds.length = P_law_right.length := by
  rintro ds q ⟨d, a, b, rfl, _⟩; rfl
theorem pure_law_right : ∀ ds q, ph_law_right ds q → d_law_right { nx := fun _ _ => q (.sh .non), rt := fun r _ _ => q r } (startD N_law_right ds) 0 := by
  rintro ds q ⟨d, a, b, rfl, ha, hb, hd, hne, hq⟩
  have hl : a.length = b.length := by rw [ha.1, hb.1]
  have hl3 : a.length ≤ 3 := by rw [ha.1]; exact hd
  have hx := dif_ne a b hl hne
  have hdl := dif_len a b hl
  unfold d_law_right
  refine seq_step fun nx hnx => ?_
  walk_at "y"
  refine ⟨a, b, rfl, hl, by omega, hnx _ _ ?_⟩
  clear hnx
  refine seq_step fun nx hnx => ?_
  walk_at "y"
  refine ⟨a, b, rfl, hl, by omega, _, _, rfl, by omega, by omega, ?_⟩
  walk_at "y"
  refine hnx _ _ ?_
  clear hnx
  refine seq_step fun nx hnx => ?_
  walk_at "y"
  refine ⟨b, a, rfl, hl.symm, by omega, hnx _ _ ?_⟩
  clear hnx
  rw [dif_neg a b hl]
  refine seq_step fun nx hnx => ?_
  walk_at "y"
  refine lc_int1 (fun n => .int (0 - n)) (fun n hn A K hk => ?_) (by omega) ?_
  · walk_at "y"; exact hk
  have e0 : (List.map (fun n => D.int (0 - n)) (dif a b)) = ((dif a b).map fun n => 0 - n).map D.int := by rw [List.map_map]; rfl
  rw [e0]
  refine ⟨_, _, rfl, by simp; omega, by simp; omega, ?_⟩
  walk_at "y"
  refine hnx _ _ ?_
  clear hnx
  have hdl20 : (dif a b).length ≤ 20 := by omega
  refine seq_step fun nx hnx => ?_
  walk_at "y"
  refine ⟨_, rfl, hdl20, hx, ?_⟩
  walk_at "y"
  refine hnx _ _ ?_
  clear hnx
  refine seq_step fun nx hnx => ?_
  walk_at "y"
  refine ⟨_, rfl, hdl20, hx, hnx _ _ ?_⟩
  clear hnx
  refine seq_step fun nx hnx => ?_
  walk_at "y"
  have key : nx [Sl.sh (tI a), Sl.sh (tI b), Sl.sh (tI (dif a b)), Sl.sh (tI (List.map (fun n => 0 - n) (dif a b))), Sl.sh (D.tup [D.int (sg (dif a b)), tI (can (dif a b))]), Sl.sh (D.int (sg (dif a b))), Sl.sh (tI (can (dif a b))), Sl.no] 0 := by
    refine hnx _ _ ?_
    clear hnx
    walk_at "y"
    refine ⟨_, rfl, by rw [List.length_map]; exact hdl20, neg_ex hx, ?_⟩
    walk_at "y"
    refine kEq_it (sg_neg _ hx) (can_neg _ hx) ?_
    walk_at "y"
    refine ⟨_, rfl, by rw [can_len]; exact hdl20, can_ex _ hx, ?_⟩
    walk_at "y"
    exact kEq_it (sg_can _ hx).1 (sg_can _ hx).2 hq
  rw [if_neg (by decide)]
  have hlog : (sg (dif a b)).natAbs.log2 < 1920 := by
    rcases sg_pm (dif a b) with e | e <;> rw [e] <;> decide +kernel
  have hok : PyData.strOk (Str.ofString (toString (sg (dif a b)))) = true := by
    rcases sg_pm (dif a b) with e | e <;> rw [e] <;> decide +kernel
  refine ⟨hlog, hlog, (kNe_ss hok hok).mpr ?_⟩
  rw [show (Str.ofString (toString (sg (dif a b))) == Str.ofString (toString (sg (dif a b)))) = true from by simp]
  walk_at "y"
  refine ⟨_, _, rfl, by rw [can_len]; exact hdl20, by rw [can_len]; exact hdl20, ?_⟩
  walk_at "y"
  exact key
theorem pure_law : ∀ p, d_law p { nx := fun _ _ => False, rt := fun r _ _ => r = .sh (.bl true) } (Sl.no :: Sl.sh (.ref p) :: List.replicate (N_law.length - 2) .no) 0 := by
  intro p
  unfold d_law
  refine seq_step fun nx hnx => ?_
  walk_at "y"
  refine ⟨by decide, ?_⟩
  refine for_inv (fun i ρ A => A ≤ 100 * i ∧ ∃ s0 s1 s2 s3, ρ = [s0, .sh (.ref p), s1, s2, s3]) (fun i x ρ A E' hx hI hrt hn hc hb => ?_) (fun ρ A hI => ?_) ⟨by omega, _, _, _, _, rfl⟩
  · obtain ⟨h2, rfl⟩ := rng_get hx
    obtain ⟨hA, s0, s1, s2, s3, rfl⟩ := hI
    have h2 : i < 8 := h2
    walk_at "y"
    refine ⟨rfl, (show A + 100 ≤ 100000 by omega), fun d a b A' ha hb2 h1 h3 hne hA' => ?_⟩
    walk_at "y"
    refine ⟨d, a, b, rfl, ha, hb2, h3, hne, ?_⟩
    walk_at "y"
    exact hn _ _ ⟨by omega, _, _, _, _, rfl⟩
  · refine hnx _ _ ?_
    walk_at "y"
end My
set_option Elab.async false
set_option linter.all false
set_option maxRecDepth 100000
set_option maxHeartbeats 4000000
namespace My
open PySem PySem.Spec PyProof.Rows L2 Y
def h_canonical : He.DefD := ⟨("canonical", none), "canonical", "canonical", defArgs s_canonical, defBody s_canonical, defScope s_canonical, [], []⟩
def h_step_between : He.DefD := ⟨("step_between", none), "step_between", "step_between", defArgs s_step_between, defBody s_step_between, defScope s_step_between, [], []⟩
def h_law_pen : He.DefD := ⟨("_law_pen", none), "_law_pen", "_law_pen", defArgs s_law_pen, defBody s_law_pen, defScope s_law_pen, [], []⟩
def h_law_draw : He.DefD := ⟨("_law_draw", none), "_law_draw", "_law_draw", defArgs s_law_draw, defBody s_law_draw, defScope s_law_draw, [], []⟩
def h_law_place : He.DefD := ⟨("_law_place", none), "_law_place", "_law_place", defArgs s_law_place, defBody s_law_place, defScope s_law_place, [], []⟩
def h_law_pair : He.DefD := ⟨("_law_pair", none), "_law_pair", "_law_pair", defArgs s_law_pair, defBody s_law_pair, defScope s_law_pair, [], []⟩
def h_law_turned : He.DefD := ⟨("_law_turned", none), "_law_turned", "_law_turned", defArgs s_law_turned, defBody s_law_turned, defScope s_law_turned, [], []⟩
def h_law_between : He.DefD := ⟨("_law_between", none), "_law_between", "_law_between", defArgs s_law_between, defBody s_law_between, defScope s_law_between, [], []⟩
def h_law_is_step : He.DefD := ⟨("_law_is_step", none), "_law_is_step", "_law_is_step", defArgs s_law_is_step, defBody s_law_is_step, defScope s_law_is_step, [], []⟩
def h_law_right : He.DefD := ⟨("_law_right", none), "_law_right", "_law_right", defArgs s_law_right, defBody s_law_right, defScope s_law_right, [], []⟩
def h_law : He.DefD := ⟨("law", none), "law", "law", defArgs s_law, defBody s_law, defScope s_law, [], []⟩
def fn : List He.DefD := [h_canonical, h_step_between, h_law_pen, h_law_draw, h_law_place, h_law_pair, h_law_turned, h_law_between, h_law_is_step, h_law_right, h_law]
def fa : List He.Fa := [.glo "canonical", .glo "step_between", .glo "_law_pen", .glo "_law_draw", .glo "_law_place", .glo "_law_pair", .glo "_law_turned", .glo "_law_between", .glo "_law_is_step", .glo "_law_right", .glo "law", .free "abs", .free "bool", .free "int", .free "isinstance", .free "len", .free "list", .free "range", .free "repr", .free "tuple", .free "zip"]
abbrev Rw : PySem.W.OpenRow := PySem.W.OpenLaw.row PySem.Challenge.rw_hiddenturns_k09_steps_and_their_signs
abbrev hk : PySem.W.Hook := He.hookD 4 fa fn
def ob (s : PySem.W.SharedT) : He.AlD := He.obsDG 4 fa fn (HandSHeadRun.getT s)
theorem ob_eq (s : PySem.W.SharedT) : ob s = hk.obs s.abs := He.obsDG_eq (HandSHeadRun.getT_eq s)
def loose : List PySem.Str := ["canonical", "step_between", "_law_pen", "_law_draw", "_law_place", "_law_pair", "_law_turned", "_law_between", "_law_is_step", "_law_right"]
set_option maxHeartbeats 0 in
theorem run (w : World) : HandSHeadRun.RunEq Rw (PySem.W.view Rw.prog [12]) hk ob 6000 loose w := by
  intro os
  kernel_rfl
theorem body_law : defBody s_law = (defBody s_law).headD (.Pass ⟨0, 0, 0, 0⟩) :: (defBody s_law).tail := rfl
theorem facts {P : Program} {w : World} {K : PySem.W.Frag} {h : Heap} {mg : Str → Option Value} {f : Addr} (X : K.In h) (G : h.Ns mainGlobals mg) (hfa : mg ("law" : Str) = some (.ref f)) (c : He.SaysD fa fn K) :
    ∃ fd : FuncData, (∀ (s : Shared) (v : Value), BindsTo s fd ⟨[v], []⟩ [("_law_script", v)]) ∧ ∀ base : Heap, K.In base → base.Ns mainGlobals mg → FnOk P w K mg base CX0 4 f fd P_law (spLaw K) := by
  obtain ⟨fd_canonical, F_canonical⟩ := c.def_ 0 (d := h_canonical) rfl
  obtain ⟨fd_step_between, F_step_between⟩ := c.def_ 1 (d := h_step_between) rfl
  obtain ⟨fd_law_pen, F_law_pen⟩ := c.def_ 2 (d := h_law_pen) rfl
  obtain ⟨fd_law_draw, F_law_draw⟩ := c.def_ 3 (d := h_law_draw) rfl
  obtain ⟨fd_law_place, F_law_place⟩ := c.def_ 4 (d := h_law_place) rfl
  obtain ⟨fd_law_pair, F_law_pair⟩ := c.def_ 5 (d := h_law_pair) rfl
  obtain ⟨fd_law_turned, F_law_turned⟩ := c.def_ 6 (d := h_law_turned) rfl
  obtain ⟨fd_law_between, F_law_between⟩ := c.def_ 7 (d := h_law_between) rfl
  obtain ⟨fd_law_is_step, F_law_is_step⟩ := c.def_ 8 (d := h_law_is_step) rfl
  obtain ⟨fd_law_right, F_law_right⟩ := c.def_ 9 (d := h_law_right) rfl
  obtain ⟨fd_law, F_law⟩ := c.def_ 10 (d := h_law) rfl
  have e := hfa.symm.trans (He.glo_ok X G (c.fact 10 (f := .glo "law") rfl))
  cases e
  have z_abs : ∀ {base : Heap}, K.In base → base.Ns mainGlobals mg → mg "abs" = none := fun _ _ => He.free_ok X G (c.fact 11 (f := .free "abs") rfl)
  have z_bool : ∀ {base : Heap}, K.In base → base.Ns mainGlobals mg → mg "bool" = none := fun _ _ => He.free_ok X G (c.fact 12 (f := .free "bool") rfl)
  have z_int : ∀ {base : Heap}, K.In base → base.Ns mainGlobals mg → mg "int" = none := fun _ _ => He.free_ok X G (c.fact 13 (f := .free "int") rfl)
  have z_isinstance : ∀ {base : Heap}, K.In base → base.Ns mainGlobals mg → mg "isinstance" = none := fun _ _ => He.free_ok X G (c.fact 14 (f := .free "isinstance") rfl)
  have z_len : ∀ {base : Heap}, K.In base → base.Ns mainGlobals mg → mg "len" = none := fun _ _ => He.free_ok X G (c.fact 15 (f := .free "len") rfl)
  have z_list : ∀ {base : Heap}, K.In base → base.Ns mainGlobals mg → mg "list" = none := fun _ _ => He.free_ok X G (c.fact 16 (f := .free "list") rfl)
  have z_range : ∀ {base : Heap}, K.In base → base.Ns mainGlobals mg → mg "range" = none := fun _ _ => He.free_ok X G (c.fact 17 (f := .free "range") rfl)
  have z_repr : ∀ {base : Heap}, K.In base → base.Ns mainGlobals mg → mg "repr" = none := fun _ _ => He.free_ok X G (c.fact 18 (f := .free "repr") rfl)
  have z_tuple : ∀ {base : Heap}, K.In base → base.Ns mainGlobals mg → mg "tuple" = none := fun _ _ => He.free_ok X G (c.fact 19 (f := .free "tuple") rfl)
  have z_zip : ∀ {base : Heap}, K.In base → base.Ns mainGlobals mg → mg "zip" = none := fun _ _ => He.free_ok X G (c.fact 20 (f := .free "zip") rfl)
  have b := FunD.bindsA (ps := P_law) F_law bind_law
  refine ⟨fd_law, fun s v => b s [v] rfl, fun base hb1 hb2 => ?_⟩
  have z_abs : mg "abs" = none := He.free_ok X G (c.fact 11 (f := .free "abs") rfl)
  have z_bool : mg "bool" = none := He.free_ok X G (c.fact 12 (f := .free "bool") rfl)
  have z_int : mg "int" = none := He.free_ok X G (c.fact 13 (f := .free "int") rfl)
  have z_isinstance : mg "isinstance" = none := He.free_ok X G (c.fact 14 (f := .free "isinstance") rfl)
  have z_len : mg "len" = none := He.free_ok X G (c.fact 15 (f := .free "len") rfl)
  have z_list : mg "list" = none := He.free_ok X G (c.fact 16 (f := .free "list") rfl)
  have z_range : mg "range" = none := He.free_ok X G (c.fact 17 (f := .free "range") rfl)
  have z_repr : mg "repr" = none := He.free_ok X G (c.fact 18 (f := .free "repr") rfl)
  have z_tuple : mg "tuple" = none := He.free_ok X G (c.fact 19 (f := .free "tuple") rfl)
  have z_zip : mg "zip" = none := He.free_ok X G (c.fact 20 (f := .free "zip") rfl)
  have g_canonical : Fn P w K mg base "canonical" s_canonical 1 P_canonical (spP K ph_canonical) := fn_of_ok (He.glo_ok X G (c.fact 0 (f := .glo "canonical") rfl)) F_canonical bind_canonical (fn_pure F_canonical sc_canonical len_canonical (der_canonical z_tuple) pure_canonical)
  have g_step_between : Fn P w K mg base "step_between" s_step_between 1 P_step_between (spP K ph_step_between) := fn_of_ok (He.glo_ok X G (c.fact 1 (f := .glo "step_between") rfl)) F_step_between bind_step_between (fn_pure F_step_between sc_step_between len_step_between (der_step_between z_tuple z_zip) pure_step_between)
  have g_law_pen : Fn P w K mg base "_law_pen" s_law_pen 1 P_law_pen (spMk K) := fn_of_ok (He.glo_ok X G (c.fact 2 (f := .glo "_law_pen") rfl)) F_law_pen bind_law_pen (fn_mkpen F_law_pen sc_law_pen rfl (der_law_pen z_list))
  have g_law_draw : Fn P w K mg base "_law_draw" s_law_draw 1 P_law_draw (spD K ph_law_draw) := fn_of_ok (He.glo_ok X G (c.fact 3 (f := .glo "_law_draw") rfl)) F_law_draw bind_law_draw (fn_pen lim F_law_draw sc_law_draw rfl (der_law_draw z_abs z_int z_len) pure_law_draw)
  have g_law_place : Fn P w K mg base "_law_place" s_law_place 2 P_law_place (spD K ph_law_place) := fn_of_ok (He.glo_ok X G (c.fact 4 (f := .glo "_law_place") rfl)) F_law_place bind_law_place (fn_draw F_law_place sc_law_place len_law_place (der_law_place g_law_draw z_range z_tuple) pure_law_place)
  have g_law_pair : Fn P w K mg base "_law_pair" s_law_pair 3 P_law_pair (spD K ph_law_pair) := fn_of_ok (He.glo_ok X G (c.fact 5 (f := .glo "_law_pair") rfl)) F_law_pair bind_law_pair (fn_draw F_law_pair sc_law_pair len_law_pair (der_law_pair g_law_draw g_law_place z_int) pure_law_pair)
  have g_law_turned : Fn P w K mg base "_law_turned" s_law_turned 1 P_law_turned (spP K ph_law_turned) := fn_of_ok (He.glo_ok X G (c.fact 6 (f := .glo "_law_turned") rfl)) F_law_turned bind_law_turned (fn_pure F_law_turned sc_law_turned len_law_turned (der_law_turned z_tuple) pure_law_turned)
  have g_law_between : Fn P w K mg base "_law_between" s_law_between 1 P_law_between (spP K ph_law_between) := fn_of_ok (He.glo_ok X G (c.fact 7 (f := .glo "_law_between") rfl)) F_law_between bind_law_between (fn_pure F_law_between sc_law_between len_law_between (der_law_between z_len z_range z_tuple) pure_law_between)
  have g_law_is_step : Fn P w K mg base "_law_is_step" s_law_is_step 1 P_law_is_step (spP K ph_law_is_step) := fn_of_ok (He.glo_ok X G (c.fact 8 (f := .glo "_law_is_step") rfl)) F_law_is_step bind_law_is_step (fn_pure F_law_is_step sc_law_is_step len_law_is_step (der_law_is_step z_bool z_int z_isinstance z_tuple) pure_law_is_step)
  have g_law_right : Fn P w K mg base "_law_right" s_law_right 2 P_law_right (spP K ph_law_right) := fn_of_ok (He.glo_ok X G (c.fact 9 (f := .glo "_law_right") rfl)) F_law_right bind_law_right (fn_pure F_law_right sc_law_right len_law_right (der_law_right g_canonical g_step_between g_law_turned g_law_between g_law_is_step z_isinstance z_len z_repr z_tuple) pure_law_right)
  exact fn_law (fd_body body_law F_law) sc_law rfl (der0_law g_law_pen) (der_law g_law_pen g_law_pair g_law_right z_range) pure_law (by decide)
end My
open PySem PySem.W PySem.Calls PyProof.Rows
set_option maxHeartbeats 0 in
theorem PySem.Challenge.cw_hiddenturns_k09_steps_and_their_signs_holds : PySem.Challenge.rw_hiddenturns_k09_steps_and_their_signs.Holds := by
  w_on; o_law
  refine HandSHeadRun.head_any (r := OpenLaw.row PySem.Challenge.rw_hiddenturns_k09_steps_and_their_signs) (q := view (OpenLaw.row PySem.Challenge.rw_hiddenturns_k09_steps_and_their_signs).prog [12]) (H := My.hk) (ob := My.ob) (M := 6000) (loose := My.loose) (d := HandSHeadRun.topDef (OpenLaw.row PySem.Challenge.rw_hiddenturns_k09_steps_and_their_signs).prog 12) (kwd := []) My.ob_eq
    (by kernel_rfl) (fun s => by kernel_rfl) My.run (by kernel_rfl) (by kernel_rfl) (by kernel_rfl) (by rfl) (by first | assumption | decide +kernel) (by decide +kernel) ⟨rfl, rfl, rfl, rfl, rfl, by decide +kernel⟩ ?hw ?hc
  case hw => w_witness2
  case hc =>
    refine L2.walk_ofE (l := PySem.Challenge.rw_hiddenturns_k09_steps_and_their_signs) (n := 63) (k := 4) (x := "_law_script") (CX := L2.CX0) rfl (by decide) (by kernel_rfl) ⟨rfl, by decide, by decide⟩ ?F (fun _ _ _ _ z => z)
    intro w mg fa h Y G hmg0
    obtain ⟨K, KX, c⟩ := Y
    have hmg : mg ("law" : PySem.Str) = some (.ref fa) := by
      have e : (HandSHeadRun.topDef (OpenLaw.row PySem.Challenge.rw_hiddenturns_k09_steps_and_their_signs).prog 12).name = ("law" : PySem.Str) := by kernel_rfl
      rw [← e]
      exact hmg0
    obtain ⟨fd, hb, hF⟩ := My.facts (P := (PySem.Challenge.rw_hiddenturns_k09_steps_and_their_signs).prog) (w := w) KX G hmg c
    exact ⟨K, fd, Y.spLaw K, KX, hb, fun H a ns hl _ hS => ⟨a, ns, rfl, hS, hl, fun _ => rfl⟩, hF⟩
